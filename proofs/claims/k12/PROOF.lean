import PyProof.Rows.All
import KE.SortData
import HandS.Head2
import HandS.HeadHook4
import HandS.Ends
import HandS.HeadEnd
import HandS.Defaults
import HandS.Exc
import KE.KExcInit
import HandS.Words
import HandS.HeadHook1
import HandS.HeadHook2
import PySem.Challenge.RW_appendedbook_k12_refusals_made
import HandS.ExcField
import Wide.All
import OpenK.AllK
import Wide.FinOn
import KE.KStateDown
import HandS.Head0
import HandS.Head1
import HandS.HeadHook3
import HandS.ForMost
import HandS.TryOnly
import HandS.TryMany
import HandS.IsInst
import HandS.Flow
import HandS.Style
import HandS.Codes
import HandS.FStr
import HandS.Zip
import HandS.Rev
import HandS.Strs
import HandS.ExcInit
import HandS.ExcValue
import HandS.TupMul
import HandS.TupAny
import HandS.Conv
import HandS.More
import HandS.SortInts
import HandS.MakeKw
import HandS.ExcOwn
import HandS.MakeKwOnly
import KE.KDictPairs
import HandS.Small
import KE.KRevSl
import PyProof.ReprRoads
import HandS.StrMore
import HandS.RaiseMore
import HandS.CallLocal
import KE.KUnpackStar
import HandS.ExcIs
import KE.KIsAll
import HandS.Text
import HandS.Deep
import HandS.Dict
import PyProof.StrLawsFrom
import KE.KExcIs
import KE.KTryMore
import HandS.SetFor
import HandS.DictComp
import PyProof.Rows.SetFrom
import HandS.SortOrd
import HandS.SortRule
import KE.GoesEnum
import HandS.DictEq
import HandS.Finally
import HandS.ExcBuiltin
import PyProof.Rows.FactsExc_KeyError
set_option linter.all false
set_option autoImplicit false
set_option maxRecDepth 100000
section
namespace Fw
abbrev Tx := List Nat
abbrev K1 := Int ⊕ Tx
inductive D where
  | non
  | bl (b : Bool)
  | int (i : Int)
  | str (s : Tx)
  | tup (xs : List D)
  | lst (xs : List D)
  | dct (kvs : List (K1 × D))
  | obj (c : Nat) (fs : List (Nat × D))
  | ref (n : Nat)
  | fn (f : Nat)
  | roi (is : List Int)
  deriving Inhabited
inductive O where
  | lst (xs : List D)
  | ro (xs : List D)
  | dct (kvs : List (K1 × D))
  | ins (c : Nat) (fs : List (Nat × D))
  | dtu (kvs : List (List K1 × D))
  | rod (kvs : List (K1 × D))
abbrev Hh := List O
abbrev Sg := List (Option D)
structure Exn where
  cls : Nat
  fld : Option (Nat × D)
inductive R (α : Type) where
  | ok (a : α) (h : Hh)
  | xn (x : Exn) (h : Hh)
  | bad
namespace R
def bind {α β : Type} (r : R α) (f : α → Hh → R β) : R β := match r with
  | .ok a h => f a h
  | .xn x h => .xn x h
  | .bad => .bad
@[simp] theorem bind_ok {α β : Type} (a : α) (h : Hh) (f : α → Hh → R β) : (R.ok a h).bind f = f a h := (rfl)
@[simp] theorem bind_xn {α β : Type} (x : Exn) (h : Hh) (f : α → Hh → R β) : (R.xn x h : R α).bind f = .xn x h := (rfl)
@[simp] theorem bind_bad {α β : Type} (f : α → Hh → R β) : (R.bad : R α).bind f = .bad := (rfl)
end R
def opt (o : Option D) (h : Hh) : R D := match o with
  | some d => .ok d h
  | none => .bad
@[simp] theorem opt_some (d : D) (h : Hh) : opt (some d) h = .ok d h := (rfl)
@[simp] theorem opt_none (h : Hh) : opt none h = .bad := (rfl)
def line : Nat := 16777216
def asLst (h : Hh) : D → Option (List D)
  | .lst xs => some xs
  | .ref n => match h[n]? with
    | some (.lst xs) => some xs
    | _ => none
  | _ => none
def asSeq (h : Hh) : D → Option (List D)
  | .tup xs => some xs
  | .roi is => some (is.map .int)
  | .lst xs => some xs
  | .ref n => match h[n]? with
    | some (.lst xs) => some xs
    | some (.ro xs) => some xs
    | _ => none
  | _ => none
def asDct (h : Hh) : D → Option (List (K1 × D))
  | .dct kvs => some kvs
  | .ref n => match h[n]? with
    | some (.dct kvs) => some kvs
    | some (.rod kvs) => some kvs
    | _ => none
  | _ => none
def key1 : D → Option K1
  | .int i => some (.inl i)
  | .str s => some (.inr s)
  | _ => none
def seen (h : Hh) : Nat → D → Option D
  | _, .ref n => match h[n]? with
    | some (.lst xs) => some (.lst xs)
    | some (.ro xs) => some (.lst xs)
    | some (.dct kvs) => some (.dct kvs)
    | _ => none
  | _, d => some d
mutual
def D.flat : Nat → D → Bool
  | _, .non => true
  | _, .bl _ => true
  | _, .int _ => true
  | _, .str s => s.all (· < 1114112)
  | 0, .tup xs => xs.isEmpty
  | n + 1, .tup xs => flatAll n xs
  | 0, .lst xs => xs.isEmpty
  | n + 1, .lst xs => flatAll n xs
  | _, _ => false
def flatAll : Nat → List D → Bool
  | _, [] => true
  | n, x :: xs => x.flat n && flatAll n xs
end
mutual
def D.eqv : D → D → Bool
  | .non, .non => true
  | .bl a, .bl b => a == b
  | .bl a, .int j => (if a then 1 else 0) == j
  | .int i, .bl b => i == (if b then 1 else 0)
  | .int i, .int j => i == j
  | .str x, .str y => x == y
  | .lst xs, .lst ys => eqvAll xs ys
  | .tup xs, .tup ys => eqvAll xs ys
  | _, _ => false
def eqvAll : List D → List D → Bool
  | [], [] => true
  | x :: xs, y :: ys => x.eqv y && eqvAll xs ys
  | _, _ => false
end
def scalar : D → Bool
  | .non => true
  | .bl _ => true
  | .int _ => true
  | .str _ => true
  | _ => false
def scalPair : D → D → Bool
  | .bl _, .int _ => false
  | .int _, .bl _ => false
  | a, b => scalar a && scalar b
def emptyPair : D → D → Bool
  | .lst [], .lst _ => true
  | .lst _, .lst [] => true
  | .tup [], .tup _ => true
  | .tup _, .tup [] => true
  | _, _ => false
def eqD (h : Hh) (a b : D) : Option Bool :=
  if scalPair a b then some (a.eqv b) else
  match seen h 0 a, seen h 0 b with
  | some a, some b => if emptyPair a b then some (a.eqv b) else if a.flat 60 && b.flat 60 then some (a.eqv b) else none
  | _, _ => none
def D.isNon : D → Bool
  | .non => true
  | _ => false
inductive Bop where
  | add | sub | mul | fdiv | mod | pow
inductive Cop where
  | eq | ne | lt | le | gt | ge | is_ | isnt | in_ | notin
def big : Int := 18446744073709551616
def binop (h : Hh) : Bop → D → D → Option D
  | .add, .int i, .int j => some (.int (i + j))
  | .add, .str x, .str y => if x.length + y.length ≤ line then some (.str (x ++ y)) else none
  | .add, .tup xs, .tup ys => if xs.length + ys.length ≤ line then some (.tup (xs ++ ys)) else none
  | .add, a, b => match asLst h a, asLst h b with
    | some xs, some ys => if xs.length + ys.length ≤ line then some (.lst (xs ++ ys)) else none
    | _, _ => none
  | .sub, .int i, .int j => some (.int (i - j))
  | .mul, .int i, .int j => if (-big < i ∧ i < big) ∨ (-big < j ∧ j < big) then some (.int (i * j)) else none
  | .mul, .str x, .int j => if 0 ≤ j ∧ j ≤ 100000 ∧ x.length * j.toNat ≤ line then some (.str (List.flatten (List.replicate j.toNat x))) else none
  | .mul, .tup xs, .int j => if xs ≠ [] ∧ 2 ≤ j ∧ j ≤ 1000 ∧ xs.length ≤ 1000 then some (.tup (List.flatten (List.replicate j.toNat xs))) else none
  | .mul, .lst xs, .int j => if 0 ≤ j ∧ j ≤ 1000 ∧ xs.length ≤ 1000 then some (.lst (List.flatten (List.replicate j.toNat xs))) else none
  | .fdiv, .int i, .int j => if 0 < j ∧ j < 1073741824 then some (.int (i / j)) else none
  | .mod, .int i, .int j => if 0 < j then some (.int (i % j)) else none
  | .pow, .int i, .int j => if 0 ≤ j ∧ j ≤ 1000000 ∧ i.natAbs < 18446744073709551616 then some (.int (i ^ j.toNat)) else none
  | _, _, _ => none
def isMem (h : Hh) (a b : D) : Option Bool := match asDct h b with
  | some kvs => (key1 a).map fun k => kvs.any fun q => decide (q.1 = k)
  | none => match asSeq h b with
    | some xs => if scalar a && xs.all scalar then some (xs.any fun y => y.eqv a) else none
    | none => none
def cmpop (h : Hh) : Cop → D → D → Option Bool
  | .eq, a, b => eqD h a b
  | .ne, a, b => (eqD h a b).map (!·)
  | .lt, .int i, .int j => some (decide (i < j))
  | .le, .int i, .int j => some (decide (i ≤ j))
  | .gt, .int i, .int j => some (decide (j < i))
  | .ge, .int i, .int j => some (decide (j ≤ i))
  | .lt, .str x, .str y => some (decide (x < y))
  | .le, .str x, .str y => some (!decide (y < x))
  | .is_, a, .non => some a.isNon
  | .isnt, a, .non => some (!a.isNon)
  | .is_, .bl a, .bl b => some (a == b)
  | .isnt, .bl a, .bl b => some (a != b)
  | .in_, .str [c], .str y => some (decide (c ∈ y))
  | .notin, .str [c], .str y => some (!decide (c ∈ y))
  | .in_, a, b => isMem h a b
  | .notin, a, b => (isMem h a b).map (!·)
  | _, _, _ => none
def ixn (n : Nat) (i : Int) : Option Nat := if 0 ≤ i then (if i < n then some i.toNat else none) else if -(n : Int) ≤ i then some (i + n).toNat else none
def look (k : K1) : List (K1 × D) → Option D
  | [] => none
  | (j, d) :: r => if j = k then some d else look k r
def put (k : K1) (d : D) (l : List (K1 × D)) : List (K1 × D) :=
  if l.any fun q => decide (q.1 = k) then l.map fun q => if q.1 = k then (q.1, d) else q else l ++ [(k, d)]
def index (h : Hh) (a b : D) : Option D := match b with
  | .int i => (match a with
    | .str s => if s.length ≤ line then ((ixn s.length i).bind fun j => s[j]?).map fun c => .str [c] else none
    | _ => match asSeq h a with
      | some xs => (ixn xs.length i).bind fun j => xs[j]?
      | none => (asDct h a).bind fun kvs => look (.inl i) kvs)
  | .str s => (asDct h a).bind fun kvs => look (.inr s) kvs
  | _ => none
mutual
def D.py : D → PySem.PyData
  | .non => .none
  | .bl b => .bool b
  | .int i => .int i
  | .str s => .str ⟨s.toArray⟩
  | .tup xs => .tuple (pyAll xs)
  | .lst xs => .list (pyAll xs)
  | _ => .none
def pyAll : List D → List PySem.PyData
  | [] => []
  | x :: xs => x.py :: pyAll xs
end
def lenD (h : Hh) (d : D) : Option D := match d with
  | .str s => if s.length ≤ line then some (.int s.length) else none
  | d => match asSeq h d with
    | some xs => some (.int xs.length)
    | none => (asDct h d).map fun kvs => .int kvs.length
def intD (_ : Hh) : D → Option D
  | .bl b => some (.int (if b then 1 else 0))
  | .int i => some (.int i)
  | _ => none
def minD (_ : Hh) : D → D → Option D
  | .int i, .int j => some (.int (if j < i then j else i))
  | _, _ => none
def maxD (_ : Hh) : D → D → Option D
  | .int i, .int j => some (.int (if j > i then j else i))
  | _, _ => none
inductive T1 where
  | non | bl | int | str | tup | lst | dct | own (c : Nat)
  deriving DecidableEq
def appD (h : Hh) : D → D → Option (D × Option (Nat × O))
  | .ref n, d => match h[n]? with
    | some (.lst xs) => if xs.length < line then some (.non, some (n, .lst (xs ++ [d]))) else none
    | _ => none
  | _, _ => none
def wr (h : Hh) : Option (Nat × O) → Hh
  | none => h
  | some (n, o) => h.set n o
@[simp] theorem wr_none (h : Hh) : wr h none = h := (rfl)
@[simp] theorem wr_some (h : Hh) (n : Nat) (o : O) : wr h (some (n, o)) = h.set n o := (rfl)
inductive G where
  | nm (i : Nat)
  | tp (gs : List G)
inductive It where
  | e | range | enum | zip | enumx
inductive SR where
  | nx (σ : Sg) (h : Hh)
  | rt (d : D) (h : Hh)
  | bk (σ : Sg) (h : Hh)
  | ct (σ : Sg) (h : Hh)
  | xn (x : Exn) (σ : Sg) (h : Hh)
  | bad
def sget (σ : Sg) (i : Nat) : Option D := match σ[i]? with
  | some (some d) => some d
  | _ => none
def wipe (σ : Sg) : List Nat → Sg
  | [] => σ
  | v :: vs => (wipe σ vs).set v none
mutual
def bindG (σ : Sg) : G → D → Option Sg
  | .nm i, d => some (σ.set i (some d))
  | .tp gs, .tup xs => bindGs σ gs xs
  | .tp gs, .lst xs => bindGs σ gs xs
  | _, _ => none
def bindGs (σ : Sg) : List G → List D → Option Sg
  | [], [] => some σ
  | g :: gs, x :: xs => match bindG σ g x with
    | some σ => bindGs σ gs xs
    | none => none
  | _, _ => none
end
mutual
def G.ix : G → List Nat
  | .nm i => [i]
  | .tp gs => ixs gs
def ixs : List G → List Nat
  | [] => []
  | g :: gs => g.ix ++ ixs gs
end
def rangeD (lo : Int) (n : Nat) : List D := (List.range n).map fun (i : Nat) => .int (lo + (i : Int))
def zipD : List D → List D → List D
  | x :: xs, y :: ys => .tup [x, y] :: zipD xs ys
  | _, _ => []
def zip3D : List D → List D → List D → List D
  | x :: xs, y :: ys, z :: zs => .tup [x, y, z] :: zip3D xs ys zs
  | _, _, _ => []
def enumD (xs : List D) : List D := xs.zipIdx.map fun q => .tup [.int q.2, q.1]
def lim : Int := 4611686018427387904
def walk : It → List D → Option (List D)
  | .e, [.str s] => some (s.map fun c => .str [c])
  | .e, [.lst xs] => some xs
  | .e, [.tup xs] => some xs
  | .range, [.int n] => if -lim ≤ n ∧ n < lim then some (rangeD 0 n.toNat) else none
  | .range, [.int m, .int n] => if -lim ≤ m ∧ m < lim ∧ -lim ≤ n ∧ n < lim then some (rangeD m (n - m).toNat) else none
  | .enum, [.lst xs] => some (enumD xs)
  | .zip, [.lst xs, .lst ys] => some (zipD xs ys)
  | .zip, [.tup xs, .tup ys] => some (zipD xs ys)
  | .zip, [.lst xs, .lst ys, .lst zs] => some (zip3D xs ys zs)
  | .enumx, [.tup xs] => some (enumD xs)
  | .enumx, [.str s] => some (enumD (s.map fun c => .str [c]))
  | _, _ => none
abbrev Call := Nat → List D → Hh → R D
abbrev TM := Sg → Hh → R D
abbrev AM := Sg → Hh → R (List D)
abbrev BM := Sg → Hh → R Bool
abbrev SM := Sg → Hh → SR
def optB (o : Option Bool) (h : Hh) : R Bool := match o with
  | some d => .ok d h
  | none => .bad
@[simp] theorem optB_some (d : Bool) (h : Hh) : optB (some d) h = .ok d h := (rfl)
@[simp] theorem optB_none (h : Hh) : optB none h = .bad := (rfl)
def eC (d : D) : TM := fun _ h => .ok d h
def eV (i : Nat) : TM := fun σ h => opt (sget σ i) h
def aNil : AM := fun _ h => .ok [] h
def aCons (a : TM) (r : AM) : AM := fun σ h => (a σ h).bind fun d h => (r σ h).bind fun ds h => .ok (d :: ds) h
def eTup (as : AM) : TM := fun σ h => (as σ h).bind fun ds h => if ds.length ≤ line then .ok (.tup ds) h else .bad
def eLst (as : AM) : TM := fun σ h => (as σ h).bind fun ds h => if ds.length ≤ line then .ok (.lst ds) h else .bad
def eNewL (as : AM) : TM := fun σ h => (as σ h).bind fun ds h => if ds.length ≤ line then .ok (.ref h.length) (h ++ [.lst ds]) else .bad
def eBin (op : Bop) (a b : TM) : TM := fun σ h => (a σ h).bind fun d h => (b σ h).bind fun e h => opt (binop h op d e) h
def eCmp (op : Cop) (a b : TM) : TM := fun σ h => (a σ h).bind fun d h => (b σ h).bind fun e h => opt ((cmpop h op d e).map .bl) h
def eNeg (a : TM) : TM := fun σ h => (a σ h).bind fun d h => match d with
  | .int i => .ok (.int (-i)) h
  | _ => .bad
def eCall (c : List D → Hh → R D) (as : AM) : TM := fun σ h => (as σ h).bind fun ds h => c ds h
def eU (f : Hh → D → Option D) (a : TM) : TM := fun σ h => (a σ h).bind fun d h => opt (f h d) h
def eU2 (f : Hh → D → D → Option D) (a b : TM) : TM := fun σ h => (a σ h).bind fun d h => (b σ h).bind fun e h => opt (f h d e) h
def optW (h : Hh) (o : Option (D × Option (Nat × O))) : R D := match o with
  | none => .bad
  | some (r, w) => .ok r (wr h w)
@[simp] theorem optW_some (h : Hh) (r : D) (w : Option (Nat × O)) : optW h (some (r, w)) = .ok r (wr h w) := (rfl)
def eM (k : Hh → D → Bool) (f : Hh → D → D → Option (D × Option (Nat × O))) (a b : TM) : TM := fun σ h => (a σ h).bind fun d h => if k h d then (b σ h).bind fun e h => optW h (f h d e) else .bad
def isLst (h : Hh) (d : D) : Bool := (asLst h d).isSome
def eIx (a b : TM) : TM := fun σ h => (a σ h).bind fun d h => (b σ h).bind fun e h => opt (index h d e) h
def bCmp (op : Cop) (a b : TM) : BM := fun σ h => (a σ h).bind fun d h => (b σ h).bind fun e h => optB (cmpop h op d e) h
def bOr (a b : BM) : BM := fun σ h => (a σ h).bind fun k h => if k then .ok true h else b σ h
def bYes : BM := fun _ h => .ok true h
def lcL (step : D → Hh → R (Option D)) : List D → List D → Hh → R (List D)
  | [], acc, h => .ok acc h
  | x :: xs, acc, h => (step x h).bind fun o h => match o with
    | none => lcL step xs acc h
    | some d => if acc.length < line then lcL step xs (acc ++ [d]) h else .bad
def noX {α : Type} : R α → R α
  | .xn _ _ => .bad
  | r => r
@[simp] theorem noX_ok {α : Type} (a : α) (h : Hh) : noX (.ok a h) = .ok a h := (rfl)
@[simp] theorem noX_xn {α : Type} (x : Exn) (h : Hh) : noX (.xn x h : R α) = .bad := (rfl)
@[simp] theorem noX_bad {α : Type} : noX (.bad : R α) = .bad := (rfl)
def itM (it : It) (src : AM) : AM := fun σ h => (src σ h).bind fun ds h => match walk it ds with
  | none => .bad
  | some xs => .ok xs h
def lcStep (elt : TM) (g : G) (cond : BM) (own : List Nat) (σ : Sg) (x : D) (h : Hh) : R (Option D) := match bindG (wipe σ own) g x with
  | none => .bad
  | some σ => (cond σ h).bind fun t h => if t then (elt σ h).bind fun d h => .ok (some d) h else .ok none h
def eLc (elt : TM) (g : G) (it : It) (src : AM) (cond : BM) (own : List Nat) : TM := fun σ h => (itM it src σ h).bind fun xs h => (noX (lcL (lcStep elt g cond own σ) xs [] h)).bind fun ys h => .ok (.lst ys) h
def SR.of {α : Type} (σ : Sg) (r : R α) (k : α → Hh → SR) : SR := match r with
  | .ok a h => k a h
  | .xn x h => .xn x σ h
  | .bad => .bad
@[simp] theorem SR.of_ok {α : Type} (σ : Sg) (a : α) (h : Hh) (k : α → Hh → SR) : SR.of σ (.ok a h) k = k a h := (rfl)
@[simp] theorem SR.of_xn {α : Type} (σ : Sg) (x : Exn) (h : Hh) (k : α → Hh → SR) : SR.of σ (.xn x h) k = .xn x σ h := (rfl)
@[simp] theorem SR.of_bad {α : Type} (σ : Sg) (k : α → Hh → SR) : SR.of σ .bad k = .bad := (rfl)
def SR.then_ (r : SR) (k : Sg → Hh → SR) : SR := match r with
  | .nx σ h => k σ h
  | r => r
@[simp] theorem SR.then_nx (σ : Sg) (h : Hh) (k : Sg → Hh → SR) : SR.then_ (.nx σ h) k = k σ h := (rfl)
@[simp] theorem SR.then_rt (d : D) (h : Hh) (k : Sg → Hh → SR) : SR.then_ (.rt d h) k = .rt d h := (rfl)
@[simp] theorem SR.then_bk (σ : Sg) (h : Hh) (k : Sg → Hh → SR) : SR.then_ (.bk σ h) k = .bk σ h := (rfl)
@[simp] theorem SR.then_ct (σ : Sg) (h : Hh) (k : Sg → Hh → SR) : SR.then_ (.ct σ h) k = .ct σ h := (rfl)
@[simp] theorem SR.then_xn (x : Exn) (σ : Sg) (h : Hh) (k : Sg → Hh → SR) : SR.then_ (.xn x σ h) k = .xn x σ h := (rfl)
@[simp] theorem SR.then_bad (k : Sg → Hh → SR) : SR.then_ .bad k = .bad := (rfl)
def sNil : SM := fun σ h => .nx σ h
def sCons (a b : SM) : SM := fun σ h => (a σ h).then_ b
def sSet (i : Nat) (e : TM) : SM := fun σ h => .of σ (e σ h) fun d h => .nx (σ.set i (some d)) h
def setIx (h : Hh) (a b c : D) : Option Hh := match a with
  | .ref n => match h[n]?, b with
    | some (.lst xs), .int i => (ixn xs.length i).map fun j => h.set n (.lst (xs.set j c))
    | some (.dct kvs), b => (key1 b).bind fun k => if kvs.length < line then some (h.set n (.dct (put k c kvs))) else none
    | _, _ => none
  | _ => none
def sSetI (a b c : TM) : SM := fun σ h => .of σ (c σ h) fun v h => .of σ (a σ h) fun o h => .of σ (b σ h) fun i h => match setIx h o i v with
  | some h => .nx σ h
  | none => .bad
def sEx (e : TM) : SM := fun σ h => .of σ (e σ h) fun _ h => .nx σ h
def sRet (e : TM) : SM := fun σ h => .of σ (e σ h) fun d h => .rt d h
def sIf (t : BM) (a b : SM) : SM := fun σ h => .of σ (t σ h) fun k h => if k then a σ h else b σ h
def forL (body : D → Sg → Hh → SR) : List D → Sg → Hh → SR
  | [], σ, h => .nx σ h
  | x :: xs, σ, h => match body x σ h with
    | .nx σ h => forL body xs σ h
    | .ct σ h => forL body xs σ h
    | .bk σ h => .nx σ h
    | r => r
def forB (g : G) (b : SM) (x : D) (σ : Sg) (h : Hh) : SR := match bindG σ g x with
  | none => .bad
  | some σ => b σ h
def sFor (g : G) (it : It) (src : AM) (b : SM) : SM := fun σ h => .of σ (itM it src σ h) fun xs h => forL (forB g b) xs σ h
mutual
def D.closed : D → Bool
  | .tup xs => closedAll xs
  | .lst xs => closedAll xs
  | .dct kvs => closedK kvs
  | .obj _ fs => closedF fs
  | .ref _ => false
  | _ => true
def closedAll : List D → Bool
  | [] => true
  | x :: xs => x.closed && closedAll xs
def closedK : List (K1 × D) → Bool
  | [] => true
  | x :: xs => x.2.closed && closedK xs
def closedF : List (Nat × D) → Bool
  | [] => true
  | x :: xs => x.2.closed && closedF xs
end
def O.closed : O → Bool
  | .lst xs => closedAll xs
  | .ro xs => closedAll xs
  | .dct kvs => closedK kvs
  | .ins _ fs => closedF fs
  | .dtu _ => false
  | .rod _ => false
def lend (k : Nat) : List D → Option (List D × List Nat)
  | [] => some ([], [])
  | .ref n :: r => (lend (k + 1) r).map fun q => (.ref k :: q.1, n :: q.2)
  | d :: r => if d.closed then (lend k r).map fun q => (d :: q.1, q.2) else none
def lentO (h : Hh) : List Nat → Option Hh
  | [] => some []
  | n :: r => match h[n]? with
    | some o => if o.closed then (lentO h r).map (o :: ·) else none
    | none => none
mutual
def D.map_ (g : Nat → Option D) : D → Option D
  | .tup xs => (mapAll g xs).map .tup
  | .lst xs => (mapAll g xs).map .lst
  | .dct kvs => (mapK g kvs).map .dct
  | .obj c fs => (mapF g fs).map (.obj c)
  | .ref n => g n
  | d => some d
def mapAll (g : Nat → Option D) : List D → Option (List D)
  | [] => some []
  | x :: xs => (x.map_ g).bind fun y => (mapAll g xs).map (y :: ·)
def mapK (g : Nat → Option D) : List (K1 × D) → Option (List (K1 × D))
  | [] => some []
  | x :: xs => (x.2.map_ g).bind fun y => (mapK g xs).map ((x.1, y) :: ·)
def mapF (g : Nat → Option D) : List (Nat × D) → Option (List (Nat × D))
  | [] => some []
  | x :: xs => (x.2.map_ g).bind fun y => (mapF g xs).map ((x.1, y) :: ·)
end
def frz (h : Hh) (k : Nat) : Nat → Nat → Option D
  | 0, _ => none
  | f + 1, n => if n < k then none else match h[n]? with
    | some (.lst xs) => (mapAll (frz h k f) xs).map .lst
    | some (.dct kvs) => (mapK (frz h k f) kvs).map .dct
    | some (.ins c fs) => if c < 100 then (mapF (frz h k f) fs).map (.obj c) else none
    | _ => none
def frzO (h : Hh) (k : Nat) : O → Option O
  | .lst xs => (mapAll (frz h k 4) xs).map .lst
  | .ro xs => (mapAll (frz h k 4) xs).map .ro
  | .dct kvs => (mapK (frz h k 4) kvs).map .dct
  | .ins c fs => (mapF (frz h k 4) fs).map (.ins c)
  | .dtu _ => none
  | .rod _ => none
def tell (h : Hh) (ns : List Nat) (d : D) : Option D := match d with
  | .ref n => match ns[n]? with
    | some m => some (.ref m)
    | none => frz h ns.length 4 n
  | d => d.map_ (frz h ns.length 4)
def giveBack (hc : Hh) (k : Nat) : List Nat → Nat → Hh → Option Hh
  | [], _, h => some h
  | n :: ns, i, h => match hc[i]? with
    | some o => (frzO hc k o).bind fun o => giveBack hc k ns (i + 1) (h.set n o)
    | none => none
def tellX (h : Hh) (ns : List Nat) (x : Exn) : Option Exn := match x.fld with
  | none => some ⟨x.cls, none⟩
  | some (k, d) => (tell h ns d).map fun d => ⟨x.cls, some (k, d)⟩
def okB (d : Option D) (h : Option Hh) : R D := match d, h with
  | some d, some h => .ok d h
  | _, _ => .bad
@[simp] theorem okB_some (d : D) (h : Hh) : okB (some d) (some h) = .ok d h := (rfl)
def xnB (x : Option Exn) (h : Option Hh) : R D := match x, h with
  | some x, some h => .xn x h
  | _, _ => .bad
@[simp] theorem xnB_some (x : Exn) (h : Hh) : xnB (some x) (some h) = .xn x h := (rfl)
def back (ns : List Nat) (h : Hh) : SR → R D
  | .nx _ hc => okB (some .non) (giveBack hc ns.length ns 0 h)
  | .rt d hc => okB (tell hc ns d) (giveBack hc ns.length ns 0 h)
  | .xn x _ hc => xnB (tellX hc ns x) (giveBack hc ns.length ns 0 h)
  | _ => .bad
def mkBack (ns : List Nat) (h : Hh) : SR → R D
  | .nx _ hc => back ns h (.rt (.ref ns.length) hc)
  | .rt .non hc => back ns h (.rt (.ref ns.length) hc)
  | .xn x σ hc => back ns h (.xn x σ hc)
  | _ => .bad
def startD (N : Nat) (ds : List D) : Sg := ds.map some ++ List.replicate (N - ds.length) none
def lent (ds : List D) (h : Hh) : Option (List D × List Nat × Hh) := match lend 0 ds with
  | none => none
  | some (ds', ns) => if ns.Nodup then match lentO h ns with
    | none => none
    | some hc => some (ds', ns, hc) else none
def own (np N : Nat) (b : SM) (ds : List D) (h : Hh) : R D := if ds.length = np then (match lent ds h with
  | none => .bad
  | some (ds', ns, hc) => back ns h (b (startD N ds') hc)) else .bad
def make (c np N : Nat) (b : SM) (ds : List D) (h : Hh) : R D := if ds.length + 1 = np then (match lent ds h with
  | none => .bad
  | some (ds', ns, hc) => mkBack ns h (b (startD N (.ref ns.length :: ds')) (hc ++ [.ins c []]))) else .bad
def SR.out : SR → R D
  | .nx _ h => .ok .non h
  | .rt d h => .ok d h
  | .xn x _ h => .xn x h
  | _ => .bad
def full (np N : Nat) (b : SM) (ds : List D) (h : Hh) : R D := if ds.length = np then (b (startD N ds) h).out else .bad
end Fw
end
section
set_option Elab.async false
set_option maxHeartbeats 1000000
noncomputable section
namespace Fw
open PySem PySem.Spec PyProof.Rows L2
def toS (t : Tx) : Str := ⟨t.toArray⟩
def isB (K : PySem.W.Frag) (D : Addr) : Bool := (PySem.W.findIn K (.ref D) "__getattribute__" == some (some (.builtin "BaseException.__getattribute__"))) && (PySem.W.findIn K (.ref D) "__getattr__" == some none) &&
  (PySem.W.subIn K (.ref D) (.type "BaseException") == some true) && PySem.W.hasDictIn K D && (PySem.W.findIn K (.ref D) "__class__" == some (some (.builtin "object.__class__"))) &&
  (PySem.W.specialIn K (.builtin "object.__class__") "__get__" == some (some (.builtin "getset_descriptor.__get__"))) && (PySem.W.takesIn K (.builtin "object.__class__") == some true) && (PySem.W.mroIn K D (.type "object") == some true)
def oxB (K : PySem.W.Frag) (C : Addr) : Bool := match K.lookup C with
  | some ⟨.type t, _, .cls cd, sl⟩ => (match cd.mro, sl.toList with
    | .ref C' :: bm, [_, _, _, _, some (.builtin n), _] => t == "type" && C' == C && n == "ValueError.__new__" && !cd.hasDel && cd.hasDict && PySem.HandSPX.refsVE bm
    | _, _ => false)
  | _ => false
def oexB (K : PySem.W.Frag) (C : Addr) : Bool := oxB K C && (PySem.W.findIn K (.ref C) "__setattr__" == some (some (.builtin "object.__setattr__"))) && (PySem.W.subIn K (.ref C) (.type "BaseException") == some true) && (PySem.W.typeIn K (.ref C) == some (.type "type")) && PySem.W.keepIn K (.ref C)
def fcB (K : PySem.W.Frag) (B : Addr) : Bool := match PySem.W.findCls K (.ref B) (.type "type") "__init__" with
  | some (.val v) => v == .builtin "ValueError.__init__"
  | _ => false
def raGB (K : PySem.W.Frag) (C : Addr) (tl : List Value) (newId : String) : Bool := PySem.W.excIn K C tl newId && PySem.W.keepIn K (.ref C) && (PySem.W.subIn K (.ref C) (.type "BaseException") == some true) && (PySem.W.typeIn K (.ref C) == some (.type "type"))
def oxGB (K : PySem.W.Frag) (C : Addr) (tl : List Value) (newId : String) : Bool := match K.lookup C with
  | some ⟨.type t, _, .cls cd, sl⟩ => (match cd.mro, sl.toList with
    | .ref C' :: bm, [_, _, _, _, some (.builtin n), _] => t == "type" && C' == C && n == newId && !cd.hasDel && cd.hasDict && PySem.W.excTail tl bm
    | _, _ => false)
  | _ => false
def oexGB (K : PySem.W.Frag) (C : Addr) (tl : List Value) (newId : String) : Bool := oxGB K C tl newId && (PySem.W.findIn K (.ref C) "__setattr__" == some (some (.builtin "object.__setattr__"))) && (PySem.W.subIn K (.ref C) (.type "BaseException") == some true) && (PySem.W.typeIn K (.ref C) == some (.type "type")) && PySem.W.keepIn K (.ref C)
def fcTB (K : PySem.W.Frag) (B initId : String) : Bool := match PySem.W.findCls K (.type B) (.type "type") "__init__" with
  | some (.val v) => v == .builtin initId
  | _ => false
end Fw
end
end
section
set_option Elab.async false
set_option maxHeartbeats 0
namespace Lw
open PySem PySem.Spec PyProof.Rows L2 Fw
def top (i : Nat) : Stmt := PySem.Challenge.pw_appendedbook_k12_refusals_made.main.body.getD i (.Pass ⟨0, 0, 0, 0⟩)
def inC (s : Stmt) (j : Nat) : Stmt := match s with
  | .ClassDef _ _ _ b _ _ _ _ _ _ _ => b.getD j (.Pass ⟨0, 0, 0, 0⟩)
  | _ => s
abbrev st0 : Stmt := top 22
def d0 : He.DefD := ⟨("_law_made", none), "_law_made", "_law_made", defArgs st0, defBody st0, defScope st0, [], []⟩
abbrev st1 : Stmt := top 23
def d1 : He.DefD := ⟨("_law_classes", none), "_law_classes", "_law_classes", defArgs st1, defBody st1, defScope st1, [], []⟩
abbrev st2 : Stmt := top 24
def d2 : He.DefD := ⟨("_law_bases", none), "_law_bases", "_law_bases", defArgs st2, defBody st2, defScope st2, [], []⟩
abbrev st3 : Stmt := top 25
def d3 : He.DefD := ⟨("_law_due_bases", none), "_law_due_bases", "_law_due_bases", defArgs st3, defBody st3, defScope st3, [], []⟩
abbrev st4 : Stmt := top 26
def d4 : He.DefD := ⟨("_law_fields", none), "_law_fields", "_law_fields", defArgs st4, defBody st4, defScope st4, [], []⟩
abbrev st5 : Stmt := top 27
def d5 : He.DefD := ⟨("_law_pool", none), "_law_pool", "_law_pool", defArgs st5, defBody st5, defScope st5, [], []⟩
abbrev st6 : Stmt := top 28
def d6 : He.DefD := ⟨("_law_take", none), "_law_take", "_law_take", defArgs st6, defBody st6, defScope st6, [], []⟩
abbrev st7 : Stmt := top 29
def d7 : He.DefD := ⟨("_law_named", none), "_law_named", "_law_named", defArgs st7, defBody st7, defScope st7, [], []⟩
abbrev st8 : Stmt := top 30
def d8 : He.DefD := ⟨("law", none), "law", "law", defArgs st8, defBody st8, defScope st8, [], []⟩
abbrev st918 : Stmt := inC (top 20) 0
def d918 : He.DefD := ⟨("TooMany", some "__init__"), "__init__", "TooMany.__init__", defArgs st918, defBody st918, defScope st918, [], []⟩
abbrev st915 : Stmt := inC (top 17) 0
def d915 : He.DefD := ⟨("NoName", some "__init__"), "__init__", "NoName.__init__", defArgs st915, defBody st915, defScope st915, [], []⟩
abbrev st914 : Stmt := inC (top 16) 0
def d914 : He.DefD := ⟨("NoPage", some "__init__"), "__init__", "NoPage.__init__", defArgs st914, defBody st914, defScope st914, [], []⟩
abbrev st913 : Stmt := inC (top 15) 0
def d913 : He.DefD := ⟨("NoWriting", some "__init__"), "__init__", "NoWriting.__init__", defArgs st913, defBody st913, defScope st913, [], []⟩
abbrev st912 : Stmt := inC (top 14) 0
def d912 : He.DefD := ⟨("NoThing", some "__init__"), "__init__", "NoThing.__init__", defArgs st912, defBody st912, defScope st912, [], []⟩
abbrev st906 : Stmt := inC (top 8) 0
def d906 : He.DefD := ⟨("Ring", some "__init__"), "__init__", "Ring.__init__", defArgs st906, defBody st906, defScope st906, [], []⟩
abbrev st905 : Stmt := inC (top 7) 0
def d905 : He.DefD := ⟨("NoPages", some "__init__"), "__init__", "NoPages.__init__", defArgs st905, defBody st905, defScope st905, [], []⟩
abbrev st904 : Stmt := inC (top 6) 0
def d904 : He.DefD := ⟨("NoDeed", some "__init__"), "__init__", "NoDeed.__init__", defArgs st904, defBody st904, defScope st904, [], []⟩
abbrev st903 : Stmt := inC (top 5) 0
def d903 : He.DefD := ⟨("NoWhole", some "__init__"), "__init__", "NoWhole.__init__", defArgs st903, defBody st903, defScope st903, [], []⟩
abbrev st902 : Stmt := inC (top 4) 0
def d902 : He.DefD := ⟨("NoChain", some "__init__"), "__init__", "NoChain.__init__", defArgs st902, defBody st902, defScope st902, [], []⟩
abbrev st901 : Stmt := inC (top 3) 0
def d901 : He.DefD := ⟨("NoOld", some "__init__"), "__init__", "NoOld.__init__", defArgs st901, defBody st901, defScope st901, [], []⟩
abbrev st900 : Stmt := inC (top 2) 0
def d900 : He.DefD := ⟨("NoFile", some "__init__"), "__init__", "NoFile.__init__", defArgs st900, defBody st900, defScope st900, [], []⟩
def ix__law_made : Nat := 0
def ix__law_classes : Nat := 1
def ix__law_bases : Nat := 2
def ix__law_due_bases : Nat := 3
def ix__law_fields : Nat := 4
def ix__law_pool : Nat := 5
def ix__law_take : Nat := 6
def ix__law_named : Nat := 7
def ix_law : Nat := 8
def faW (K : PySem.W.Frag) (n : Nat) : Addr := match n with
    | _ => 0
end Lw
end
section
set_option Elab.async false
set_option maxHeartbeats 1000000
noncomputable section
namespace Fw
open PySem PySem.Spec PyProof.Rows L2 He
def asR (lo k : Nat) : List Addr := mainGlobals :: List.range' lo k
def obsR (as : List Addr) (fa : List Fa) (fn : List DefD) (ts : List Tab) (ex : PySem.W.Frag → Bool) (g : Addr → Option Obj) : AlX := (obsT fa fn ts (frT g as), ex (frT g as) && tabsB g [] (frT g as))
theorem saysR_of {as : List Addr} {fa : List Fa} {fn : List DefD} {ts : List Tab} {ex : PySem.W.Frag → Bool} {w : World} {h : Heap} (e : obsR as fa fn ts ex h.get? = valX fn ts w) : SaysX fa fn ts [] ex w h (frT h.get? as) := by
  have e1 : obsT fa fn ts (frT h.get? as) = valT fn ts w := congrArg (fun z : AlX => z.1) e
  have e2 : (ex (frT h.get? as) && tabsB h.get? [] (frT h.get? as)) = true := congrArg (fun z : AlX => z.2) e
  obtain ⟨h1, h2⟩ := ba e2
  exact ⟨e1, h1, fun p hp => (nomatch hp), fun p hp => (nomatch hp), fun p hp => (nomatch hp)⟩
def hookR (as : List Addr) (fa : List Fa) (fn : List DefD) (ts : List Tab) (ex : PySem.W.Frag → Bool) : PySem.W.Hook where
  α := AlX
  obs := fun s => obsR as fa fn ts ex s.heap.get?
  val := fun w => valX fn ts w
  says := fun w h => ∃ K : PySem.W.Frag, K.In h ∧ SaysX fa fn ts [] ex w h K
  of := fun _ _ e => ⟨_, frT_in, saysR_of e⟩
  keeps := fun _ _ _ ⟨K, hK, c⟩ k => ⟨K, PySem.W.Frag.In.keeps hK k, ⟨c.t, c.more, c.hd, c.out, fun p hp => k _ _ (c.empty p hp)⟩⟩
theorem obsR_eq {as : List Addr} {fa : List Fa} {fn : List DefD} {ts : List Tab} {ex : PySem.W.Frag → Bool} {g : Addr → Option Obj} {s : Shared} (h : ∀ a, g a = s.heap.get? a) : obsR as fa fn ts ex g = (hookR as fa fn ts ex).obs s := by
  have e : g = s.heap.get? := funext h
  rw [e] <;> rfl
section
open PySem.W HandSHeadRun
variable {r : OpenRow} {q : Program} {M : Nat} {loose : List PySem.Str} {w : World} {as : List Addr} {fa : List Fa} {fn : List DefD} {ts : List Tab} {ex : PySem.W.Frag → Bool}
end
end Fw
end
section
set_option Elab.async false
namespace Fw
open PySem PySem.Spec PyProof.Rows L2
section
def eTabB (K : PySem.W.Frag) (u : Value) (l : List (Addr × Bool)) : Bool := l.all fun q => PySem.W.kitOne K (.ref q.1) u == some q.2
def eExB (K : PySem.W.Frag) (l : List Addr) : Bool := l.all fun a => isB K a
def eFdB (K : PySem.W.Frag) (f : Str) (l : List Addr) : Bool := l.all fun a => xfB K a && (PySem.W.findIn K (.ref a) f == some none)
end
end Fw
end
section
set_option autoImplicit true
set_option Elab.async false
set_option maxHeartbeats 0
namespace Lw
open PySem PySem.Spec PyProof.Rows L2 Fw
abbrev RwL : PySem.W.OpenRow := PySem.W.OpenLaw.row PySem.Challenge.rw_appendedbook_k12_refusals_made
def lawIx : List Stmt → Nat → Nat
  | [], _ => 0
  | .FunctionDef n _ _ _ _ _ _ _ _ _ :: r, i => if n = ("law" : Str) then i else lawIx r (i + 1)
  | _ :: r, i => lawIx r (i + 1)
def ix : Nat := lawIx RwL.prog.main.body 0
def namesOf (ss : List Stmt) : List Str := (ss.filterMap fun s => match s with
  | .FunctionDef n _ _ _ _ _ _ _ _ _ => if n = ("law" : Str) then none else some n
  | .Assign [.Name n _] _ _ => if n = ("__name__" : Str) then none else some n
  | .ClassDef n _ _ _ _ _ _ _ _ _ _ => some n
  | _ => none)
def names : List Str := namesOf RwL.prog.main.body
def fas : List He.Fa := [.glo "Bare", .glo "BookError", .glo "NoChain", .glo "NoDeed", .glo "NoFile", .glo "NoName", .glo "NoOld", .glo "NoPage", .glo "NoPages", .glo "NoPiece", .glo "NoRow", .glo "NoSeal", .glo "NoThing", .glo "NoTo", .glo "NoValue", .glo "NoWhole", .glo "NoWriting", .glo "Ring", .glo "TooMany", .glo "Waiting", .glo "_law_bases", .glo "_law_classes", .glo "_law_due_bases", .glo "_law_fields", .glo "_law_made", .glo "_law_named", .glo "_law_pool", .glo "_law_take", .glo "law", .free "IndexError", .free "KeyError", .free "LookupError", .free "OverflowError", .free "RuntimeError", .free "ValueError", .free "enumerate", .free "int", .free "isinstance", .free "len", .free "max", .free "min", .free "range", .free "repr"]
def fns : List He.DefD := [d0, d1, d2, d3, d4, d5, d6, d7, d8, d918, d915, d914, d913, d912, d906, d905, d904, d903, d902, d901, d900]
def tbs : List He.Tab := []
def exB (K : PySem.W.Frag) : Bool := fcB K (He.ga K "BookError") && eFdB K "many" [(He.ga K "TooMany")] && eFdB K "name" [(He.ga K "NoName")] && eFdB K "number" [(He.ga K "NoDeed"), (He.ga K "NoPages"), (He.ga K "Ring"), (He.ga K "NoThing"), (He.ga K "NoWriting"), (He.ga K "NoPage")] && eFdB K "place" [(He.ga K "NoFile"), (He.ga K "NoOld"), (He.ga K "NoChain"), (He.ga K "NoWhole")] && fcTB K "IndexError" "IndexError.__init__" && fcTB K "KeyError" "KeyError.__init__" && fcTB K "LookupError" "LookupError.__init__" && fcTB K "OverflowError" "OverflowError.__init__" && (PySem.W.findIn K (.ref (He.ga K "NoFile")) "__init__" == some (some (.ref (He.fAd K ("NoFile", some "__init__"))))) && (PySem.W.findIn K (.ref (He.ga K "NoOld")) "__init__" == some (some (.ref (He.fAd K ("NoOld", some "__init__"))))) && (PySem.W.findIn K (.ref (He.ga K "NoChain")) "__init__" == some (some (.ref (He.fAd K ("NoChain", some "__init__"))))) && (PySem.W.findIn K (.ref (He.ga K "NoWhole")) "__init__" == some (some (.ref (He.fAd K ("NoWhole", some "__init__"))))) && (PySem.W.findIn K (.ref (He.ga K "NoDeed")) "__init__" == some (some (.ref (He.fAd K ("NoDeed", some "__init__"))))) && (PySem.W.findIn K (.ref (He.ga K "NoPages")) "__init__" == some (some (.ref (He.fAd K ("NoPages", some "__init__"))))) && (PySem.W.findIn K (.ref (He.ga K "Ring")) "__init__" == some (some (.ref (He.fAd K ("Ring", some "__init__"))))) && (PySem.W.findIn K (.ref (He.ga K "NoThing")) "__init__" == some (some (.ref (He.fAd K ("NoThing", some "__init__"))))) && (PySem.W.findIn K (.ref (He.ga K "NoWriting")) "__init__" == some (some (.ref (He.fAd K ("NoWriting", some "__init__"))))) && (PySem.W.findIn K (.ref (He.ga K "NoPage")) "__init__" == some (some (.ref (He.fAd K ("NoPage", some "__init__"))))) && (PySem.W.findIn K (.ref (He.ga K "NoName")) "__init__" == some (some (.ref (He.fAd K ("NoName", some "__init__"))))) && (PySem.W.findIn K (.ref (He.ga K "TooMany")) "__init__" == some (some (.ref (He.fAd K ("TooMany", some "__init__"))))) && eTabB K (.ref (He.ga K "Bare")) [((He.ga K "NoFile"), false), ((He.ga K "NoOld"), false), ((He.ga K "NoChain"), false), ((He.ga K "NoWhole"), false), ((He.ga K "NoDeed"), false), ((He.ga K "NoPages"), false), ((He.ga K "Ring"), false), ((He.ga K "NoValue"), false), ((He.ga K "NoPiece"), false), ((He.ga K "NoTo"), false), ((He.ga K "NoSeal"), false), ((He.ga K "NoRow"), false), ((He.ga K "NoThing"), false), ((He.ga K "NoWriting"), false), ((He.ga K "NoPage"), false), ((He.ga K "NoName"), false), ((He.ga K "Bare"), true), ((He.ga K "Waiting"), false), ((He.ga K "TooMany"), false)] && eTabB K (.ref (He.ga K "BookError")) [((He.ga K "NoFile"), true), ((He.ga K "NoOld"), true), ((He.ga K "NoChain"), true), ((He.ga K "NoWhole"), true), ((He.ga K "NoDeed"), true), ((He.ga K "NoPages"), true), ((He.ga K "Ring"), true), ((He.ga K "NoValue"), true), ((He.ga K "NoPiece"), true), ((He.ga K "NoTo"), true), ((He.ga K "NoSeal"), true), ((He.ga K "NoRow"), true), ((He.ga K "NoThing"), false), ((He.ga K "NoWriting"), false), ((He.ga K "NoPage"), false), ((He.ga K "NoName"), false), ((He.ga K "Bare"), false), ((He.ga K "Waiting"), false), ((He.ga K "TooMany"), false)] && eTabB K (.type "IndexError") [((He.ga K "NoFile"), false), ((He.ga K "NoOld"), false), ((He.ga K "NoChain"), false), ((He.ga K "NoWhole"), false), ((He.ga K "NoDeed"), false), ((He.ga K "NoPages"), false), ((He.ga K "Ring"), false), ((He.ga K "NoValue"), false), ((He.ga K "NoPiece"), false), ((He.ga K "NoTo"), false), ((He.ga K "NoSeal"), false), ((He.ga K "NoRow"), false), ((He.ga K "NoThing"), false), ((He.ga K "NoWriting"), true), ((He.ga K "NoPage"), true), ((He.ga K "NoName"), false), ((He.ga K "Bare"), false), ((He.ga K "Waiting"), false), ((He.ga K "TooMany"), false)] && eTabB K (.type "KeyError") [((He.ga K "NoFile"), false), ((He.ga K "NoOld"), false), ((He.ga K "NoChain"), false), ((He.ga K "NoWhole"), false), ((He.ga K "NoDeed"), false), ((He.ga K "NoPages"), false), ((He.ga K "Ring"), false), ((He.ga K "NoValue"), false), ((He.ga K "NoPiece"), false), ((He.ga K "NoTo"), false), ((He.ga K "NoSeal"), false), ((He.ga K "NoRow"), false), ((He.ga K "NoThing"), false), ((He.ga K "NoWriting"), false), ((He.ga K "NoPage"), false), ((He.ga K "NoName"), true), ((He.ga K "Bare"), false), ((He.ga K "Waiting"), false), ((He.ga K "TooMany"), false)] && eTabB K (.type "LookupError") [((He.ga K "NoFile"), false), ((He.ga K "NoOld"), false), ((He.ga K "NoChain"), false), ((He.ga K "NoWhole"), false), ((He.ga K "NoDeed"), false), ((He.ga K "NoPages"), false), ((He.ga K "Ring"), false), ((He.ga K "NoValue"), false), ((He.ga K "NoPiece"), false), ((He.ga K "NoTo"), false), ((He.ga K "NoSeal"), false), ((He.ga K "NoRow"), false), ((He.ga K "NoThing"), true), ((He.ga K "NoWriting"), true), ((He.ga K "NoPage"), true), ((He.ga K "NoName"), true), ((He.ga K "Bare"), false), ((He.ga K "Waiting"), false), ((He.ga K "TooMany"), false)] && eTabB K (.ref (He.ga K "NoChain")) [((He.ga K "NoFile"), false), ((He.ga K "NoOld"), false), ((He.ga K "NoChain"), true), ((He.ga K "NoWhole"), false), ((He.ga K "NoDeed"), false), ((He.ga K "NoPages"), false), ((He.ga K "Ring"), false), ((He.ga K "NoValue"), false), ((He.ga K "NoPiece"), false), ((He.ga K "NoTo"), false), ((He.ga K "NoSeal"), false), ((He.ga K "NoRow"), false), ((He.ga K "NoThing"), false), ((He.ga K "NoWriting"), false), ((He.ga K "NoPage"), false), ((He.ga K "NoName"), false), ((He.ga K "Bare"), false), ((He.ga K "Waiting"), false), ((He.ga K "TooMany"), false)] && eTabB K (.ref (He.ga K "NoDeed")) [((He.ga K "NoFile"), false), ((He.ga K "NoOld"), false), ((He.ga K "NoChain"), false), ((He.ga K "NoWhole"), false), ((He.ga K "NoDeed"), true), ((He.ga K "NoPages"), false), ((He.ga K "Ring"), false), ((He.ga K "NoValue"), false), ((He.ga K "NoPiece"), false), ((He.ga K "NoTo"), false), ((He.ga K "NoSeal"), false), ((He.ga K "NoRow"), false), ((He.ga K "NoThing"), false), ((He.ga K "NoWriting"), false), ((He.ga K "NoPage"), false), ((He.ga K "NoName"), false), ((He.ga K "Bare"), false), ((He.ga K "Waiting"), false), ((He.ga K "TooMany"), false)] && eTabB K (.ref (He.ga K "NoFile")) [((He.ga K "NoFile"), true), ((He.ga K "NoOld"), false), ((He.ga K "NoChain"), false), ((He.ga K "NoWhole"), false), ((He.ga K "NoDeed"), false), ((He.ga K "NoPages"), false), ((He.ga K "Ring"), false), ((He.ga K "NoValue"), false), ((He.ga K "NoPiece"), false), ((He.ga K "NoTo"), false), ((He.ga K "NoSeal"), false), ((He.ga K "NoRow"), false), ((He.ga K "NoThing"), false), ((He.ga K "NoWriting"), false), ((He.ga K "NoPage"), false), ((He.ga K "NoName"), false), ((He.ga K "Bare"), false), ((He.ga K "Waiting"), false), ((He.ga K "TooMany"), false)] && eTabB K (.ref (He.ga K "NoName")) [((He.ga K "NoFile"), false), ((He.ga K "NoOld"), false), ((He.ga K "NoChain"), false), ((He.ga K "NoWhole"), false), ((He.ga K "NoDeed"), false), ((He.ga K "NoPages"), false), ((He.ga K "Ring"), false), ((He.ga K "NoValue"), false), ((He.ga K "NoPiece"), false), ((He.ga K "NoTo"), false), ((He.ga K "NoSeal"), false), ((He.ga K "NoRow"), false), ((He.ga K "NoThing"), false), ((He.ga K "NoWriting"), false), ((He.ga K "NoPage"), false), ((He.ga K "NoName"), true), ((He.ga K "Bare"), false), ((He.ga K "Waiting"), false), ((He.ga K "TooMany"), false)] && eTabB K (.ref (He.ga K "NoOld")) [((He.ga K "NoFile"), false), ((He.ga K "NoOld"), true), ((He.ga K "NoChain"), false), ((He.ga K "NoWhole"), false), ((He.ga K "NoDeed"), false), ((He.ga K "NoPages"), false), ((He.ga K "Ring"), false), ((He.ga K "NoValue"), false), ((He.ga K "NoPiece"), false), ((He.ga K "NoTo"), false), ((He.ga K "NoSeal"), false), ((He.ga K "NoRow"), false), ((He.ga K "NoThing"), false), ((He.ga K "NoWriting"), false), ((He.ga K "NoPage"), false), ((He.ga K "NoName"), false), ((He.ga K "Bare"), false), ((He.ga K "Waiting"), false), ((He.ga K "TooMany"), false)] && eTabB K (.ref (He.ga K "NoPage")) [((He.ga K "NoFile"), false), ((He.ga K "NoOld"), false), ((He.ga K "NoChain"), false), ((He.ga K "NoWhole"), false), ((He.ga K "NoDeed"), false), ((He.ga K "NoPages"), false), ((He.ga K "Ring"), false), ((He.ga K "NoValue"), false), ((He.ga K "NoPiece"), false), ((He.ga K "NoTo"), false), ((He.ga K "NoSeal"), false), ((He.ga K "NoRow"), false), ((He.ga K "NoThing"), false), ((He.ga K "NoWriting"), false), ((He.ga K "NoPage"), true), ((He.ga K "NoName"), false), ((He.ga K "Bare"), false), ((He.ga K "Waiting"), false), ((He.ga K "TooMany"), false)] && eTabB K (.ref (He.ga K "NoPages")) [((He.ga K "NoFile"), false), ((He.ga K "NoOld"), false), ((He.ga K "NoChain"), false), ((He.ga K "NoWhole"), false), ((He.ga K "NoDeed"), false), ((He.ga K "NoPages"), true), ((He.ga K "Ring"), false), ((He.ga K "NoValue"), false), ((He.ga K "NoPiece"), false), ((He.ga K "NoTo"), false), ((He.ga K "NoSeal"), false), ((He.ga K "NoRow"), false), ((He.ga K "NoThing"), false), ((He.ga K "NoWriting"), false), ((He.ga K "NoPage"), false), ((He.ga K "NoName"), false), ((He.ga K "Bare"), false), ((He.ga K "Waiting"), false), ((He.ga K "TooMany"), false)] && eTabB K (.ref (He.ga K "NoPiece")) [((He.ga K "NoFile"), false), ((He.ga K "NoOld"), false), ((He.ga K "NoChain"), false), ((He.ga K "NoWhole"), false), ((He.ga K "NoDeed"), false), ((He.ga K "NoPages"), false), ((He.ga K "Ring"), false), ((He.ga K "NoValue"), false), ((He.ga K "NoPiece"), true), ((He.ga K "NoTo"), false), ((He.ga K "NoSeal"), false), ((He.ga K "NoRow"), false), ((He.ga K "NoThing"), false), ((He.ga K "NoWriting"), false), ((He.ga K "NoPage"), false), ((He.ga K "NoName"), false), ((He.ga K "Bare"), false), ((He.ga K "Waiting"), false), ((He.ga K "TooMany"), false)] && eTabB K (.ref (He.ga K "NoRow")) [((He.ga K "NoFile"), false), ((He.ga K "NoOld"), false), ((He.ga K "NoChain"), false), ((He.ga K "NoWhole"), false), ((He.ga K "NoDeed"), false), ((He.ga K "NoPages"), false), ((He.ga K "Ring"), false), ((He.ga K "NoValue"), false), ((He.ga K "NoPiece"), false), ((He.ga K "NoTo"), false), ((He.ga K "NoSeal"), false), ((He.ga K "NoRow"), true), ((He.ga K "NoThing"), false), ((He.ga K "NoWriting"), false), ((He.ga K "NoPage"), false), ((He.ga K "NoName"), false), ((He.ga K "Bare"), false), ((He.ga K "Waiting"), false), ((He.ga K "TooMany"), false)] && eTabB K (.ref (He.ga K "NoSeal")) [((He.ga K "NoFile"), false), ((He.ga K "NoOld"), false), ((He.ga K "NoChain"), false), ((He.ga K "NoWhole"), false), ((He.ga K "NoDeed"), false), ((He.ga K "NoPages"), false), ((He.ga K "Ring"), false), ((He.ga K "NoValue"), false), ((He.ga K "NoPiece"), false), ((He.ga K "NoTo"), false), ((He.ga K "NoSeal"), true), ((He.ga K "NoRow"), false), ((He.ga K "NoThing"), false), ((He.ga K "NoWriting"), false), ((He.ga K "NoPage"), false), ((He.ga K "NoName"), false), ((He.ga K "Bare"), false), ((He.ga K "Waiting"), false), ((He.ga K "TooMany"), false)] && eTabB K (.ref (He.ga K "NoThing")) [((He.ga K "NoFile"), false), ((He.ga K "NoOld"), false), ((He.ga K "NoChain"), false), ((He.ga K "NoWhole"), false), ((He.ga K "NoDeed"), false), ((He.ga K "NoPages"), false), ((He.ga K "Ring"), false), ((He.ga K "NoValue"), false), ((He.ga K "NoPiece"), false), ((He.ga K "NoTo"), false), ((He.ga K "NoSeal"), false), ((He.ga K "NoRow"), false), ((He.ga K "NoThing"), true), ((He.ga K "NoWriting"), false), ((He.ga K "NoPage"), false), ((He.ga K "NoName"), false), ((He.ga K "Bare"), false), ((He.ga K "Waiting"), false), ((He.ga K "TooMany"), false)] && eTabB K (.ref (He.ga K "NoTo")) [((He.ga K "NoFile"), false), ((He.ga K "NoOld"), false), ((He.ga K "NoChain"), false), ((He.ga K "NoWhole"), false), ((He.ga K "NoDeed"), false), ((He.ga K "NoPages"), false), ((He.ga K "Ring"), false), ((He.ga K "NoValue"), false), ((He.ga K "NoPiece"), false), ((He.ga K "NoTo"), true), ((He.ga K "NoSeal"), false), ((He.ga K "NoRow"), false), ((He.ga K "NoThing"), false), ((He.ga K "NoWriting"), false), ((He.ga K "NoPage"), false), ((He.ga K "NoName"), false), ((He.ga K "Bare"), false), ((He.ga K "Waiting"), false), ((He.ga K "TooMany"), false)] && eTabB K (.ref (He.ga K "NoValue")) [((He.ga K "NoFile"), false), ((He.ga K "NoOld"), false), ((He.ga K "NoChain"), false), ((He.ga K "NoWhole"), false), ((He.ga K "NoDeed"), false), ((He.ga K "NoPages"), false), ((He.ga K "Ring"), false), ((He.ga K "NoValue"), true), ((He.ga K "NoPiece"), false), ((He.ga K "NoTo"), false), ((He.ga K "NoSeal"), false), ((He.ga K "NoRow"), false), ((He.ga K "NoThing"), false), ((He.ga K "NoWriting"), false), ((He.ga K "NoPage"), false), ((He.ga K "NoName"), false), ((He.ga K "Bare"), false), ((He.ga K "Waiting"), false), ((He.ga K "TooMany"), false)] && eTabB K (.ref (He.ga K "NoWhole")) [((He.ga K "NoFile"), false), ((He.ga K "NoOld"), false), ((He.ga K "NoChain"), false), ((He.ga K "NoWhole"), true), ((He.ga K "NoDeed"), false), ((He.ga K "NoPages"), false), ((He.ga K "Ring"), false), ((He.ga K "NoValue"), false), ((He.ga K "NoPiece"), false), ((He.ga K "NoTo"), false), ((He.ga K "NoSeal"), false), ((He.ga K "NoRow"), false), ((He.ga K "NoThing"), false), ((He.ga K "NoWriting"), false), ((He.ga K "NoPage"), false), ((He.ga K "NoName"), false), ((He.ga K "Bare"), false), ((He.ga K "Waiting"), false), ((He.ga K "TooMany"), false)] && eTabB K (.ref (He.ga K "NoWriting")) [((He.ga K "NoFile"), false), ((He.ga K "NoOld"), false), ((He.ga K "NoChain"), false), ((He.ga K "NoWhole"), false), ((He.ga K "NoDeed"), false), ((He.ga K "NoPages"), false), ((He.ga K "Ring"), false), ((He.ga K "NoValue"), false), ((He.ga K "NoPiece"), false), ((He.ga K "NoTo"), false), ((He.ga K "NoSeal"), false), ((He.ga K "NoRow"), false), ((He.ga K "NoThing"), false), ((He.ga K "NoWriting"), true), ((He.ga K "NoPage"), false), ((He.ga K "NoName"), false), ((He.ga K "Bare"), false), ((He.ga K "Waiting"), false), ((He.ga K "TooMany"), false)] && eTabB K (.type "OverflowError") [((He.ga K "NoFile"), false), ((He.ga K "NoOld"), false), ((He.ga K "NoChain"), false), ((He.ga K "NoWhole"), false), ((He.ga K "NoDeed"), false), ((He.ga K "NoPages"), false), ((He.ga K "Ring"), false), ((He.ga K "NoValue"), false), ((He.ga K "NoPiece"), false), ((He.ga K "NoTo"), false), ((He.ga K "NoSeal"), false), ((He.ga K "NoRow"), false), ((He.ga K "NoThing"), false), ((He.ga K "NoWriting"), false), ((He.ga K "NoPage"), false), ((He.ga K "NoName"), false), ((He.ga K "Bare"), false), ((He.ga K "Waiting"), false), ((He.ga K "TooMany"), true)] && eTabB K (.ref (He.ga K "Ring")) [((He.ga K "NoFile"), false), ((He.ga K "NoOld"), false), ((He.ga K "NoChain"), false), ((He.ga K "NoWhole"), false), ((He.ga K "NoDeed"), false), ((He.ga K "NoPages"), false), ((He.ga K "Ring"), true), ((He.ga K "NoValue"), false), ((He.ga K "NoPiece"), false), ((He.ga K "NoTo"), false), ((He.ga K "NoSeal"), false), ((He.ga K "NoRow"), false), ((He.ga K "NoThing"), false), ((He.ga K "NoWriting"), false), ((He.ga K "NoPage"), false), ((He.ga K "NoName"), false), ((He.ga K "Bare"), false), ((He.ga K "Waiting"), false), ((He.ga K "TooMany"), false)] && eTabB K (.type "RuntimeError") [((He.ga K "NoFile"), false), ((He.ga K "NoOld"), false), ((He.ga K "NoChain"), false), ((He.ga K "NoWhole"), false), ((He.ga K "NoDeed"), false), ((He.ga K "NoPages"), false), ((He.ga K "Ring"), false), ((He.ga K "NoValue"), false), ((He.ga K "NoPiece"), false), ((He.ga K "NoTo"), false), ((He.ga K "NoSeal"), false), ((He.ga K "NoRow"), false), ((He.ga K "NoThing"), false), ((He.ga K "NoWriting"), false), ((He.ga K "NoPage"), false), ((He.ga K "NoName"), false), ((He.ga K "Bare"), true), ((He.ga K "Waiting"), true), ((He.ga K "TooMany"), false)] && eTabB K (.ref (He.ga K "TooMany")) [((He.ga K "NoFile"), false), ((He.ga K "NoOld"), false), ((He.ga K "NoChain"), false), ((He.ga K "NoWhole"), false), ((He.ga K "NoDeed"), false), ((He.ga K "NoPages"), false), ((He.ga K "Ring"), false), ((He.ga K "NoValue"), false), ((He.ga K "NoPiece"), false), ((He.ga K "NoTo"), false), ((He.ga K "NoSeal"), false), ((He.ga K "NoRow"), false), ((He.ga K "NoThing"), false), ((He.ga K "NoWriting"), false), ((He.ga K "NoPage"), false), ((He.ga K "NoName"), false), ((He.ga K "Bare"), false), ((He.ga K "Waiting"), false), ((He.ga K "TooMany"), true)] && eTabB K (.type "ValueError") [((He.ga K "NoFile"), true), ((He.ga K "NoOld"), true), ((He.ga K "NoChain"), true), ((He.ga K "NoWhole"), true), ((He.ga K "NoDeed"), true), ((He.ga K "NoPages"), true), ((He.ga K "Ring"), true), ((He.ga K "NoValue"), true), ((He.ga K "NoPiece"), true), ((He.ga K "NoTo"), true), ((He.ga K "NoSeal"), true), ((He.ga K "NoRow"), true), ((He.ga K "NoThing"), false), ((He.ga K "NoWriting"), false), ((He.ga K "NoPage"), false), ((He.ga K "NoName"), false), ((He.ga K "Bare"), false), ((He.ga K "Waiting"), false), ((He.ga K "TooMany"), false)] && eTabB K (.ref (He.ga K "Waiting")) [((He.ga K "NoFile"), false), ((He.ga K "NoOld"), false), ((He.ga K "NoChain"), false), ((He.ga K "NoWhole"), false), ((He.ga K "NoDeed"), false), ((He.ga K "NoPages"), false), ((He.ga K "Ring"), false), ((He.ga K "NoValue"), false), ((He.ga K "NoPiece"), false), ((He.ga K "NoTo"), false), ((He.ga K "NoSeal"), false), ((He.ga K "NoRow"), false), ((He.ga K "NoThing"), false), ((He.ga K "NoWriting"), false), ((He.ga K "NoPage"), false), ((He.ga K "NoName"), false), ((He.ga K "Bare"), false), ((He.ga K "Waiting"), true), ((He.ga K "TooMany"), false)] && eExB K [(He.ga K "NoFile"), (He.ga K "NoOld"), (He.ga K "NoChain"), (He.ga K "NoWhole"), (He.ga K "NoDeed"), (He.ga K "NoPages"), (He.ga K "Ring"), (He.ga K "NoValue"), (He.ga K "NoPiece"), (He.ga K "NoTo"), (He.ga K "NoSeal"), (He.ga K "NoRow"), (He.ga K "NoThing"), (He.ga K "NoWriting"), (He.ga K "NoPage"), (He.ga K "NoName"), (He.ga K "Bare"), (He.ga K "Waiting"), (He.ga K "TooMany")] && (PySem.W.findIn K (.ref (He.ga K "NoFile")) "place" == some none) && (PySem.W.findIn K (.ref (He.ga K "NoOld")) "place" == some none) && (PySem.W.findIn K (.ref (He.ga K "NoChain")) "place" == some none) && (PySem.W.findIn K (.ref (He.ga K "NoWhole")) "place" == some none) && (PySem.W.findIn K (.ref (He.ga K "NoDeed")) "number" == some none) && (PySem.W.findIn K (.ref (He.ga K "NoPages")) "number" == some none) && (PySem.W.findIn K (.ref (He.ga K "Ring")) "number" == some none) && (PySem.W.findIn K (.ref (He.ga K "NoThing")) "number" == some none) && (PySem.W.findIn K (.ref (He.ga K "NoWriting")) "number" == some none) && (PySem.W.findIn K (.ref (He.ga K "NoPage")) "number" == some none) && (PySem.W.findIn K (.ref (He.ga K "NoName")) "name" == some none) && (PySem.W.findIn K (.ref (He.ga K "TooMany")) "many" == some none) && oexGB K (He.ga K "NoFile") [.type "ValueError", .type "Exception", .type "BaseException", .type "object"] "ValueError.__new__" && oexGB K (He.ga K "NoOld") [.type "ValueError", .type "Exception", .type "BaseException", .type "object"] "ValueError.__new__" && oexGB K (He.ga K "NoChain") [.type "ValueError", .type "Exception", .type "BaseException", .type "object"] "ValueError.__new__" && oexGB K (He.ga K "NoWhole") [.type "ValueError", .type "Exception", .type "BaseException", .type "object"] "ValueError.__new__" && oexGB K (He.ga K "NoDeed") [.type "ValueError", .type "Exception", .type "BaseException", .type "object"] "ValueError.__new__" && oexGB K (He.ga K "NoPages") [.type "ValueError", .type "Exception", .type "BaseException", .type "object"] "ValueError.__new__" && oexGB K (He.ga K "Ring") [.type "ValueError", .type "Exception", .type "BaseException", .type "object"] "ValueError.__new__" && oexGB K (He.ga K "NoThing") [.type "LookupError", .type "Exception", .type "BaseException", .type "object"] "LookupError.__new__" && oexGB K (He.ga K "NoWriting") [.type "IndexError", .type "LookupError", .type "Exception", .type "BaseException", .type "object"] "IndexError.__new__" && oexGB K (He.ga K "NoPage") [.type "IndexError", .type "LookupError", .type "Exception", .type "BaseException", .type "object"] "IndexError.__new__" && oexGB K (He.ga K "NoName") [.type "KeyError", .type "LookupError", .type "Exception", .type "BaseException", .type "object"] "LookupError.__new__" && oexGB K (He.ga K "TooMany") [.type "OverflowError", .type "ArithmeticError", .type "Exception", .type "BaseException", .type "object"] "OverflowError.__new__" && oexB K (He.ga K "NoFile") && oexB K (He.ga K "NoOld") && oexB K (He.ga K "NoChain") && oexB K (He.ga K "NoWhole") && oexB K (He.ga K "NoDeed") && oexB K (He.ga K "NoPages") && oexB K (He.ga K "Ring") && oexGB K (He.ga K "NoThing") [.type "LookupError", .type "Exception", .type "BaseException", .type "object"] "LookupError.__new__" && oexGB K (He.ga K "NoWriting") [.type "IndexError", .type "LookupError", .type "Exception", .type "BaseException", .type "object"] "IndexError.__new__" && oexGB K (He.ga K "NoPage") [.type "IndexError", .type "LookupError", .type "Exception", .type "BaseException", .type "object"] "IndexError.__new__" && oexGB K (He.ga K "NoName") [.type "KeyError", .type "LookupError", .type "Exception", .type "BaseException", .type "object"] "LookupError.__new__" && oexGB K (He.ga K "TooMany") [.type "OverflowError", .type "ArithmeticError", .type "Exception", .type "BaseException", .type "object"] "OverflowError.__new__" && PySem.W.readsIn K (He.ga K "BookError") (.type "type") && raGB K (He.ga K "NoValue") [.type "ValueError", .type "Exception", .type "BaseException", .type "object"] "ValueError.__new__" && raGB K (He.ga K "NoPiece") [.type "ValueError", .type "Exception", .type "BaseException", .type "object"] "ValueError.__new__" && raGB K (He.ga K "NoTo") [.type "ValueError", .type "Exception", .type "BaseException", .type "object"] "ValueError.__new__" && raGB K (He.ga K "NoSeal") [.type "ValueError", .type "Exception", .type "BaseException", .type "object"] "ValueError.__new__" && raGB K (He.ga K "NoRow") [.type "ValueError", .type "Exception", .type "BaseException", .type "object"] "ValueError.__new__" && raGB K (He.ga K "Bare") [.type "RuntimeError", .type "Exception", .type "BaseException", .type "object"] "RuntimeError.__new__" && raGB K (He.ga K "Waiting") [.type "RuntimeError", .type "Exception", .type "BaseException", .type "object"] "RuntimeError.__new__" && (PySem.W.specialIn K (.ref (He.ga K "BookError")) "__getattribute__" == some (some (.builtin "type.__getattribute__"))) && (PySem.W.typeIn K (.ref (He.fAd K ("NoFile", some "__init__"))) == some (.type "function")) && (PySem.W.typeIn K (.ref (He.fAd K ("NoOld", some "__init__"))) == some (.type "function")) && (PySem.W.typeIn K (.ref (He.fAd K ("NoChain", some "__init__"))) == some (.type "function")) && (PySem.W.typeIn K (.ref (He.fAd K ("NoWhole", some "__init__"))) == some (.type "function")) && (PySem.W.typeIn K (.ref (He.fAd K ("NoDeed", some "__init__"))) == some (.type "function")) && (PySem.W.typeIn K (.ref (He.fAd K ("NoPages", some "__init__"))) == some (.type "function")) && (PySem.W.typeIn K (.ref (He.fAd K ("Ring", some "__init__"))) == some (.type "function")) && (PySem.W.typeIn K (.ref (He.fAd K ("NoThing", some "__init__"))) == some (.type "function")) && (PySem.W.typeIn K (.ref (He.fAd K ("NoWriting", some "__init__"))) == some (.type "function")) && (PySem.W.typeIn K (.ref (He.fAd K ("NoPage", some "__init__"))) == some (.type "function")) && (PySem.W.typeIn K (.ref (He.fAd K ("NoName", some "__init__"))) == some (.type "function")) && (PySem.W.typeIn K (.ref (He.fAd K ("TooMany", some "__init__"))) == some (.type "function")) && true
abbrev hAs : List Addr := asR 0 6000
abbrev hk : PySem.W.Hook := hookR hAs fas fns tbs exB
abbrev ob (s : PySem.W.SharedT) : He.AlX := obsR hAs fas fns tbs exB (HandSHeadRun.getT s)
theorem ob_eq (s : PySem.W.SharedT) : ob s = hk.obs s.abs := obsR_eq (HandSHeadRun.getT_eq s)
theorem runEq (w : World) : HandSHeadRun.RunEq RwL (PySem.W.view RwL.prog [ix]) hk ob 6000 names w := by
  intro os
  kernel_rfl
theorem and1 {a b : Bool} (h : (a && b) = true) : a = true := (Bool.and_eq_true a b ▸ h : a = true ∧ b = true).1
theorem and2 {a b : Bool} (h : (a && b) = true) : b = true := (Bool.and_eq_true a b ▸ h : a = true ∧ b = true).2
end Lw
end
section
set_option Elab.async false
set_option maxHeartbeats 1000000
namespace Fw
open PySem PySem.Spec PyProof.Rows L2
structure Wd where
  K : PySem.W.Frag
  fa : Nat → Addr
  ca : Nat → Addr
  an : Nat → Str
  inj : ∀ j k, an j = an k → j = k
  pl : Bool := false
theorem toS_inj {a b : Tx} (h : toS a = toS b) : a = b := by
  have := congrArg (fun s : Str => s.cps.toList) h
  simpa [toS] using this
def keyS : K1 → Key
  | .inl i => .inl i
  | .inr s => .inr (toS s)
theorem keyS_inj {a b : K1} (h : keyS a = keyS b) : a = b := by
  cases a <;> cases b <;> simp [keyS] at h ⊢
  · exact h
  · exact toS_inj h
def KTup (K : PySem.W.Frag) (a : Addr) (vs : List V) : Prop :=
  ∃ (o : Obj) (its : Array Value) (n : Nat), K.lookup a = some o ∧ o.cls = .type "tuple" ∧ o.data = .seq its n ∧ its.size ≤ sizeLine ∧ Vals vs its.toList
def KLst (K : PySem.W.Frag) (a : Addr) (vs : List V) : Prop :=
  ∃ (o : Obj) (its : Array Value) (n : Nat), K.lookup a = some o ∧ o.cls = .type "list" ∧ o.dict = none ∧ o.data = .seq its n ∧ its.size ≤ sizeLine ∧ Vals vs its.toList
def RoI (K : PySem.W.Frag) (Z ρ : List Addr) (H : Hp) (a : Addr) (is : List Int) : Prop := (a ∉ Z ∧ a ∉ ρ ∧ Rd H a (.lst (is.map V.int))) ∨ KLst K a (is.map V.int)
def TupU (W : Wd) (vs : List V) (u : HO) : Prop := (u = .tup vs ∧ W.pl = false) ∨ ∃ o, u = .frz o (.tup vs) ∧ o.dict = none
def TupAt (W : Wd) (H : Hp) (a : Addr) (vs : List V) : Prop := ∃ u, H a = some u ∧ TupU W vs u
theorem TupU.ne {W : Wd} {vs : List V} {u v : HO} (t : TupU W vs u) (h1 : v ≠ .tup vs) (h2 : ∀ o, v ≠ .frz o (.tup vs)) : u ≠ v := by
  rcases t with ⟨rfl, _⟩ | ⟨o, rfl, _⟩
  · exact h1.symm
  · exact (h2 o).symm
theorem TupAt.rd {W : Wd} {H : Hp} {a : Addr} {vs : List V} (t : TupAt W H a vs) : Rd H a (.tup vs) := by
  obtain ⟨u, e, t⟩ := t
  rcases t with ⟨rfl, _⟩ | ⟨o, rfl, _⟩
  · exact .inl e
  · exact .inr ⟨o, e⟩
theorem TupAt.map {W : Wd} {H H' : Hp} {a : Addr} {vs : List V} (t : TupAt W H a vs) (k : ∀ u, H a = some u → H' a = some u) : TupAt W H' a vs := let ⟨u, e, t⟩ := t; ⟨u, k u e, t⟩
theorem TupAt.there {W : Wd} {H : Hp} {a : Addr} {vs : List V} (t : TupAt W H a vs) : H a ≠ none := fun n => by obtain ⟨u, e, _⟩ := t; rw [e] at n; cases n
theorem TupAt.ne {W : Wd} {H : Hp} {a : Addr} {vs : List V} {v : HO} (t : TupAt W H a vs) (e : H a = some v) (h1 : v ≠ .tup vs) (h2 : ∀ o, v ≠ .frz o (.tup vs)) : False := by
  obtain ⟨u, e1, t⟩ := t
  rw [e1] at e
  cases e
  exact t.ne h1 h2 rfl
theorem TupAt.of {W : Wd} {H : Hp} {a : Addr} {vs : List V} (h : W.pl = false) (e : H a = some (.tup vs)) : TupAt W H a vs := ⟨_, e, .inl ⟨rfl, h⟩⟩
theorem TupAt.ofP {W : Wd} {H : Hp} {a : Addr} {vs : List V} {o : Obj} (d : o.dict = none) (e : H a = some (.frz o (.tup vs))) : TupAt W H a vs := ⟨_, e, .inr ⟨o, rfl, d⟩⟩
def ObAt (W : Wd) (Z ρ : List Addr) (H : Hp) (a : Addr) (c : Nat) (gs : List (Str × V)) : Prop :=
  (c < 100 ∧ ∃ dx, H a = some (.ins (W.ca c) dx gs)) ∨ (100 ≤ c ∧ gs = [] ∧ H a = some (ExO (.ref (W.ca c)) a)) ∨ (100 ≤ c ∧ ∃ dx, H a = some (exo a (W.ca c) (some dx)) ∧ H dx = some (exd dx gs) ∧ dx ∉ Z ∧ dx ∉ ρ)
theorem ObAt.map {W : Wd} {Z Z' ρ ρ' : List Addr} {H H' : Hp} {a : Addr} {c : Nat} {gs : List (Str × V)} (z : a ∉ Z) (r : a ∉ ρ) (k : ∀ b u, b ∉ Z → b ∉ ρ → H b = some u → b ∉ Z' ∧ b ∉ ρ' ∧ H' b = some u) (q : ObAt W Z ρ H a c gs) : a ∉ Z' ∧ a ∉ ρ' ∧ ObAt W Z' ρ' H' a c gs := by
  rcases q with ⟨hc, dx, e⟩ | ⟨hc, hg, e⟩ | ⟨hc, dx, e, e2, z2, r2⟩
  · obtain ⟨h1, h2, h3⟩ := k _ _ z r e
    exact ⟨h1, h2, .inl ⟨hc, dx, h3⟩⟩
  · obtain ⟨h1, h2, h3⟩ := k _ _ z r e
    exact ⟨h1, h2, .inr (.inl ⟨hc, hg, h3⟩)⟩
  · obtain ⟨h1, h2, h3⟩ := k _ _ z r e
    obtain ⟨h4, h5, h6⟩ := k _ _ z2 r2 e2
    exact ⟨h1, h2, .inr (.inr ⟨hc, dx, h3, h6, h4, h5⟩)⟩
mutual
inductive RD (W : Wd) (Z ρ : List Addr) (H : Hp) : D → V → Prop
  | non : RD W Z ρ H .non .non
  | bl (b : Bool) : RD W Z ρ H (.bl b) (.bl b)
  | int (i : Int) : RD W Z ρ H (.int i) (.int i)
  | str (s : Tx) : RD W Z ρ H (.str s) (.str (toS s))
  | tup {a : Addr} {ds : List D} {vs : List V} : a ∉ Z → a ∉ ρ → TupAt W H a vs → RDs W Z ρ H ds vs → RD W Z ρ H (.tup ds) (.ref a)
  | tupK {a : Addr} {ds : List D} {vs : List V} : KTup W.K a vs → RDs W Z ρ H ds vs → RD W Z ρ H (.tup ds) (.ref a)
  | lst {a : Addr} {ds : List D} {vs : List V} : a ∉ Z → a ∉ ρ → H a = some (.lst vs) → RDs W Z ρ H ds vs → RD W Z ρ H (.lst ds) (.ref a)
  | dct {a : Addr} {kds : List (K1 × D)} {kvs : List (Key × V)} : a ∉ Z → a ∉ ρ → Rd H a (.dK kvs) → RKs W Z ρ H kds kvs → RD W Z ρ H (.dct kds) (.ref a)
  | obj {a : Addr} {c : Nat} {fs : List (Nat × D)} {gs : List (Str × V)} : a ∉ Z → a ∉ ρ → ObAt W Z ρ H a c gs → RFs W Z ρ H fs gs → RD W Z ρ H (.obj c fs) (.ref a)
  | ref {a : Addr} {n : Nat} : ρ[n]? = some a → RD W Z ρ H (.ref n) (.ref a)
  | fn (f : Nat) : RD W Z ρ H (.fn f) (.ref (W.fa f))
  | roi {a : Addr} {is : List Int} : RoI W.K Z ρ H a is → RD W Z ρ H (.roi is) (.ref a)
inductive RDs (W : Wd) (Z ρ : List Addr) (H : Hp) : List D → List V → Prop
  | nil : RDs W Z ρ H [] []
  | cons {d : D} {ds : List D} {v : V} {vs : List V} : RD W Z ρ H d v → RDs W Z ρ H ds vs → RDs W Z ρ H (d :: ds) (v :: vs)
inductive RKs (W : Wd) (Z ρ : List Addr) (H : Hp) : List (K1 × D) → List (Key × V) → Prop
  | nil : RKs W Z ρ H [] []
  | cons {k : K1} {d : D} {ds : List (K1 × D)} {v : V} {vs : List (Key × V)} : RD W Z ρ H d v → RKs W Z ρ H ds vs → RKs W Z ρ H ((k, d) :: ds) ((keyS k, v) :: vs)
inductive RFs (W : Wd) (Z ρ : List Addr) (H : Hp) : List (Nat × D) → List (Str × V) → Prop
  | nil : RFs W Z ρ H [] []
  | cons {k : Nat} {d : D} {ds : List (Nat × D)} {v : V} {vs : List (Str × V)} : RD W Z ρ H d v → RFs W Z ρ H ds vs → RFs W Z ρ H ((k, d) :: ds) ((W.an k, v) :: vs)
end
structure Ext (ρ : List Addr) (H : Hp) (ρ' : List Addr) (H' : Hp) : Prop where
  pre : ρ <+: ρ'
  keep : ∀ a o, a ∉ ρ → H a = some o → a ∉ ρ' ∧ H' a = some o
  fz : ∀ a od u, H a = some (.frz od u) → H' a = some (.frz od u)
theorem Ext.refl {ρ : List Addr} {H : Hp} : Ext ρ H ρ H := ⟨List.prefix_rfl, fun _ _ h e => ⟨h, e⟩, fun _ _ _ e => e⟩
theorem Ext.trans {ρ ρ1 ρ2 : List Addr} {H H1 H2 : Hp} (x : Ext ρ H ρ1 H1) (y : Ext ρ1 H1 ρ2 H2) : Ext ρ H ρ2 H2 :=
  ⟨x.pre.trans y.pre, fun a o h e => let ⟨h1, e1⟩ := x.keep a o h e; y.keep a o h1 e1, fun a od u e => y.fz a od u (x.fz a od u e)⟩
theorem Ext.rd {ρ ρ' : List Addr} {H H' : Hp} (x : Ext ρ H ρ' H') {a : Addr} {u : HO} (h : a ∉ ρ) (r : Rd H a u) : a ∉ ρ' ∧ Rd H' a u := by
  rcases r with r | ⟨o, r⟩
  · exact ⟨(x.keep a _ h r).1, .inl (x.keep a _ h r).2⟩
  · exact ⟨(x.keep a _ h r).1, .inr ⟨o, (x.keep a _ h r).2⟩⟩
theorem Ext.tup {W : Wd} {ρ ρ' : List Addr} {H H' : Hp} (x : Ext ρ H ρ' H') {a : Addr} {vs : List V} (h : a ∉ ρ) (r : TupAt W H a vs) : a ∉ ρ' ∧ TupAt W H' a vs :=
  ⟨let ⟨_, e, _⟩ := r; (x.keep a _ h e).1, r.map fun u e => (x.keep a u h e).2⟩
theorem pre_get {ρ ρ' : List Addr} (h : ρ <+: ρ') {n : Nat} {a : Addr} (e : ρ[n]? = some a) : ρ'[n]? = some a := by
  obtain ⟨t, rfl⟩ := h
  rw [List.getElem?_append_left (List.getElem?_eq_some_iff.mp e).1]
  exact e
section
variable {W : Wd} {Z ρ ρ' : List Addr} {H H' : Hp}
mutual
theorem RD.mono (x : Ext ρ H ρ' H') : ∀ {d : D} {v : V}, RD W Z ρ H d v → RD W Z ρ' H' d v
  | _, _, .non => .non
  | _, _, .bl b => .bl b
  | _, _, .int i => .int i
  | _, _, .str s => .str s
  | _, _, .tup z r q t => .tup z (x.tup r q).1 (x.tup r q).2 (RDs.mono x t)
  | _, _, .tupK k t => .tupK k (RDs.mono x t)
  | _, _, .lst z r q t => .lst z (x.keep _ _ r q).1 (x.keep _ _ r q).2 (RDs.mono x t)
  | _, _, .dct z r q t => .dct z (x.rd r q).1 (x.rd r q).2 (RKs.mono x t)
  | _, _, .obj z r q t => let ⟨h1, h2, h3⟩ := q.map z r (fun b u z r e => ⟨z, x.keep b u r e⟩); .obj h1 h2 h3 (RFs.mono x t)
  | _, _, .ref e => .ref (pre_get x.pre e)
  | _, _, .fn f => .fn f
  | _, _, .roi q => .roi (q.elim (fun ⟨z, r, q⟩ => .inl ⟨z, (x.rd r q).1, (x.rd r q).2⟩) .inr)
theorem RDs.mono (x : Ext ρ H ρ' H') : ∀ {ds : List D} {vs : List V}, RDs W Z ρ H ds vs → RDs W Z ρ' H' ds vs
  | _, _, .nil => .nil
  | _, _, .cons r t => .cons (RD.mono x r) (RDs.mono x t)
theorem RKs.mono (x : Ext ρ H ρ' H') : ∀ {ds : List (K1 × D)} {vs : List (Key × V)}, RKs W Z ρ H ds vs → RKs W Z ρ' H' ds vs
  | _, _, .nil => .nil
  | _, _, .cons r t => .cons (RD.mono x r) (RKs.mono x t)
theorem RFs.mono (x : Ext ρ H ρ' H') : ∀ {ds : List (Nat × D)} {vs : List (Str × V)}, RFs W Z ρ H ds vs → RFs W Z ρ' H' ds vs
  | _, _, .nil => .nil
  | _, _, .cons r t => .cons (RD.mono x r) (RFs.mono x t)
end
theorem RDs.length {ds : List D} {vs : List V} (r : RDs W Z ρ H ds vs) : ds.length = vs.length := by
  induction vs generalizing ds with
  | nil => cases r; rfl
  | cons v vs ih =>
    cases r with
    | cons _ t => simp [ih t]
theorem RDs.get {n : Nat} {d : D} : ∀ {ds : List D} {vs : List V}, RDs W Z ρ H ds vs → ds[n]? = some d → ∃ v, vs[n]? = some v ∧ RD W Z ρ H d v := by
  induction n with
  | zero =>
    intro ds vs r e
    cases r with
    | nil => simp at e
    | cons r t => simp at e; subst e; exact ⟨_, rfl, r⟩
  | succ n ih =>
    intro ds vs r e
    cases r with
    | nil => simp at e
    | cons r t => simpa using ih t (by simpa using e)
theorem RDs.append : ∀ {ds es : List D} {vs us : List V}, RDs W Z ρ H ds vs → RDs W Z ρ H es us → RDs W Z ρ H (ds ++ es) (vs ++ us) := by
  intro ds
  induction ds with
  | nil => intro es vs us r t; cases r; exact t
  | cons d ds ih => intro es vs us r t; cases r with | cons r1 r2 => exact .cons r1 (ih r2 t)
theorem RDs.drop : ∀ {n : Nat} {ds : List D} {vs : List V}, RDs W Z ρ H ds vs → RDs W Z ρ H (ds.drop n) (vs.drop n) := by
  intro n
  induction n with
  | zero => intro ds vs r; exact r
  | succ n ih => intro ds vs r; cases r with | nil => exact .nil | cons _ t => exact ih t
theorem RDs.set {d : D} {v : V} (r : RD W Z ρ H d v) : ∀ {n : Nat} {ds : List D} {vs : List V}, RDs W Z ρ H ds vs → RDs W Z ρ H (ds.set n d) (vs.set n v) := by
  intro n
  induction n with
  | zero => intro ds vs t; cases t with | nil => exact .nil | cons _ t => exact .cons r t
  | succ n ih => intro ds vs t; cases t with | nil => exact .nil | cons q t => exact .cons q (ih t)
end
inductive OR (W : Wd) (Z ρ : List Addr) (H : Hp) (a : Addr) : O → Prop
  | lst {ds : List D} {vs : List V} : H a = some (.lst vs) → RDs W Z ρ H ds vs → OR W Z ρ H a (.lst ds)
  | ro {ds : List D} {vs : List V} : Rd H a (.lst vs) → RDs W Z ρ H ds vs → OR W Z ρ H a (.ro ds)
  | dct {kds : List (K1 × D)} {kvs : List (Key × V)} : H a = some (.dK kvs) → RKs W Z ρ H kds kvs → OR W Z ρ H a (.dct kds)
  | ins {c : Nat} {dx : Addr} {fs : List (Nat × D)} {gs : List (Str × V)} : H a = some (.ins (W.ca c) dx gs) → RFs W Z ρ H fs gs → OR W Z ρ H a (.ins c fs)
  | dtu {kds : List (List K1 × D)} {kvs : List (List Key × V)} : H a = some (.dT kvs) → kvs.map (·.1) = kds.map (fun q => q.1.map keyS) → RDs W Z ρ H (kds.map (·.2)) (kvs.map (·.2)) → OR W Z ρ H a (.dtu kds)
  | rod {od : Obj} {kds : List (K1 × D)} {kvs : List (Key × V)} : H a = some (.frz od (.dK kvs)) → RKs W Z ρ H kds kvs → OR W Z ρ H a (.rod kds)
structure Sim (W : Wd) (Z ρ : List Addr) (h : Hh) (H : Hp) : Prop where
  len : ρ.length = h.length
  nd : ρ.Nodup
  dis : ∀ z ∈ Z, z ∉ ρ ∧ ∃ o, H z = some o
  obj : ∀ (n : Nat) (o : O) (a : Addr), h[n]? = some o → ρ[n]? = some a → OR W Z ρ H a o
section
variable {W : Wd} {Z ρ ρ' : List Addr} {h h' : Hh} {H H' : Hp}
theorem Sim.at_ (S : Sim W Z ρ h H) {n : Nat} {o : O} (e : h[n]? = some o) : ∃ a, ρ[n]? = some a ∧ OR W Z ρ H a o := by
  have hn : n < ρ.length := by rw [S.len]; exact (List.getElem?_eq_some_iff.mp e).1
  exact ⟨ρ[n], by simp [hn], S.obj n o _ e (by simp [hn])⟩
theorem OR.there {a : Addr} {o : O} (r : OR W Z ρ H a o) : ∃ u, H a = some u := by
  cases r with
  | lst e _ => exact ⟨_, e⟩
  | ro e _ =>
    rcases e with e | ⟨_, e⟩
    · exact ⟨_, e⟩
    · exact ⟨_, e⟩
  | dct e _ => exact ⟨_, e⟩
  | ins e _ => exact ⟨_, e⟩
  | dtu e _ _ => exact ⟨_, e⟩
  | rod e _ => exact ⟨_, e⟩
theorem Sim.new (S : Sim W Z ρ h H) {p : Addr} (n : H p = none) : p ∉ Z ∧ p ∉ ρ := by
  refine ⟨fun hz => ?_, fun hp => ?_⟩
  · obtain ⟨_, o, e⟩ := S.dis p hz
    rw [n] at e; cases e
  · obtain ⟨i, hi⟩ := List.mem_iff_getElem?.mp hp
    have hl : i < h.length := by rw [← S.len]; exact (List.getElem?_eq_some_iff.mp hi).1
    obtain ⟨u, e⟩ := (S.obj i h[i] p (by simp [hl]) hi).there
    rw [n] at e; cases e
theorem Ext.laid {p : Addr} {o : HO} (n : H p = none) : Ext ρ H ρ (upd H p o) :=
  ⟨List.prefix_rfl, fun a u h e => ⟨h, by rw [upd_ne (ne_of_none e n)]; exact e⟩, fun a od u e => by rw [upd_ne (ne_of_none e n)]; exact e⟩
theorem OR.laid {p a : Addr} {o : O} {u : HO} (n : H p = none) (r : OR W Z ρ H a o) : OR W Z ρ (upd H p u) a o := by
  have x : Ext ρ H ρ (upd H p u) := Ext.laid n
  cases r with
  | lst e t => exact .lst (by rw [upd_ne (ne_of_none e n)]; exact e) (t.mono x)
  | ro e t =>
    refine .ro ?_ (t.mono x)
    rcases e with e | ⟨ob, e⟩
    · exact .inl (by rw [upd_ne (ne_of_none e n)]; exact e)
    · exact .inr ⟨ob, by rw [upd_ne (ne_of_none e n)]; exact e⟩
  | dct e t => exact .dct (by rw [upd_ne (ne_of_none e n)]; exact e) (t.mono x)
  | ins e t => exact .ins (by rw [upd_ne (ne_of_none e n)]; exact e) (t.mono x)
  | dtu e k t => exact .dtu (by rw [upd_ne (ne_of_none e n)]; exact e) k (t.mono x)
  | rod e t => exact .rod (by rw [upd_ne (ne_of_none e n)]; exact e) (t.mono x)
theorem Sim.laid {p : Addr} {o : HO} (S : Sim W Z ρ h H) (n : H p = none) : Sim W Z ρ h (upd H p o) :=
  ⟨S.len, S.nd, fun z hz => let ⟨h1, u, e⟩ := S.dis z hz; ⟨h1, u, by rw [upd_ne (ne_of_none e n)]; exact e⟩, fun m u a e1 e2 => (S.obj m u a e1 e2).laid n⟩
end
def RX (W : Wd) (Z ρ : List Addr) (H : Hp) (x : Exn) (cls : Value) (dd : Option Addr) : Prop :=
  cls = .ref (W.ca x.cls) ∧ match x.fld with
    | none => dd = none
    | some (k, d) => ∃ a v, dd = some a ∧ H a = some (.xd [(W.an k, v)]) ∧ a ∉ ρ ∧ RD W Z ρ H d v
def Post {α : Type} (W : Wd) (Z ρ : List Addr) (H : Hp) (r : R α) (Q : α → List Addr → Hh → Hp → Prop) (E : XK) : Prop := match r with
  | .ok a h' => ∀ ρ' H', Ext ρ H ρ' H' → Sim W Z ρ' h' H' → Q a ρ' h' H'
  | .xn x h' => ∀ ρ' H' cls dd, Ext ρ H ρ' H' → Sim W Z ρ' h' H' → RX W Z ρ' H' x cls dd → E cls dd H'
  | .bad => False
section
variable {α β : Type} {W : Wd} {Z ρ ρ1 : List Addr} {H H1 : Hp} {r : R α} {Q Q' : α → List Addr → Hh → Hp → Prop} {E : XK}
theorem Post.mono (x : Ext ρ H ρ1 H1) (p : Post W Z ρ H r Q E) : Post W Z ρ1 H1 r Q E := by
  cases r with
  | ok a h => exact fun ρ' H' y S => p ρ' H' (x.trans y) S
  | xn e h => exact fun ρ' H' cls dd y S => p ρ' H' cls dd (x.trans y) S
  | bad => exact p
theorem Post.imp (p : Post W Z ρ H r Q E) (f : ∀ a ρ' h' H', Ext ρ H ρ' H' → Sim W Z ρ' h' H' → Q a ρ' h' H' → Q' a ρ' h' H') : Post W Z ρ H r Q' E := by
  cases r with
  | ok a h => exact fun ρ' H' y S => f _ _ _ _ y S (p ρ' H' y S)
  | xn e h => exact p
  | bad => exact p
theorem Post.bind {k : α → Hh → R β} {Q : β → List Addr → Hh → Hp → Prop} (p : Post W Z ρ H (r.bind k) Q E) : Post W Z ρ H r (fun a ρ1 h1 H1 => Post W Z ρ1 H1 (k a h1) Q E) E := by
  cases r with
  | ok a h => exact fun ρ' H' y S => p.mono y
  | xn e h => exact p
  | bad => exact p
end
structure RSg (W : Wd) (Z ρ : List Addr) (H : Hp) (σd : Sg) (σ : L2.St) : Prop where
  len : σd.length = σ.length
  at_ : ∀ (i : Nat) (d : D), σd[i]? = some (some d) → ∃ v, σ[i]? = some (some v) ∧ RD W Z ρ H d v
theorem RSg.mono {W : Wd} {Z ρ ρ1 : List Addr} {H H1 : Hp} {σd : Sg} {σ : L2.St} (x : Ext ρ H ρ1 H1) (r : RSg W Z ρ H σd σ) : RSg W Z ρ1 H1 σd σ :=
  ⟨r.len, fun i d e => let ⟨v, e1, r1⟩ := r.at_ i d e; ⟨v, e1, r1.mono x⟩⟩
def Ans (W : Wd) (Z ρ : List Addr) (h : Hh) (H : Hp) (r : D) (Q : VK) : Prop := ∀ ρ' H' v, Ext ρ H ρ' H' → Sim W Z ρ' h H' → RD W Z ρ' H' r v → Q v H'
theorem Ans.now {W : Wd} {Z ρ : List Addr} {h : Hh} {H : Hp} {r : D} {Q : VK} (a : Ans W Z ρ h H r Q) (S : Sim W Z ρ h H) {v : V} (rv : RD W Z ρ H r v) : Q v H := a ρ H v Ext.refl S rv
theorem Ans.tup {W : Wd} {Z ρ : List Addr} {h : Hh} {H : Hp} {ds : List D} {vs : List V} {Q : VK} (a : Ans W Z ρ h H (.tup ds) Q) (S : Sim W Z ρ h H) (r : RDs W Z ρ H ds vs) (p : Addr) (n : H p = none) (hpl : W.pl = false := by assumption) : Q (.ref p) (upd H p (.tup vs)) :=
  a ρ _ _ (Ext.laid n) (S.laid n) (.tup (S.new n).1 (S.new n).2 (.of hpl upd_same) (r.mono (Ext.laid n)))
theorem Ans.tupP {W : Wd} {Z ρ : List Addr} {h : Hh} {H : Hp} {ds : List D} {vs : List V} {Q : VK} (a : Ans W Z ρ h H (.tup ds) Q) (S : Sim W Z ρ h H) (r : RDs W Z ρ H ds vs) (p : Addr) (n : H p = none) {o : Obj} (d : o.dict = none) : Q (.ref p) (upd H p (.frz o (.tup vs))) :=
  a ρ _ _ (Ext.laid n) (S.laid n) (.tup (S.new n).1 (S.new n).2 (.ofP d upd_same) (r.mono (Ext.laid n)))
theorem Ans.lst {W : Wd} {Z ρ : List Addr} {h : Hh} {H : Hp} {ds : List D} {vs : List V} {Q : VK} (a : Ans W Z ρ h H (.lst ds) Q) (S : Sim W Z ρ h H) (r : RDs W Z ρ H ds vs) (p : Addr) (n : H p = none) : Q (.ref p) (upd H p (.lst vs)) :=
  a ρ _ _ (Ext.laid n) (S.laid n) (.lst (S.new n).1 (S.new n).2 upd_same (r.mono (Ext.laid n)))
theorem Ans.dct {W : Wd} {Z ρ : List Addr} {h : Hh} {H : Hp} {ds : List (K1 × D)} {vs : List (Key × V)} {Q : VK} (a : Ans W Z ρ h H (.dct ds) Q) (S : Sim W Z ρ h H) (r : RKs W Z ρ H ds vs) (p : Addr) (n : H p = none) : Q (.ref p) (upd H p (.dK vs)) :=
  a ρ _ _ (Ext.laid n) (S.laid n) (.dct (S.new n).1 (S.new n).2 (Rd.of upd_same) (r.mono (Ext.laid n)))
section
variable {W : Wd} {Z ρ : List Addr} {h : Hh} {H : Hp} {d : D} {v : V}
theorem asLst_ok (S : Sim W Z ρ h H) (r : RD W Z ρ H d v) {xs : List D} (e : asLst h d = some xs) : ∃ a vs, v = .ref a ∧ H a = some (.lst vs) ∧ RDs W Z ρ H xs vs := by
  cases r <;> simp only [asLst] at e
  case lst a ds vs z ra q t => cases e; exact ⟨_, _, rfl, q, t⟩
  case ref a n en =>
    cases eo : h[n]? with
    | none => rw [eo] at e; cases e
    | some o =>
      rw [eo] at e
      have q := S.obj n o a eo en
      cases o <;> dsimp only at e <;> cases e
      cases q with | lst q t => exact ⟨_, _, rfl, q, t⟩
  all_goals cases e
theorem asDct_ok (S : Sim W Z ρ h H) (r : RD W Z ρ H d v) {xs : List (K1 × D)} (e : asDct h d = some xs) : ∃ a vs, v = .ref a ∧ Rd H a (.dK vs) ∧ RKs W Z ρ H xs vs := by
  cases r <;> simp only [asDct] at e
  case dct a ds vs z ra q t => cases e; exact ⟨_, _, rfl, q, t⟩
  case ref a n en =>
    cases eo : h[n]? with
    | none => rw [eo] at e; cases e
    | some o =>
      rw [eo] at e
      have q := S.obj n o a eo en
      cases o <;> simp at e
      case dct ys => subst e; cases q with | dct q t => exact ⟨_, _, rfl, .inl q, t⟩
      case rod ys => subst e; cases q with | rod q t => exact ⟨_, _, rfl, .inr ⟨_, q⟩, t⟩
  all_goals cases e
theorem tup_ok {xs : List D} (r : RD W Z ρ H (.tup xs) v) : ∃ a vs, v = .ref a ∧ SqT W.K H a vs ∧ RDs W Z ρ H xs vs := by
  cases r with
  | tup z ra q t => exact ⟨_, _, rfl, .inl q.rd, t⟩
  | tupK k t => exact ⟨_, _, rfl, .inr k, t⟩
theorem rds_ints : ∀ is : List Int, RDs W Z ρ H (is.map .int) (is.map V.int)
  | [] => .nil
  | i :: is => .cons (.int i) (rds_ints is)
theorem RoI.sq {a : Addr} {is : List Int} (q : RoI W.K Z ρ H a is) : SqL W.K H a (is.map V.int) := q.elim (fun ⟨_, _, q⟩ => .inl q) .inr
theorem asSeq_ok (S : Sim W Z ρ h H) (r : RD W Z ρ H d v) {xs : List D} (e : asSeq h d = some xs) : ∃ a vs, v = .ref a ∧ (SqL W.K H a vs ∨ SqT W.K H a vs) ∧ RDs W Z ρ H xs vs := by
  cases r <;> simp only [asSeq] at e
  case tup a ds vs z ra q t => cases e; exact ⟨_, _, rfl, .inr (.inl q.rd), t⟩
  case tupK a ds vs q t => cases e; exact ⟨_, _, rfl, .inr (.inr q), t⟩
  case lst a ds vs z ra q t => cases e; exact ⟨_, _, rfl, .inl (SqL.of q), t⟩
  case roi a is q => cases e; exact ⟨_, _, rfl, .inl q.sq, rds_ints is⟩
  case ref a n en =>
    cases eo : h[n]? with
    | none => rw [eo] at e; cases e
    | some o =>
      rw [eo] at e
      have q := S.obj n o a eo en
      cases o <;> dsimp only at e <;> cases e
      · cases q with | lst q t => exact ⟨_, _, rfl, .inl (SqL.of q), t⟩
      · cases q with | ro q t => exact ⟨_, _, rfl, .inl (.inl q), t⟩
  all_goals cases e
end
section
variable {W : Wd} {Z ρ : List Addr} {h : Hh} {H : Hp} {d : D} {v : V}
theorem RKs.len {ds : List (K1 × D)} {vs : List (Key × V)} (r : RKs W Z ρ H ds vs) : ds.length = vs.length := by
  induction vs generalizing ds with
  | nil => cases r; rfl
  | cons v vs ih => cases r with | cons _ t => simp [ih t]
end
end Fw
end
section
set_option Elab.async false
set_option maxHeartbeats 1000000
namespace Fw
open PySem PySem.Spec PyProof.Rows L2
section
variable {X : Cx}
def TupQ (H : Hp) (xs : List V) (Q : VK) : Prop := ∀ p, H p = none → ∀ o : Obj, o.dict = none → Q (.ref p) (upd H p (.frz o (.tup xs)))
theorem tup_lay {pins : List (Addr × Obj)} {σ : L2.St} {H : Hp} {s : Shared} (I : Inv X pins σ H s) {xs : List V} {us : List Value} {n : Nat} (r : Vals xs us) (hz : xs.length ≤ sizeLine) (E : Value → Shared → Prop) {Q : VK} (q : TupQ H xs Q) (t' : Nat) :
    EP X pins σ Q (.ref s.heap.objs.size) { s with heap := s.heap.push { cls := .type "tuple", data := .seq us.toArray n }, toks := t' } :=
  ⟨.ref s.heap.objs.size, _, I.laid (t' := t') (o := .frz { cls := .type "tuple", data := .seq us.toArray n } (.tup xs)) (fun b ob q => Heap.get?_push_of_some _ q) (Nat.le_refl _) ⟨Heap.get?_push_size _ rfl, hz, us, r, ⟨_, Heap.get?_push_size _ rfl, rfl, n, rfl⟩⟩, rfl, q _ (I.hok.fresh (Nat.le_refl _)) _ rfl⟩
def rCatP (K : PySem.W.Frag) : R2 := fun x y H Q => ∃ a b xs ys, x = .ref a ∧ y = .ref b ∧ SqT K H a xs ∧ SqT K H b ys ∧ xs.length + ys.length ≤ sizeLine ∧
  (xs = [] → Q (.ref b) H) ∧ (xs ≠ [] → ys = [] → Q (.ref a) H) ∧ (xs ≠ [] → ys ≠ [] → TupQ H (xs ++ ys) Q)
theorem op_catP : OpR X (binaryOp .Add) (rCatP X.K) := by
  intro pins s σ H x y v u Q I rx ry h
  obtain ⟨a, b, xs, ys, rfl, rfl, ha, hb, hz, q0, q1, q2⟩ := h
  by_cases hx : xs = []
  · subst hx
    exact op_catA pins s σ H _ _ v u Q I rx ry ⟨a, b, [], ys, rfl, rfl, ha, hb, hz, q0, fun z => absurd rfl z, fun z => absurd rfl z⟩
  cases rx
  cases ry
  obtain ⟨its, r1, p1, _⟩ := I.tuple ha
  obtain ⟨its2, r2, p2, _⟩ := I.tuple hb
  refine HT.cat_tup p1 p2 (fun z => hx (r1.nil_iff.mp z)) (fun z => ⟨.ref a, H, I, rfl, q1 hx (r2.nil_iff.mp z)⟩) (fun z => ?_) (by rw [← r1.length, ← r2.length]; exact hz)
  exact tup_lay I (r1.append r2) (by rw [List.length_append]; exact hz) X.xe (q2 hx (fun w => z (r2.nil_iff.mpr w))) _
def rRepP (K : PySem.W.Frag) : R2 := fun x y H Q => ∃ l k xs, x = .ref l ∧ y = .int k ∧ SqT K H l xs ∧ xs ≠ [] ∧ 2 ≤ k ∧ k ≤ 1000 ∧ xs.length ≤ 1000 ∧ TupQ H (List.replicate k.toNat xs).flatten Q
theorem op_repP : OpR X (binaryOp .Mult) (rRepP X.K) := by
  intro pins s σ H x y v u Q I rx ry h
  obtain ⟨l, k, xs, rfl, rfl, hT, hne, h1, h2, hz, qq⟩ := h
  cases rx
  obtain ⟨t, rfl⟩ := ry
  obtain ⟨its, r, ⟨⟨cls, dd, data, sl⟩, ho, hc, n, hd⟩, hs⟩ := I.tuple hT
  simp only at hc hd
  subst hc hd
  have hle : its.length = xs.length := r.length.symm
  have hn : its ≠ [] := fun e => hne (by
    rw [e] at hle
    exact List.eq_nil_of_length_eq_zero hle.symm)
  have hi : its.toArray.isEmpty = false := by
    cases its with
    | nil => exact absurd rfl hn
    | cons a b => rfl
  have hsz0 : its.toArray.size = xs.length := by rw [List.size_toArray, hle]
  have hm : ((its.toArray.size : Nat) : Int) * k ≤ 1000000 := by
    rw [hsz0]
    have a1 : ((xs.length : Nat) : Int) * k ≤ 1000 * k := Int.mul_le_mul_of_nonneg_right (by omega) (by omega)
    omega
  have flen : (List.replicate k.toNat its).flatten.length ≤ sizeLine := by
    rw [PyProof.Rows.lm_len_rep_flat, hle, sizeLine_eq]
    have a1 : k.toNat * xs.length ≤ 1000 * 1000 := Nat.mul_le_mul (by omega) hz
    omega
  have c0 : (decide (k < -(2 ^ 63)) || decide (k ≥ 2 ^ 63)) = false := by
    rw [decide_eq_false (by omega), decide_eq_false (by omega)] <;> rfl
  have c1 : (its.toArray.isEmpty || k == 1) = false := by
    rw [hi, Bool.false_or]
    exact beq_eq_false_iff_ne.mpr (by omega)
  have c2 : (decide (k ≤ 0) || its.toArray.isEmpty) = false := by
    rw [hi, Bool.or_false]
    exact decide_eq_false (by omega)
  have c4 : Builtin.Tuple.tupleTooMany (((its.toArray.size : Nat) : Int) * k) = false := by
    unfold Builtin.Tuple.tupleTooMany
    rw [sizeLine_eq]
    exact decide_eq_false (by omega)
  refine wpAny_binaryOp_repeat_ref (T := "tuple") (U := "int") (by decide) ⟨_, ho, rfl⟩ (fun s' => typeIs_int s' k t) noFill_tuple_mul F.fills_int_mul F.slot_int_rmul repeat_tuple F.slot_int_index.lookup
    (call_meets F.slot_int_rmul (typeIs_int s k t) F.entry_int_rmul (F.args_int_rmul_2 _ _) (int_rmul_tuple k t l its.toArray n dd sl)
      ⟨ho, rfl, ⟨_, ho, rfl⟩, call_meets F.slot_tuple_mul ⟨_, ho, rfl⟩ F.entry_tuple_mul (F.args_tuple_mul_2 _ _) (tuple_mulW l its.toArray n dd sl k t c0 c1 c2 (by omega) c4 (by rw [size_rep, List.size_toArray]; exact flen)) ⟨ho, ?_⟩⟩)
  rw [size_rep]
  exact tup_lay I (r.rep k.toNat) (by rw [PyProof.Rows.lm_len_rep_flat, sizeLine_eq]; have a1 : k.toNat * xs.length ≤ 1000 * 1000 := Nat.mul_le_mul (by omega) hz; omega) X.xe qq _
end
section
variable {X : Cx} {es : List Expr} {t : TA} {pos : Pos}
def tTupP (t : TA) : TE := fun σ H Q => t σ H fun xs H1 => xs.length ≤ sizeLine ∧ TupQ H1 xs Q
theorem pe_tupP {x1} (h : PA X es t) : PE X (.Tuple es x1 pos) (tTupP t) := by
  refine ⟨fun pins s σ H Q I hq => wpAny_Tuple_spliced (thn (h.run pos pins s σ H _ I hq) fun us s1 ⟨xs, H1, I1, r, z, q⟩ => ⟨by rw [← r.length]; exact z, ?_⟩)⟩
  exact tup_lay I1 r z X.xe q s1.toks
end
end Fw
end
section
set_option Elab.async false
set_option maxHeartbeats 1000000
namespace Fw
open PySem PySem.Spec PyProof.Rows L2
theorem toS_len (t : Tx) : (toS t).length = t.length := by simp [toS, Str.length]
theorem toS_cat (a b : Tx) : toS a ++ toS b = toS (a ++ b) := by
  show Str.append _ _ = _
  simp [toS, Str.append]
theorem toS_list (t : Tx) : (toS t).cps.toList = t := by simp [toS]
theorem toS_of (s : Str) : toS s.cps.toList = s := by cases s; simp [toS]
theorem line_eq : line = sizeLine := by rw [sizeLine_eq]; rfl
def copOf : Cop → CmpOp
  | .eq => .Eq | .ne => .NotEq | .lt => .Lt | .le => .LtE | .gt => .Gt | .ge => .GtE | .is_ => .Is | .isnt => .IsNot | .in_ => .In | .notin => .NotIn
def bopOf : Bop → Operator
  | .add => .Add | .sub => .Sub | .mul => .Mult | .fdiv => .FloorDiv | .mod => .Mod | .pow => .Pow
def r2 (W : Wd) (f : Hh → D → D → Option D) : R2 := fun x y H Q => ∃ Z ρ h d e r, Sim W Z ρ h H ∧ RD W Z ρ H d x ∧ RD W Z ρ H e y ∧ f h d e = some r ∧ Fw.Ans W Z ρ h H r Q
section
variable {X : Cx} {W : Wd}
theorem mul_text {x : Tx} {j : Int} (h0 : 0 ≤ j) (h1 : j ≤ 100000) (h2 : x.length * j.toNat ≤ line) : MulOk (toS x) j ∧ Txt.mul (toS x) j = toS (List.replicate j.toNat x).flatten := by
  have hn : ((j.toNat : Nat) : Int) = j := Int.toNat_of_nonneg h0
  refine ⟨⟨?_, fun h3 _ => ?_, fun _ _ => ?_⟩, ?_⟩
  · simp only [Bool.or_eq_false_iff, decide_eq_false_iff_not]
    omega
  · rw [toS_len]
    intro hgt
    have hj : 0 < j := by omega
    refine absurd hgt (Int.not_lt.mpr ?_)
    rw [Int.le_ediv_iff_mul_le hj]
    have h4 : ((x.length * j.toNat : Nat) : Int) ≤ (line : Int) := by exact_mod_cast h2
    rw [Int.natCast_mul, hn] at h4
    have : (line : Int) ≤ 2 ^ 63 - 1 := by decide
    omega
  · rw [toS_len]
    simp only [Builtin.Str.tooLong, decide_eq_false_iff_not, ← line_eq]
    omega
  · unfold Txt.mul
    by_cases h3 : j < 1
    · rw [if_pos h3]
      have : j.toNat = 0 := by omega
      rw [this]
      rfl
    · rw [if_neg h3]
      have fold : ∀ (n : Nat) (a : Array Nat), ((List.replicate n (toS x).cps).foldl (· ++ ·) a).toList = a.toList ++ (List.replicate n x).flatten := by
        intro n
        induction n with
        | zero => intro a; simp
        | succ n ih => intro a; rw [List.replicate_succ, List.foldl_cons, ih]; simp [List.replicate_succ, toS]
      split
      · rename_i hc
        simp only [Bool.or_eq_true, beq_iff_eq] at hc
        rcases hc with hc | hc
        · subst hc; simp
        · have : x = [] := by rw [toS_len] at hc; exact List.length_eq_zero_iff.mp hc
          subst this
          simp
      · show (⟨_⟩ : Str) = ⟨_⟩
        congr 1
        apply Array.toList_inj.mp
        rw [fold]
        simp
theorem op_bin (hK : X.K = W.K) (op : Bop) : OpR X (binaryOp (bopOf op)) (r2 W fun h => binop h op) := by
  intro pins s σ H x y v u Q I rx ry hq
  obtain ⟨Z, ρ, h, d, e, r, S, rd, re, hf, hA⟩ := hq
  cases op
  case add =>
    show wpAny _ _ (binaryOp .Add v u) _ _ s
    by_cases hi : ∃ i j, d = .int i ∧ e = .int j
    · obtain ⟨i, j, rfl, rfl⟩ := hi
      cases rd; cases re
      simp only [binop] at hf
      cases hf
      exact op_add pins s σ H _ _ v u Q I rx ry ⟨i, j, rfl, rfl, hA.now S (.int _)⟩
    by_cases hs : ∃ i j, d = .str i ∧ e = .str j
    · obtain ⟨i, j, rfl, rfl⟩ := hs
      cases rd; cases re
      simp only [binop] at hf
      split at hf
      · cases hf
        rename_i hl
        exact op_add_str pins s σ H _ _ v u Q I rx ry ⟨_, _, rfl, rfl, by rw [toS_len, toS_len, ← line_eq]; exact hl, by rw [toS_cat]; exact hA.now S (.str _)⟩
      · cases hf
    by_cases ht : ∃ i j, d = .tup i ∧ e = .tup j
    · obtain ⟨ds, es, rfl, rfl⟩ := ht
      simp only [binop] at hf
      split at hf
      · cases hf
        rename_i hl
        obtain ⟨a, vs, rfl, qa, ra⟩ := tup_ok rd
        obtain ⟨b, us, rfl, qb, rb⟩ := tup_ok re
        refine op_catP pins s σ H _ _ v u Q I rx ry ⟨a, b, vs, us, rfl, rfl, hK ▸ qa, hK ▸ qb, by rw [← ra.length, ← rb.length, ← line_eq]; exact hl, fun e0 => ?_, fun _ e0 => ?_, fun _ _ p n o hd => ?_⟩
        · subst e0
          cases ra
          exact hA.now S re
        · subst e0
          cases rb
          rw [List.append_nil] at hA
          exact hA.now S rd
        · exact hA.tupP S (ra.append rb) p n hd
      · cases hf
    · have hf' : (match asLst h d, asLst h e with
        | some xs, some ys => if xs.length + ys.length ≤ line then some (D.lst (xs ++ ys)) else none
        | _, _ => none) = some r := by
        rw [← hf]
        cases d <;> cases e <;> first
          | rfl
          | exact absurd ⟨_, _, rfl, rfl⟩ hi
          | exact absurd ⟨_, _, rfl, rfl⟩ hs
          | exact absurd ⟨_, _, rfl, rfl⟩ ht
      cases e1 : asLst h d with
      | none => rw [e1] at hf'; cases hf'
      | some xs =>
        cases e2 : asLst h e with
        | none => rw [e1, e2] at hf'; cases hf'
        | some ys =>
          rw [e1, e2] at hf'
          dsimp only at hf'
          split at hf'
          · cases hf'
            rename_i hl
            obtain ⟨a, vs, rfl, qa, ra⟩ := asLst_ok S rd e1
            obtain ⟨b, us, rfl, qb, rb⟩ := asLst_ok S re e2
            exact op_cat pins s σ H _ _ v u Q I rx ry ⟨a, b, vs, us, rfl, rfl, qa, qb, by rw [← ra.length, ← rb.length, ← line_eq]; exact hl, fun p n => hA.lst S (ra.append rb) p n⟩
          · cases hf'
  case sub =>
    cases d <;> cases e <;> simp only [binop] at hf <;> first | (cases hf; done) | skip
    cases rd; cases re
    cases hf
    exact op_sub pins s σ H _ _ v u Q I rx ry ⟨_, _, rfl, rfl, hA.now S (.int _)⟩
  case mul =>
    cases d <;> cases e <;> simp only [binop] at hf <;> first | (cases hf; done) | skip
    · cases rd; cases re
      split at hf
      · cases hf
        rename_i hl
        exact op_mul pins s σ H _ _ v u Q I rx ry ⟨_, _, rfl, rfl, hl, hA.now S (.int _)⟩
      · cases hf
    · cases rd; cases re
      split at hf
      · cases hf
        rename_i x j hl
        obtain ⟨tk, rfl⟩ := rx
        obtain ⟨tk', rfl⟩ := ry
        obtain ⟨m1, m2⟩ := mul_text hl.1 hl.2.1 hl.2.2
        refine SB.mul m1 fun t' k => ?_
        exact ⟨.str (Txt.mul (toS x) j), H, I.tok _, ⟨_, rfl⟩, by rw [m2]; exact hA.now S (.str _)⟩
      · cases hf
    · cases re
      split at hf
      · cases hf
        rename_i xs j hl
        obtain ⟨a, vs, rfl, qa, ra⟩ := tup_ok rd
        refine op_repP pins s σ H _ _ v u Q I rx ry ⟨a, j, vs, rfl, rfl, hK ▸ qa, fun z => hl.1 ?_, hl.2.1, hl.2.2.1, by rw [← ra.length]; exact hl.2.2.2, fun p n o hd => hA.tupP S ?_ p n hd⟩
        · subst z; cases ra; rfl
        · generalize j.toNat = m
          induction m with
          | zero => exact .nil
          | succ m ih => simpa [List.replicate_succ] using ra.append ih
      · cases hf
    · cases re
      split at hf
      · cases hf
        rename_i xs j hl
        obtain ⟨a, vs, rfl, qa, ra⟩ := asLst_ok S rd (show asLst h (.lst xs) = some xs from rfl)
        refine op_rep pins s σ H _ _ v u Q I rx ry ⟨a, j, vs, rfl, rfl, qa, by omega, by omega, ?_, fun p n => hA.lst S ?_ p n⟩
        · rw [← ra.length, ← line_eq]
          have h1 : xs.length * j.toNat ≤ 1000 * 1000 := Nat.mul_le_mul hl.2.2 (by omega)
          have h2 : 1000 * 1000 ≤ line := by decide
          omega
        · generalize j.toNat = m
          induction m with
          | zero => exact .nil
          | succ m ih => simpa [List.replicate_succ] using ra.append ih
      · cases hf
  case fdiv =>
    cases d <;> cases e <;> simp only [binop] at hf <;> first | (cases hf; done) | skip
    cases rd; cases re
    split at hf
    · cases hf
      rename_i hl
      exact op_fdiv pins s σ H _ _ v u Q I rx ry ⟨_, _, rfl, rfl, hl, hA.now S (.int _)⟩
    · cases hf
  case mod =>
    cases d <;> cases e <;> simp only [binop] at hf <;> first | (cases hf; done) | skip
    cases rd; cases re
    split at hf
    · cases hf
      rename_i hl
      exact op_mod pins s σ H _ _ v u Q I rx ry ⟨_, _, rfl, rfl, hl, hA.now S (.int _)⟩
    · cases hf
  case pow =>
    cases d <;> cases e <;> simp only [binop] at hf <;> first | (cases hf; done) | skip
    cases rd; cases re
    split at hf
    · cases hf
      rename_i hl
      exact op_pow pins s σ H _ _ v u Q I rx ry ⟨_, _, rfl, rfl, hl, hA.now S (.int _)⟩
    · cases hf
end
theorem strOk_of {s : Tx} (h : s.all (fun c => decide (c < 1114112)) = true) : PyData.strOk (toS s) = true := by
  simp only [PyData.strOk, toS, ← Array.all_toList]
  exact h
mutual
theorem flat_py : ∀ (n : Nat) (d : D), d.flat n = true → d.py.canLay0 = true ∧ d.py.depth ≤ n + 1
  | n, .non, _ => by simp [D.py, PyData.canLay0, PyData.depth]
  | n, .bl _, _ => by simp [D.py, PyData.canLay0, PyData.depth]
  | n, .int _, _ => by simp [D.py, PyData.canLay0, PyData.depth]
  | n, .str s, h => by
    have h' : s.all (fun c => decide (c < 1114112)) = true := by simpa [D.flat] using h
    have h2 := strOk_of h'
    simp only [D.py, PyData.canLay0, PyData.depth]
    exact ⟨h2, Nat.zero_le _⟩
  | 0, .tup xs, h => by
    have : xs = [] := by simpa [D.flat] using h
    subst this
    simp [D.py, pyAll, PyData.canLay0, PyData.canLayAll0, PyData.depth, PyData.depthAll]
  | n + 1, .tup xs, h => by
    have h' := flatAll_py n xs (by simpa [D.flat] using h)
    simp only [D.py, PyData.canLay0, PyData.depth]
    exact ⟨h'.1, by omega⟩
  | 0, .lst xs, h => by
    have : xs = [] := by simpa [D.flat] using h
    subst this
    simp [D.py, pyAll, PyData.canLay0, PyData.canLayAll0, PyData.depth, PyData.depthAll]
  | n + 1, .lst xs, h => by
    have h' := flatAll_py n xs (by simpa [D.flat] using h)
    simp only [D.py, PyData.canLay0, PyData.depth]
    exact ⟨h'.1, by omega⟩
  | _, .dct _, h => by simp [D.flat] at h
  | _, .obj _ _, h => by simp [D.flat] at h
  | _, .ref _, h => by simp [D.flat] at h
  | _, .fn _, h => by simp [D.flat] at h
  | _, .roi _, h => by simp [D.flat] at h
theorem flatAll_py : ∀ (n : Nat) (xs : List D), flatAll n xs = true → PyData.canLayAll0 (pyAll xs) = true ∧ PyData.depthAll (pyAll xs) ≤ n + 1
  | n, [], _ => by simp [pyAll, PyData.canLayAll0, PyData.depthAll]
  | n, x :: xs, h => by
    have h' : x.flat n = true ∧ flatAll n xs = true := by simpa [flatAll] using h
    have h1 := flat_py n x h'.1
    have h2 := flatAll_py n xs h'.2
    simp only [pyAll, PyData.canLayAll0, PyData.depthAll]
    exact ⟨by simp [h1.1, h2.1], by omega⟩
end
theorem flat_shaped {d : D} (h : d.flat 60 = true) : SeqAt.shaped d.py = true := by
  have := flat_py 60 d h
  simp only [SeqAt.shaped, Bool.and_eq_true, decide_eq_true_eq]
  exact ⟨this.1, by omega⟩
mutual
theorem flat_eqv : ∀ (n m : Nat) (d e : D), d.flat n = true → e.flat m = true → PyData.eqv d.py e.py = d.eqv e
  | n, m, d, e, h1, h2 => by
    cases d <;> cases e <;> first
      | (simp [D.flat] at h1; done)
      | (simp [D.flat] at h2; done)
      | (simp [D.py, PyData.eqv, D.eqv]; done)
      | skip
    · simp only [D.py, PyData.eqv, D.eqv]
      rename_i a b
      by_cases e : a = b
      · subst e; simp
      · have : ¬ (⟨a.toArray⟩ : Str) = ⟨b.toArray⟩ := fun q => e (toS_inj q)
        rw [beq_eq_false_iff_ne.mpr this, beq_eq_false_iff_ne.mpr e]
    · rename_i xs ys
      simp only [D.py, PyData.eqv, D.eqv]
      cases n <;> cases m
      · have a1 : xs = [] := by simpa [D.flat] using h1
        have a2 : ys = [] := by simpa [D.flat] using h2
        subst a1 a2; simp [pyAll, PyData.eqvAll, eqvAll]
      · have a1 : xs = [] := by simpa [D.flat] using h1
        subst a1; cases ys <;> simp [pyAll, PyData.eqvAll, eqvAll]
      · have a2 : ys = [] := by simpa [D.flat] using h2
        subst a2; cases xs <;> simp [pyAll, PyData.eqvAll, eqvAll]
      · exact flatAll_eqv _ _ xs ys (by simpa [D.flat] using h1) (by simpa [D.flat] using h2)
    · rename_i xs ys
      simp only [D.py, PyData.eqv, D.eqv]
      cases n <;> cases m
      · have a1 : xs = [] := by simpa [D.flat] using h1
        have a2 : ys = [] := by simpa [D.flat] using h2
        subst a1 a2; simp [pyAll, PyData.eqvAll, eqvAll]
      · have a1 : xs = [] := by simpa [D.flat] using h1
        subst a1; cases ys <;> simp [pyAll, PyData.eqvAll, eqvAll]
      · have a2 : ys = [] := by simpa [D.flat] using h2
        subst a2; cases xs <;> simp [pyAll, PyData.eqvAll, eqvAll]
      · exact flatAll_eqv _ _ xs ys (by simpa [D.flat] using h1) (by simpa [D.flat] using h2)
theorem flatAll_eqv : ∀ (n m : Nat) (xs ys : List D), flatAll n xs = true → flatAll m ys = true → PyData.eqvAll (pyAll xs) (pyAll ys) = eqvAll xs ys
  | n, m, [], [], _, _ => by simp [pyAll, PyData.eqvAll, eqvAll]
  | n, m, [], y :: ys, _, _ => by simp [pyAll, PyData.eqvAll, eqvAll]
  | n, m, x :: xs, [], _, _ => by simp [pyAll, PyData.eqvAll, eqvAll]
  | n, m, x :: xs, y :: ys, h1, h2 => by
    have h1' : x.flat n = true ∧ flatAll n xs = true := by simpa [flatAll] using h1
    have h2' : y.flat m = true ∧ flatAll m ys = true := by simpa [flatAll] using h2
    simp only [pyAll, PyData.eqvAll, eqvAll]
    rw [flat_eqv n m x y h1'.1 h2'.1, flatAll_eqv n m xs ys h1'.2 h2'.2]
end
section
variable {W : Wd} {Z ρ : List Addr} {h : Hh} {H : Hp}
mutual
theorem flat_dp : ∀ {d : D} {v : V} (n : Nat), d.flat n = true → RD W Z ρ H d v → Dp W.K H v d.py
  | _, _, _, _, .non => by simpa [D.py] using Dp.non
  | _, _, _, _, .bl b => by simpa [D.py] using Dp.bl b
  | _, _, _, _, .int i => by simpa [D.py] using Dp.int i
  | _, _, _, _, .str s => by simp only [D.py]; exact Dp.str (toS s)
  | _, _, 0, h, .tup _ _ q t => by simp only [D.py]; exact .tup (.inl q.rd) (flat_dps 0 (by cases t with | nil => simp [flatAll] | cons _ _ => simp [D.flat] at h) t)
  | _, _, n + 1, h, .tup _ _ q t => by simp only [D.py]; exact .tup (.inl q.rd) (flat_dps n (by simpa [D.flat] using h) t)
  | _, _, 0, h, .tupK q t => by simp only [D.py]; exact .tup (.inr q) (flat_dps 0 (by cases t with | nil => simp [flatAll] | cons _ _ => simp [D.flat] at h) t)
  | _, _, n + 1, h, .tupK q t => by simp only [D.py]; exact .tup (.inr q) (flat_dps n (by simpa [D.flat] using h) t)
  | _, _, 0, h, .lst _ _ q t => by simp only [D.py]; exact .lst (SqL.of q) (flat_dps 0 (by cases t with | nil => simp [flatAll] | cons _ _ => simp [D.flat] at h) t)
  | _, _, n + 1, h, .lst _ _ q t => by simp only [D.py]; exact .lst (SqL.of q) (flat_dps n (by simpa [D.flat] using h) t)
  | _, _, n, h, .dct _ _ _ _ => by cases n <;> simp [D.flat] at h
  | _, _, n, h, .obj _ _ _ _ => by cases n <;> simp [D.flat] at h
  | _, _, n, h, .ref _ => by cases n <;> simp [D.flat] at h
  | _, _, n, h, .fn _ => by cases n <;> simp [D.flat] at h
  | _, _, n, h, .roi _ => by cases n <;> simp [D.flat] at h
theorem flat_dps : ∀ {ds : List D} {vs : List V} (n : Nat), flatAll n ds = true → RDs W Z ρ H ds vs → DpAll W.K H vs (pyAll ds)
  | _, _, _, _, .nil => by simpa [pyAll] using DpAll.nil
  | _, _, n, h, .cons r t => by
    simp only [flatAll, Bool.and_eq_true] at h
    simp only [pyAll]
    exact .cons (flat_dp n h.1 r) (flat_dps n h.2 t)
end
theorem seen_dp (S : Sim W Z ρ h H) {d d' : D} {v : V} (r : RD W Z ρ H d v) (e : seen h 0 d = some d') (f : d'.flat 60 = true) : Dp W.K H v d'.py := by
  have r0 := r
  cases r
  case ref a n en =>
    simp only [seen] at e
    cases eo : h[n]? with
    | none => rw [eo] at e; cases e
    | some o =>
      rw [eo] at e
      have q := S.obj n o a eo en
      cases o <;> dsimp only at e <;> cases e
      · cases q with | lst q t => simp only [D.py]; exact .lst (SqL.of q) (flat_dps 59 (by simpa [D.flat] using f) t)
      · cases q with | ro q t => simp only [D.py]; exact .lst (.inl q) (flat_dps 59 (by simpa [D.flat] using f) t)
      · simp [D.flat] at f
  all_goals
    simp only [seen, Option.some.injEq] at e
    subst e
    exact flat_dp 60 f r0
theorem seen_lst (S : Sim W Z ρ h H) {d : D} {v : V} {ds : List D} (r : RD W Z ρ H d v) (e : seen h 0 d = some (.lst ds)) : ∃ a vs, v = .ref a ∧ SqL W.K H a vs ∧ vs.length = ds.length := by
  cases r
  case ref a n en =>
    simp only [seen] at e
    cases eo : h[n]? with
    | none => rw [eo] at e; cases e
    | some o =>
      rw [eo] at e
      have q := S.obj n o a eo en
      cases o <;> dsimp only at e <;> cases e
      · cases q with | lst q t => exact ⟨a, _, rfl, SqL.of q, t.length.symm⟩
      · cases q with | ro q t => exact ⟨a, _, rfl, .inl q, t.length.symm⟩
  all_goals
    simp only [seen, Option.some.injEq] at e
    cases e
  case lst a vs h1 h2 q t => exact ⟨a, _, rfl, SqL.of q, t.length.symm⟩
theorem seen_tup {d : D} {v : V} {ds : List D} (r : RD W Z ρ H d v) (e : seen h 0 d = some (.tup ds)) : ∃ a vs, v = .ref a ∧ SqT W.K H a vs ∧ vs.length = ds.length := by
  cases r
  case ref a n en =>
    simp only [seen] at e
    cases eo : h[n]? with
    | none => rw [eo] at e; cases e
    | some o => rw [eo] at e; cases o <;> dsimp only at e <;> cases e
  all_goals
    simp only [seen, Option.some.injEq] at e
    cases e
  case tup a vs h1 h2 q t => exact ⟨a, _, rfl, .inl q.rd, t.length.symm⟩
  case tupK a vs q t => exact ⟨a, _, rfl, .inr q, t.length.symm⟩
theorem eqvAll_len : ∀ {xs ys : List D}, xs = [] ∨ ys = [] → eqvAll xs ys = decide (xs.length = ys.length)
  | [], [], _ => rfl
  | [], _ :: _, _ => rfl
  | _ :: _, [], _ => rfl
  | _ :: _, _ :: _, h => by simp at h
theorem emptyPair_cases {a b : D} (e : emptyPair a b = true) : (∃ xs ys, a = .lst xs ∧ b = .lst ys ∧ (xs = [] ∨ ys = [])) ∨ (∃ xs ys, a = .tup xs ∧ b = .tup ys ∧ (xs = [] ∨ ys = [])) := by
  unfold emptyPair at e
  split at e
  · exact .inl ⟨_, _, rfl, rfl, .inl rfl⟩
  · exact .inl ⟨_, _, rfl, rfl, .inr rfl⟩
  · exact .inr ⟨_, _, rfl, rfl, .inl rfl⟩
  · exact .inr ⟨_, _, rfl, rfl, .inr rfl⟩
  · cases e
theorem empty_rc {X : Cx} {pins : List (Addr × Obj)} {σ : L2.St} {s : Shared} {A : Around} (I : Inv X pins σ H s) (hK : X.K = W.K) (hu : A.units < cLine) (S : Sim W Z ρ h H) {d e a b : D} {x y : V} {v u : Value}
    (rd : RD W Z ρ H d x) (re : RD W Z ρ H e y) (ea : seen h 0 d = some a) (eb : seen h 0 e = some b) (he : emptyPair a b = true) (rx : RelV x v) (ry : RelV y u) :
    SeqAt.RcAt A s v u (a.eqv b) ∧ SeqAt.RcNeAt A s v u (!a.eqv b) := by
  rcases emptyPair_cases he with ⟨xs, ys, rfl, rfl, hz⟩ | ⟨xs, ys, rfl, rfl, hz⟩
  · obtain ⟨p, vs, rfl, q1, l1⟩ := seen_lst S rd ea
    obtain ⟨p', vs', rfl, q2, l2⟩ := seen_lst S re eb
    cases rx; cases ry
    obtain ⟨its, r1, ⟨o1, n1, ho1, hc1, _, hd1⟩, _⟩ := I.list (hK ▸ q1)
    obtain ⟨its', r2, ⟨o2, n2, ho2, hc2, _, hd2⟩, _⟩ := I.list (hK ▸ q2)
    have m1 : its.length = xs.length := by rw [← r1.length]; exact l1
    have m2 : its'.length = ys.length := by rw [← r2.length]; exact l2
    have h1 : s.heap.IsList p its.toArray := ⟨o1, ho1, hc1, n1, hd1⟩
    have h2 : s.heap.IsList p' its'.toArray := ⟨o2, ho2, hc2, n2, hd2⟩
    simp only [D.eqv, eqvAll_len hz]
    by_cases q : xs.length = ys.length
    · have z1 : xs.length = 0 := by rcases hz with rfl | rfl <;> simp_all
      have z2 : its.toArray.size = 0 := by simp [m1, z1]
      have hs : its.toArray.size = its'.toArray.size := by simp [m1, m2, q]
      have k1 := SeqAt.RcAt.lists (e := fun _ => true) h1 h2 hs hu (fun j h1 h2 => absurd h1 (by omega))
      have k2 := SeqAt.RcNeAt.lists (e := fun _ => true) h1 h2 hs hu (fun j h1 h2 => absurd h1 (by omega))
      rw [z2] at k1 k2
      simpa [q] using And.intro k1 k2
    · have hs : (its.toArray.size != its'.toArray.size) = true := by simp [m1, m2, q]
      have k1 := SeqAt.RcAt.lists_lengths h1 h2 hs hu
      have k2 := SeqAt.RcNeAt.lists_lengths h1 h2 hs hu
      simpa [q] using And.intro k1 k2
  · obtain ⟨p, vs, rfl, q1, l1⟩ := seen_tup rd ea
    obtain ⟨p', vs', rfl, q2, l2⟩ := seen_tup re eb
    cases rx; cases ry
    obtain ⟨its, r1, ⟨o1, ho1, hc1, n1, hd1⟩, _⟩ := I.tuple (hK ▸ q1)
    obtain ⟨its', r2, ⟨o2, ho2, hc2, n2, hd2⟩, _⟩ := I.tuple (hK ▸ q2)
    have m1 : its.length = xs.length := by rw [← r1.length]; exact l1
    have m2 : its'.length = ys.length := by rw [← r2.length]; exact l2
    have h1 : s.heap.IsTuple p its.toArray := ⟨o1, ho1, hc1, n1, hd1⟩
    have h2 : s.heap.IsTuple p' its'.toArray := ⟨o2, ho2, hc2, n2, hd2⟩
    simp only [D.eqv, eqvAll_len hz]
    have z2 : min its.toArray.size its'.toArray.size = 0 := by rcases hz with rfl | rfl <;> simp_all
    have k1 := SeqAt.RcAt.tuples (e := fun _ => true) h1 h2 hu (fun j h1 h2 => absurd (Nat.lt_min.mpr ⟨h1, h2⟩) (by omega))
    have k2 := SeqAt.RcNeAt.tuples (e := fun _ => true) h1 h2 hu (fun j h1 h2 => absurd (Nat.lt_min.mpr ⟨h1, h2⟩) (by omega))
    rw [z2] at k1 k2
    have m : (its.toArray.size == its'.toArray.size) = decide (xs.length = ys.length) := by
      rw [Bool.eq_iff_iff]
      simp [m1, m2]
    rw [m] at k1 k2
    simpa using And.intro k1 k2
end
section
variable {W : Wd} {Z ρ : List Addr} {h : Hh} {H : Hp} {a b : D} {v u : V}
theorem scal_ok (ra : RD W Z ρ H a v) (rb : RD W Z ρ H b u) (e : scalPair a b = true) : scal v u = true ∧ decide (v = u) = a.eqv b := by
  cases ra <;> cases rb <;> first
    | (simp [scalPair, scalar] at e; done)
    | (simp [scal, D.eqv]; done)
    | skip
  · exact ⟨rfl, by simp only [D.eqv]; exact dec_bl⟩
  · exact ⟨rfl, by simp only [D.eqv]; exact dec_int⟩
  · refine ⟨rfl, ?_⟩
    rename_i x y
    simp only [D.eqv]
    rw [dec_str]
    by_cases q : x = y
    · subst q; simp
    · have : ¬ toS x = toS y := fun z => q (toS_inj z)
      rw [beq_eq_false_iff_ne.mpr this, beq_eq_false_iff_ne.mpr q]
theorem flatV_ok (ra : RD W Z ρ H a v) (e : scalar a = true) : flatV v = true := by
  cases ra <;> simp [scalar] at e <;> rfl
theorem eqV_ok (ra : RD W Z ρ H a v) (rb : RD W Z ρ H b u) (e : scalar a = true) (f : scalar b = true) : eqV v u = a.eqv b := by
  cases ra <;> cases rb <;> first
    | (simp [scalar] at e; done)
    | (simp [scalar] at f; done)
    | (simp [eqV, D.eqv]; done)
    | skip
  rename_i x y
  simp only [D.eqv, eqV]
  by_cases q : x = y
  · subst q; simp
  · have : ¬ toS x = toS y := fun z => q (toS_inj z)
    rw [beq_eq_false_iff_ne.mpr this, beq_eq_false_iff_ne.mpr q]
theorem inV_ok (ra : RD W Z ρ H a v) (e : scalar a = true) : ∀ {xs : List D} {vs : List V}, RDs W Z ρ H xs vs → xs.all scalar = true → vs.all flatV = true ∧ inV v vs = xs.any fun y => y.eqv a := by
  intro xs
  induction xs with
  | nil => intro vs r _; cases r; exact ⟨rfl, rfl⟩
  | cons x xs ih =>
    intro vs r f
    cases r with
    | cons r t =>
      rw [List.all_cons, Bool.and_eq_true] at f
      obtain ⟨i1, i2⟩ := ih t f.2
      refine ⟨by rw [List.all_cons, flatV_ok r f.1, i1]; rfl, ?_⟩
      simp only [inV, List.any_cons] at i2 ⊢
      rw [eqV_ok r ra f.1 e, i2]
end
section
variable {X : Cx} {W : Wd}
def r2b (W : Wd) (f : Hh → D → D → Option Bool) : R2 := fun x y H Q => ∃ Z ρ h d e r, Sim W Z ρ h H ∧ RD W Z ρ H d x ∧ RD W Z ρ H e y ∧ f h d e = some r ∧ Fw.Ans W Z ρ h H (.bl r) Q
theorem key1_ok {Z ρ : List Addr} {H : Hp} {d : D} {v : V} {k : K1} (r : RD W Z ρ H d v) (e : key1 d = some k) : v = kV (keyS k) := by
  cases r <;> simp [key1] at e <;> subst e <;> rfl
theorem RKs.any {Z ρ : List Addr} {H : Hp} (k : K1) : ∀ {kds : List (K1 × D)} {kvs : List (Key × V)}, RKs W Z ρ H kds kvs → (kds.any fun q => decide (q.1 = k)) = (valV kvs (keyS k)).isSome := by
  intro kds
  induction kds with
  | nil => intro kvs r; cases r; rfl
  | cons q kds ih =>
    intro kvs r
    cases r with
    | @cons k' d _ v vs r t =>
      rw [List.any_cons, ih t]
      by_cases e : k' = k
      · subst e
        rw [valV_pos (by rfl)]
        simp
      · rw [valV_neg (fun z => e (keyS_inj z))]
        simp [e]
theorem RKs.look {Z ρ : List Addr} {H : Hp} {k : K1} {d : D} : ∀ {kds : List (K1 × D)} {kvs : List (Key × V)}, RKs W Z ρ H kds kvs → Fw.look k kds = some d → ∃ v, valV kvs (keyS k) = some v ∧ RD W Z ρ H d v := by
  intro kds
  induction kds with
  | nil => intro kvs r e; simp [Fw.look] at e
  | cons q kds ih =>
    intro kvs r e
    cases r with
    | @cons k' d' _ v vs r t =>
      simp only [Fw.look] at e
      by_cases q : k' = k
      · subst q
        rw [if_pos rfl] at e
        cases e
        exact ⟨v, valV_pos (by rfl), r⟩
      · rw [if_neg q] at e
        rw [valV_neg (fun z => q (keyS_inj z))]
        exact ih t e
theorem mem_in (hK : X.K = W.K) (hu : X.A.units + 64 < cLine) (pins : List (Addr × Obj)) (s : Shared) (σ : L2.St) (H : Hp) (x y : V) (v u : Value) (Q : VK) (I : Inv X pins σ H s) (rx : RelV x v) (ry : RelV y u)
    {Z ρ : List Addr} {h : Hh} {d e : D} {r : Bool} (S : Sim W Z ρ h H) (rd : RD W Z ρ H d x) (re : RD W Z ρ H e y) (hm : isMem h d e = some r) (hb : ∀ b, b = r → Q (.bl b) H) :
    wpAny (model X.prog X.w) X.A (compareOp .In v u) (EP X pins σ Q) X.xe s := by
  have hu1 : X.A.units + 1 < cLine := by omega
  unfold isMem at hm
  cases e1 : asDct h e with
  | some kvs =>
    rw [e1] at hm
    cases e2 : key1 d with
    | none => rw [e2] at hm; cases hm
    | some k =>
      rw [e2] at hm
      cases hm
      obtain ⟨a, vs, rfl, q, t⟩ := asDct_ok S re e1
      obtain rfl : u = Value.ref a := ry
      have hk := key1_ok rd e2
      exact d_in hu1 I (o := valV vs (keyS k)) (.inl ⟨vs, keyS k, q, hk, rfl⟩) rx fun s' I' => ⟨.bl _, H, I', rfl, hb _ (t.any k).symm⟩
  | none =>
    rw [e1] at hm
    cases e2 : asSeq h e with
    | none => rw [e2] at hm; cases hm
    | some xs =>
      rw [e2] at hm
      dsimp only at hm
      split at hm
      · rename_i hc
        cases hm
        rw [Bool.and_eq_true] at hc
        obtain ⟨a, vs, rfl, q, t⟩ := asSeq_ok S re e2
        obtain ⟨i1, i2⟩ := inV_ok rd hc.1 t hc.2
        exact op_in_seq pins s σ H _ _ v u Q I rx ry ⟨a, vs, rfl, hK ▸ q, flatV_ok rd hc.1, i1, hb _ (by simpa using i2)⟩
      · cases hm
theorem mem_notin (hK : X.K = W.K) (hu : X.A.units + 64 < cLine) (pins : List (Addr × Obj)) (s : Shared) (σ : L2.St) (H : Hp) (x y : V) (v u : Value) (Q : VK) (I : Inv X pins σ H s) (rx : RelV x v) (ry : RelV y u)
    {Z ρ : List Addr} {h : Hh} {d e : D} {r : Bool} (S : Sim W Z ρ h H) (rd : RD W Z ρ H d x) (re : RD W Z ρ H e y) (hm : isMem h d e = some r) (hb : ∀ b, b = !r → Q (.bl b) H) :
    wpAny (model X.prog X.w) X.A (compareOp .NotIn v u) (EP X pins σ Q) X.xe s := by
  have hu1 : X.A.units + 1 < cLine := by omega
  unfold isMem at hm
  cases e1 : asDct h e with
  | some kvs =>
    rw [e1] at hm
    cases e2 : key1 d with
    | none => rw [e2] at hm; cases hm
    | some k =>
      rw [e2] at hm
      cases hm
      obtain ⟨a, vs, rfl, q, t⟩ := asDct_ok S re e1
      obtain rfl : u = Value.ref a := ry
      have hk := key1_ok rd e2
      exact d_notIn hu1 I (o := valV vs (keyS k)) (.inl ⟨vs, keyS k, q, hk, rfl⟩) rx fun s' I' => ⟨.bl _, H, I', rfl, hb _ (congrArg (fun b => !b) (t.any k).symm)⟩
  | none =>
    rw [e1] at hm
    cases e2 : asSeq h e with
    | none => rw [e2] at hm; cases hm
    | some xs =>
      rw [e2] at hm
      dsimp only at hm
      split at hm
      · rename_i hc
        cases hm
        rw [Bool.and_eq_true] at hc
        obtain ⟨a, vs, rfl, q, t⟩ := asSeq_ok S re e2
        obtain ⟨i1, i2⟩ := inV_ok rd hc.1 t hc.2
        exact op_notIn_seq pins s σ H _ _ v u Q I rx ry ⟨a, vs, rfl, hK ▸ q, flatV_ok rd hc.1, i1, hb _ (by simp [i2])⟩
      · cases hm
theorem op_cmp (hK : X.K = W.K) (hu : X.A.units + 64 < cLine) (op : Cop) : OpR X (compareOp (copOf op)) (r2b W fun h => cmpop h op) := by
  intro pins s σ H x y v u Q I rx ry hq
  obtain ⟨Z, ρ, h, d, e, r, S, rd, re, hf, hA⟩ := hq
  have hb : ∀ {b : Bool}, b = r → Q (.bl b) H := fun {b} q => by subst q; exact hA.now S (.bl _)
  cases op
  case eq =>
    simp only [cmpop, eqD] at hf
    split at hf
    · rename_i hs
      cases hf
      obtain ⟨h1, h2⟩ := scal_ok rd re hs
      exact op_eq pins s σ H _ _ v u Q I rx ry ⟨h1, hb h2⟩
    · split at hf
      · rename_i a b ea eb
        split at hf
        · rename_i hep
          cases hf
          exact EqBoolInt.of_rc (empty_rc I hK (by omega) S rd re ea eb hep rx ry).1 ⟨.bl _, H, I, rfl, hb rfl⟩
        split at hf
        · rename_i hfl
          cases hf
          rw [Bool.and_eq_true] at hfl
          exact op_eqD hu pins s σ H _ _ v u Q I rx ry ⟨a.py, b.py, hK ▸ seen_dp S rd ea hfl.1, hK ▸ seen_dp S re eb hfl.2, flat_shaped hfl.1, flat_shaped hfl.2, hb (flat_eqv 60 60 a b hfl.1 hfl.2)⟩
        · cases hf
      · cases hf
  case ne =>
    simp only [cmpop, eqD] at hf
    split at hf
    · rename_i hs
      cases hf
      obtain ⟨h1, h2⟩ := scal_ok rd re hs
      exact op_ne pins s σ H _ _ v u Q I rx ry ⟨h1, hb (by rw [h2])⟩
    · split at hf
      · rename_i a b ea eb
        split at hf
        · rename_i hep
          cases hf
          exact EqBoolInt.of_rcne (empty_rc I hK (by omega) S rd re ea eb hep rx ry).2 ⟨.bl _, H, I, rfl, hb rfl⟩
        split at hf
        · rename_i hfl
          cases hf
          rw [Bool.and_eq_true] at hfl
          exact op_neD hu pins s σ H _ _ v u Q I rx ry ⟨a.py, b.py, hK ▸ seen_dp S rd ea hfl.1, hK ▸ seen_dp S re eb hfl.2, flat_shaped hfl.1, flat_shaped hfl.2, hb (by rw [flat_eqv 60 60 a b hfl.1 hfl.2])⟩
        · cases hf
      · cases hf
  case lt =>
    cases d <;> cases e <;> simp only [cmpop] at hf <;> first | (cases hf; done) | skip
    · cases rd; cases re; cases hf
      exact op_lt pins s σ H _ _ v u Q I rx ry ⟨_, _, rfl, rfl, hb rfl⟩
    · cases rd; cases re; cases hf
      exact op_lt_str pins s σ H _ _ v u Q I rx ry ⟨_, _, rfl, rfl, hb (by rw [toS_list, toS_list])⟩
  case le =>
    cases d <;> cases e <;> simp only [cmpop] at hf <;> first | (cases hf; done) | skip
    · cases rd; cases re; cases hf
      exact op_le pins s σ H _ _ v u Q I rx ry ⟨_, _, rfl, rfl, hb rfl⟩
    · cases rd; cases re; cases hf
      exact op_le_str pins s σ H _ _ v u Q I rx ry ⟨_, _, rfl, rfl, hb (by rw [toS_list, toS_list])⟩
  case gt =>
    cases d <;> cases e <;> simp only [cmpop] at hf <;> first | (cases hf; done) | skip
    cases rd; cases re; cases hf
    exact op_gt pins s σ H _ _ v u Q I rx ry ⟨_, _, rfl, rfl, hb rfl⟩
  case ge =>
    cases d <;> cases e <;> simp only [cmpop] at hf <;> first | (cases hf; done) | skip
    cases rd; cases re; cases hf
    exact op_ge pins s σ H _ _ v u Q I rx ry ⟨_, _, rfl, rfl, hb rfl⟩
  case is_ =>
    by_cases he : e = .non
    · subst he
      cases re
      have hr : d.isNon = r := by cases d <;> simpa [cmpop] using hf
      refine op_isN pins s σ H _ _ v u Q I rx ry ⟨rfl, hb ?_⟩
      rw [← hr]
      cases rd <;> rfl
    · cases d <;> cases e <;> simp only [cmpop] at hf <;> first | (cases hf; done) | (exact absurd rfl he) | skip
      cases rd; cases re; cases hf
      exact op_isBl pins s σ H _ _ v u Q I rx ry ⟨_, _, rfl, rfl, hb (by rename_i a b; cases a <;> cases b <;> rfl)⟩
  case isnt =>
    by_cases he : e = .non
    · subst he
      cases re
      have hr : (!d.isNon) = r := by cases d <;> simpa [cmpop] using hf
      refine op_notN pins s σ H _ _ v u Q I rx ry ⟨rfl, hb ?_⟩
      rw [← hr]
      cases rd <;> rfl
    · cases d <;> cases e <;> simp only [cmpop] at hf <;> first | (cases hf; done) | (exact absurd rfl he) | skip
      cases rd; cases re; cases hf
      exact op_notBl pins s σ H _ _ v u Q I rx ry ⟨_, _, rfl, rfl, hb (by rename_i a b; cases a <;> cases b <;> rfl)⟩
  case in_ =>
    by_cases hs : ∃ c y, d = .str [c] ∧ e = .str y
    · obtain ⟨c, z, rfl, rfl⟩ := hs
      cases rd; cases re
      simp only [cmpop, Option.some.injEq] at hf
      exact op_in_sign pins s σ H _ _ v u Q I rx ry ⟨c, toS z, rfl, rfl, hb (by rw [toS_list]; exact hf)⟩
    · have hm : isMem h d e = some r := by
        rw [← hf]
        cases d <;> try (cases e <;> rfl)
        rename_i a
        match a, hs with
        | [], _ => cases e <;> rfl
        | [c], hs => cases e <;> first | rfl | (exact absurd ⟨c, _, rfl, rfl⟩ hs)
        | _ :: _ :: _, _ => cases e <;> rfl
      exact mem_in hK hu pins s σ H _ _ v u Q I rx ry S rd re hm (fun b q => hb q)
  case notin =>
    by_cases hs : ∃ c y, d = .str [c] ∧ e = .str y
    · obtain ⟨c, z, rfl, rfl⟩ := hs
      cases rd; cases re
      simp only [cmpop, Option.some.injEq] at hf
      exact op_notIn_sign pins s σ H _ _ v u Q I rx ry ⟨c, toS z, rfl, rfl, hb (by rw [toS_list]; exact hf)⟩
    · have hm : (isMem h d e).map (!·) = some r := by
        rw [← hf]
        cases d <;> try (cases e <;> rfl)
        rename_i a
        match a, hs with
        | [], _ => cases e <;> rfl
        | [c], hs => cases e <;> first | rfl | (exact absurd ⟨c, _, rfl, rfl⟩ hs)
        | _ :: _ :: _, _ => cases e <;> rfl
      cases hm' : isMem h d e with
      | none => rw [hm'] at hm; cases hm
      | some r' =>
        rw [hm'] at hm
        cases hm
        exact mem_notin hK hu pins s σ H _ _ v u Q I rx ry S rd re hm' (fun b q => hb (by rw [q]))
theorem ixn_eq (n : Nat) (i : Int) : ixn n i = L2.ixN n i := rfl
theorem ix_all (hK : X.K = W.K) (hu : X.A.units + 64 < cLine) : IxR X (r2 W index) := by
  intro value sl pins s σ H x y v u Q I rx ry hq hs
  obtain ⟨Z, ρ, h, d, e, r, S, rd, re, hf, hA⟩ := hq
  have dict : ∀ {k : K1} {kvs : List (K1 × D)}, asDct h d = some kvs → key1 e = some k → look k kvs = some r → wpAny (model X.prog X.w) X.A (subscriptTail value sl v u) (EP X pins σ Q) X.xe s := by
    intro k kvs e1 e2 e3
    obtain ⟨a, vs, rfl, q, t⟩ := asDct_ok S rd e1
    obtain rfl : v = Value.ref a := rx
    obtain ⟨z, hz, rz⟩ := t.look e3
    have g : DGet H a y (some z) := .inl ⟨vs, keyS k, q, key1_ok re e2, hz.symm⟩
    exact tail_any (dict_typeIs I g) PySem.F.slot_dict_getitem.lookup (d_getItem (by omega) I g ry fun w' s3 I3 rw' => ⟨z, H, I3, rw', hA.now S rz⟩) hs
  cases e <;> simp only [index] at hf <;> first | (cases hf; done) | skip
  · rename_i i
    by_cases hd : ∃ t, d = .str t
    · obtain ⟨t, rfl⟩ := hd
      simp only at hf
      split at hf
      · rename_i hl
        cases e1 : (ixn t.length i).bind fun j => t[j]? with
        | none => rw [e1] at hf; cases hf
        | some c =>
          rw [e1] at hf
          cases hf
          cases rd
          cases re
          refine ix_str value sl pins s σ H _ _ v u Q I rx ry ⟨toS t, i, c, rfl, rfl, by rw [toS_len, ← line_eq]; exact hl, ?_, hA.now S (.str [c])⟩ hs
          rw [toS_list]
          exact e1
      · cases hf
    · have hf' : (match asSeq h d with
        | some xs => (ixn xs.length i).bind fun j => xs[j]?
        | none => (asDct h d).bind fun kvs => look (.inl i) kvs) = some r := by
        rw [← hf]
        cases d <;> first | rfl | (exact absurd ⟨_, rfl⟩ hd)
      cases e1 : asSeq h d with
      | some xs =>
        rw [e1] at hf'
        dsimp only at hf'
        obtain ⟨a, vs, rfl, q, t⟩ := asSeq_ok S rd e1
        cases re
        cases e2 : ixn xs.length i with
        | none => rw [e2] at hf'; cases hf'
        | some j =>
          rw [e2] at hf'
          obtain ⟨z, hz, rz⟩ := t.get hf'
          have hat : atI vs i = some z := by
            show (L2.ixN vs.length i).bind _ = _
            rw [← t.length, ← ixn_eq, e2]
            exact hz
          rcases q with q | q
          · exact ix_list value sl pins s σ H _ _ v u Q I rx ry ⟨a, vs, i, z, rfl, rfl, hK ▸ q, hat, hA.now S rz⟩ hs
          · exact ix_tup value sl pins s σ H _ _ v u Q I rx ry ⟨a, vs, i, z, rfl, rfl, hK ▸ q, hat, hA.now S rz⟩ hs
      | none =>
        rw [e1] at hf'
        cases e2 : asDct h d with
        | none => rw [e2] at hf'; cases hf'
        | some kvs => rw [e2] at hf'; exact dict e2 rfl hf'
  · rename_i t
    cases e2 : asDct h d with
    | none => rw [e2] at hf; cases hf
    | some kvs => rw [e2] at hf; exact dict e2 rfl hf
end
end Fw
end
section
set_option Elab.async false
set_option maxHeartbeats 1000000
namespace Fw
open PySem PySem.Spec PyProof.Rows L2
def tE (W : Wd) (wx : WX) (f : TM) : TE := fun σ H Q => ∃ Z ρ σd h, Sim W Z ρ h H ∧ RSg W Z ρ H σd σ ∧ Post W Z ρ H (f σd h) (fun d ρ' _ H' => ∀ v, RD W Z ρ' H' d v → Q v H') (fun cls dd H' => wx cls dd σ H')
def tA (W : Wd) (wx : WX) (f : AM) : TA := fun σ H Q => ∃ Z ρ σd h, Sim W Z ρ h H ∧ RSg W Z ρ H σd σ ∧ Post W Z ρ H (f σd h) (fun ds ρ' _ H' => ∀ vs, RDs W Z ρ' H' ds vs → Q vs H') (fun cls dd H' => wx cls dd σ H')
def tB (W : Wd) (wx : WX) (f : BM) : TT := fun σ H Q => ∃ Z ρ σd h, Sim W Z ρ h H ∧ RSg W Z ρ H σd σ ∧ Post W Z ρ H (f σd h) (fun k _ _ H' => Q k H') (fun cls dd H' => wx cls dd σ H')
structure Jc (X : Cx) (W : Wd) (wx : WX) : Prop where
  hK : X.K = W.K
  hu : X.A.units + 64 < cLine
  hu2 : X.A.units + 190 < cLine
  gd : X.A.guards = some []
  tk : Takes X wx
abbrev EJ (X : Cx) (W : Wd) (wx : WX) (e : Expr) (f : TM) : Prop := PE X e (tE W wx f)
abbrev AJ (X : Cx) (W : Wd) (wx : WX) (es : List Expr) (f : AM) : Prop := PA X es (tA W wx f)
abbrev BJ (X : Cx) (W : Wd) (wx : WX) (e : Expr) (f : BM) : Prop := PT X e (tB W wx f)
abbrev WJ (X : Cx) (W : Wd) (wx : WX) (e : Expr) (f : BM) : Prop := PW X e (tB W wx f)
section
variable {W : Wd} {Z ρ : List Addr} {h : Hh} {H : Hp} {E : XK}
theorem post_opt {o : Option D} {Q : VK} (p : Post W Z ρ H (opt o h) (fun d ρ' _ H' => ∀ v, RD W Z ρ' H' d v → Q v H') E) : ∃ r, o = some r ∧ Fw.Ans W Z ρ h H r Q := by
  cases o with
  | none => exact p.elim
  | some r => exact ⟨r, rfl, fun ρ' H' v x S rv => p ρ' H' x S v rv⟩
theorem post_optB {o : Option Bool} {Q : Bool → Hp → Prop} (S : Sim W Z ρ h H) (p : Post W Z ρ H (optB o h) (fun k _ _ H' => Q k H') E) : ∃ r, o = some r ∧ Q r H := by
  cases o with
  | none => exact p.elim
  | some r => exact ⟨r, rfl, p ρ H Ext.refl S⟩
theorem post_now {α : Type} {a : α} {Q : α → List Addr → Hh → Hp → Prop} (S : Sim W Z ρ h H) (p : Post W Z ρ H (.ok a h) Q E) : Q a ρ h H := p ρ H Ext.refl S
end
variable {X : Cx} {W : Wd} {wx : WX} {a b c e : Expr} {fa fb fc f : TM} {ga gb : BM} {pos : Pos} {es rest : List Expr} {fs : AM}
theorem ej_c {v : V} {d : D} (h : PE X e (tC v)) (hd : ∀ Z ρ H, RD W Z ρ H d v) : EJ X W wx e (eC d) :=
  ⟨fun pins s σ H Q I ⟨Z, ρ, σd, h0, S, rs, p⟩ => h.run pins s σ H Q I (post_now S p v (hd Z ρ H))⟩
theorem ej_int {i : Int} {j pos} : EJ X W wx (.Constant (.int i) j pos) (eC (.int i)) := ej_c pe_int fun _ _ _ => .int i
theorem ej_bl {i : Bool} {j pos} : EJ X W wx (.Constant (.bool i) j pos) (eC (.bl i)) := ej_c pe_bl fun _ _ _ => .bl i
theorem ej_non {j pos} : EJ X W wx (.Constant .none j pos) (eC .non) := ej_c pe_non fun _ _ _ => .non
theorem ej_str {x : Str} {t : Tx} {j pos} (h : x = toS t := by rfl) : EJ X W wx (.Constant (.str x) j pos) (eC (.str t)) := by subst h; exact ej_c pe_str fun _ _ _ => .str t
theorem ej_v {i : Nat} {x : Str} (hN : X.N[i]? = some x) (hv : Vis X.env.scope x) (hd : (x == ("__debug__" : Str)) = false := by decide) (hcd : (x == ("__classdict__" : Str)) = false := by decide) : EJ X W wx (.Name x pos) (eV i) :=
  ⟨fun pins s σ H Q I ⟨Z, ρ, σd, h0, S, rs, p⟩ => by
    obtain ⟨d, hd', hA⟩ := post_opt p
    have : σd[i]? = some (some d) := by
      unfold sget at hd'
      split at hd'
      · rename_i d' q; cases hd'; exact q
      · cases hd'
    obtain ⟨v, hv', rv⟩ := rs.at_ i d this
    exact (pe_var hN hv hd hcd).run pins s σ H Q I ⟨v, hv', hA.now S rv⟩⟩
theorem aj_nil : AJ X W wx [] aNil := ⟨fun pos pins s σ H Q I ⟨Z, ρ, σd, h0, S, rs, p⟩ => pa_nil.run pos pins s σ H Q I (post_now S p [] .nil)⟩
theorem aj_cons (ha : EJ X W wx e f) (hr : AJ X W wx es fs) (hs : starEach (e :: es) X.env = (false, eval e X.env) :: starEach es X.env := by rfl) : AJ X W wx (e :: es) (aCons f fs) :=
  ⟨fun pos pins s σ H Q I ⟨Z, ρ, σd, h0, S, rs, p⟩ => (pa_cons ha hr hs).run pos pins s σ H Q I
    ⟨Z, ρ, σd, h0, S, rs, (Post.bind p).imp fun d ρ1 h1 H1 x1 S1 p1 v rv =>
      ⟨Z, ρ1, σd, h1, S1, rs.mono x1, (Post.bind p1).imp fun ds ρ2 h2 H2 x2 S2 p2 vs rvs => post_now S2 p2 (v :: vs) (.cons (rv.mono x2) rvs)⟩⟩⟩
theorem ej_tup {k} (ha : AJ X W wx es fs) : EJ X W wx (.Tuple es k pos) (eTup fs) :=
  ⟨fun pins s σ H Q I ⟨Z, ρ, σd, h0, S, rs, p⟩ => (pe_tupP ha).run pins s σ H Q I
    ⟨Z, ρ, σd, h0, S, rs, (Post.bind p).imp fun ds ρ1 h1 H1 x1 S1 p1 vs rvs => by
      split at p1
      · rename_i hl
        refine ⟨by rw [← rvs.length, ← line_eq]; exact hl, fun q n o hd => ?_⟩
        exact Fw.Ans.tupP (fun ρ' H' v x S rv => p1 ρ' H' x S v rv) S1 rvs q n hd
      · exact p1.elim⟩⟩
theorem ej_lst (ha : AJ X W wx es fs) : EJ X W wx (.List es pos) (eLst fs) :=
  ⟨fun pins s σ H Q I ⟨Z, ρ, σd, h0, S, rs, p⟩ => (pe_lst ha).run pins s σ H Q I
    ⟨Z, ρ, σd, h0, S, rs, (Post.bind p).imp fun ds ρ1 h1 H1 x1 S1 p1 vs rvs => by
      split at p1
      · rename_i hl
        refine ⟨by rw [← rvs.length, ← line_eq]; exact hl, fun q n => ?_⟩
        exact Fw.Ans.lst (fun ρ' H' v x S rv => p1 ρ' H' x S v rv) S1 rvs q n
      · exact p1.elim⟩⟩
theorem getElem?_snoc {α : Type} {xs : List α} {x : α} {n : Nat} {y : α} (h : (xs ++ [x])[n]? = some y) : (n < xs.length ∧ xs[n]? = some y) ∨ (n = xs.length ∧ y = x) := by
  by_cases hn : n < xs.length
  · rw [List.getElem?_append_left hn] at h
    exact .inl ⟨hn, h⟩
  · rw [List.getElem?_append_right (by omega)] at h
    have : n - xs.length = 0 := by
      have := (List.getElem?_eq_some_iff.mp h).1
      simp at this
      omega
    rw [this] at h
    simp at h
    exact .inr ⟨by omega, h.symm⟩
section
variable {Z ρ : List Addr} {h : Hh} {H : Hp}
theorem Ext.own {p : Addr} {o : HO} (n : H p = none) : Ext ρ H (ρ ++ [p]) (upd H p o) :=
  ⟨List.prefix_append _ _, fun a u hr e => by
    refine ⟨fun hm => ?_, ?_⟩
    · rcases List.mem_append.mp hm with hm | hm
      · exact hr hm
      · have : a = p := by simpa using hm
        subst this; rw [n] at e; cases e
    · rw [upd_ne (ne_of_none e n)]; exact e, fun a od u e => by rw [upd_ne (ne_of_none e n)]; exact e⟩
theorem OR.mono' {p a : Addr} {o : O} {u : HO} (n : H p = none) (r : OR W Z ρ H a o) : OR W Z (ρ ++ [p]) (upd H p u) a o := by
  have x : Ext ρ H (ρ ++ [p]) (upd H p u) := Ext.own n
  cases r with
  | lst e t => exact .lst (by rw [upd_ne (ne_of_none e n)]; exact e) (t.mono x)
  | ro e t =>
    refine .ro ?_ (t.mono x)
    rcases e with e | ⟨ob, e⟩
    · exact .inl (by rw [upd_ne (ne_of_none e n)]; exact e)
    · exact .inr ⟨ob, by rw [upd_ne (ne_of_none e n)]; exact e⟩
  | dct e t => exact .dct (by rw [upd_ne (ne_of_none e n)]; exact e) (t.mono x)
  | ins e t => exact .ins (by rw [upd_ne (ne_of_none e n)]; exact e) (t.mono x)
  | dtu e k t => exact .dtu (by rw [upd_ne (ne_of_none e n)]; exact e) k (t.mono x)
  | rod e t => exact .rod (by rw [upd_ne (ne_of_none e n)]; exact e) (t.mono x)
theorem Sim.own {p : Addr} {o : HO} {ob : O} (S : Sim W Z ρ h H) (n : H p = none) (r : OR W Z (ρ ++ [p]) (upd H p o) p ob) : Sim W Z (ρ ++ [p]) (h ++ [ob]) (upd H p o) where
  len := by simp [S.len]
  nd := List.nodup_append.mpr ⟨S.nd, by simp, fun a ha b hb => by
    have hb : b = p := by simpa using hb
    subst hb; exact fun e => (S.new n).2 (e ▸ ha)⟩
  dis := fun z hz => by
    obtain ⟨h1, u, e⟩ := S.dis z hz
    refine ⟨fun hm => ?_, u, by rw [upd_ne (ne_of_none e n)]; exact e⟩
    rcases List.mem_append.mp hm with hm | hm
    · exact h1 hm
    · have : z = p := by simpa using hm
      subst this; exact (S.new n).1 hz
  obj := fun m u a e1 e2 => by
    rcases getElem?_snoc e1 with ⟨hm, e1⟩ | ⟨hm, rfl⟩
    · rw [List.getElem?_append_left (by rw [S.len]; exact hm)] at e2
      exact (S.obj m u a e1 e2).mono' n
    · subst hm
      rw [List.getElem?_append_right (by rw [S.len]; exact Nat.le_refl _), S.len] at e2
      simp at e2
      subst e2
      exact r
end
theorem ej_newL (ha : AJ X W wx es fs) : EJ X W wx (.List es pos) (eNewL fs) :=
  ⟨fun pins s σ H Q I ⟨Z, ρ, σd, h0, S, rs, p⟩ => (pe_lst ha).run pins s σ H Q I
    ⟨Z, ρ, σd, h0, S, rs, (Post.bind p).imp fun ds ρ1 h1 H1 x1 S1 p1 vs rvs => by
      split at p1
      · rename_i hl
        refine ⟨by rw [← rvs.length, ← line_eq]; exact hl, fun q n => ?_⟩
        have S2 := S1.own (o := .lst vs) (ob := .lst ds) n (.lst upd_same (rvs.mono (Ext.own n)))
        exact p1 (ρ1 ++ [q]) _ (Ext.own n) S2 (.ref q) (.ref (by rw [← S1.len]; simp))
      · exact p1.elim⟩⟩
theorem ej_bin (J : Jc X W wx) {op : Bop} {o : Operator} (ho : o = bopOf op := by rfl) (ha : EJ X W wx a fa) (hb : EJ X W wx b fb) : EJ X W wx (.BinOp a o b pos) (eBin op fa fb) := by
  subst ho
  exact ⟨fun pins s σ H Q I ⟨Z, ρ, σd, h0, S, rs, p⟩ => (pe_op (op_bin J.hK op) ha hb).run pins s σ H Q I
    ⟨Z, ρ, σd, h0, S, rs, (Post.bind p).imp fun d ρ1 h1 H1 x1 S1 p1 v rv =>
      ⟨Z, ρ1, σd, h1, S1, rs.mono x1, (Post.bind p1).imp fun e ρ2 h2 H2 x2 S2 p2 u ru => by
        obtain ⟨r, e1, hA⟩ := post_opt p2
        exact ⟨Z, ρ2, h2, d, e, r, S2, rv.mono x2, ru, e1, hA⟩⟩⟩⟩
section
variable {Z ρ : List Addr} {h : Hh} {H : Hp} {E : XK}
theorem post_cmp {o : Option Bool} {Q : VK} (p : Post W Z ρ H (opt (o.map .bl) h) (fun d ρ' _ H' => ∀ v, RD W Z ρ' H' d v → Q v H') E) : ∃ r, o = some r ∧ Fw.Ans W Z ρ h H (.bl r) Q := by
  obtain ⟨r, e, hA⟩ := post_opt p
  cases o with
  | none => cases e
  | some k => cases e; exact ⟨k, rfl, hA⟩
end
theorem ej_cmp (J : Jc X W wx) {op : Cop} {o : CmpOp} (ho : o = copOf op := by rfl) (ha : EJ X W wx a fa) (hb : EJ X W wx b fb) (hm : behindInMarks o b = false := by with_unfolding_all rfl) : EJ X W wx (.Compare a [o] [b] pos) (eCmp op fa fb) := by
  subst ho
  exact ⟨fun pins s σ H Q I ⟨Z, ρ, σd, h0, S, rs, p⟩ => (pe_cmpR (op_cmp J.hK J.hu op) ha hb hm).run pins s σ H Q I
    ⟨Z, ρ, σd, h0, S, rs, (Post.bind p).imp fun d ρ1 h1 H1 x1 S1 p1 v rv =>
      ⟨Z, ρ1, σd, h1, S1, rs.mono x1, (Post.bind p1).imp fun e ρ2 h2 H2 x2 S2 p2 u ru => by
        obtain ⟨r, e1, hA⟩ := post_cmp p2
        exact ⟨Z, ρ2, h2, d, e, r, S2, rv.mono x2, ru, e1, hA⟩⟩⟩⟩
theorem bj_cmp (J : Jc X W wx) {op : Cop} {o : CmpOp} (ho : o = copOf op := by rfl) (ha : EJ X W wx a fa) (hb : EJ X W wx b fb) (hm : behindInMarks o b = false := by with_unfolding_all rfl) : BJ X W wx (.Compare a [o] [b] pos) (bCmp op fa fb) := by
  subst ho
  exact ⟨fun pins s σ H Q I ⟨Z, ρ, σd, h0, S, rs, p⟩ => (pt_cmpR (op_cmp J.hK J.hu op) ha hb hm).run pins s σ H Q I
    ⟨Z, ρ, σd, h0, S, rs, (Post.bind p).imp fun d ρ1 h1 H1 x1 S1 p1 v rv =>
      ⟨Z, ρ1, σd, h1, S1, rs.mono x1, (Post.bind p1).imp fun e ρ2 h2 H2 x2 S2 p2 u ru => by
        obtain ⟨r, e1, q⟩ := post_optB S2 p2
        refine ⟨Z, ρ2, h2, d, e, r, S2, rv.mono x2, ru, e1, fun ρ' H' v x S' rv' => ?_⟩
        cases rv'
        exact ⟨r, rfl, by
          have := p2
          rw [e1] at this
          exact this ρ' H' x S'⟩⟩⟩⟩
theorem wj_or1 (ha : BJ X W wx a ga) : WJ X W wx (.BoolOp .Or [a] pos) ga := pw_or1 ha
theorem wj_or (ha : BJ X W wx a ga) (hb : WJ X W wx (.BoolOp .Or (b :: rest) pos) gb) : WJ X W wx (.BoolOp .Or (a :: b :: rest) pos) (bOr ga gb) :=
  ⟨fun whole pins s σ H Q I ⟨Z, ρ, σd, h0, S, rs, p⟩ => (pw_or ha hb).run whole pins s σ H Q I
    ⟨Z, ρ, σd, h0, S, rs, (Post.bind p).imp fun k ρ1 h1 H1 x1 S1 p1 => by
      cases k with
      | false => exact ⟨Z, ρ1, σd, h1, S1, rs.mono x1, p1⟩
      | true => exact post_now S1 p1⟩⟩
theorem bj_w (h : WJ X W wx a ga) : BJ X W wx a ga := PW.pt h
theorem ej_neg (ha : EJ X W wx a fa) : EJ X W wx (.UnaryOp .USub a pos) (eNeg fa) :=
  ⟨fun pins s σ H Q I ⟨Z, ρ, σd, h0, S, rs, p⟩ => (pe_un un_neg ha).run pins s σ H Q I
    ⟨Z, ρ, σd, h0, S, rs, (Post.bind p).imp fun d ρ1 h1 H1 x1 S1 p1 v rv => by
      cases d <;> first | (exact p1.elim) | skip
      cases rv
      exact ⟨_, rfl, post_now S1 p1 _ (.int _)⟩⟩⟩
theorem ej_ix (J : Jc X W wx) (ha : EJ X W wx a fa) (hb : EJ X W wx b fb) (hs : PlainIx b := by intro _ _; rfl) : EJ X W wx (.Subscript a b pos) (eIx fa fb) :=
  ⟨fun pins s σ H Q I ⟨Z, ρ, σd, h0, S, rs, p⟩ => (pe_ix (ix_all J.hK J.hu) ha hb hs).run pins s σ H Q I
    ⟨Z, ρ, σd, h0, S, rs, (Post.bind p).imp fun d ρ1 h1 H1 x1 S1 p1 v rv =>
      ⟨Z, ρ1, σd, h1, S1, rs.mono x1, (Post.bind p1).imp fun e ρ2 h2 H2 x2 S2 p2 u ru => by
        obtain ⟨r, e1, hA⟩ := post_opt p2
        exact ⟨Z, ρ2, h2, d, e, r, S2, rv.mono x2, ru, e1, hA⟩⟩⟩⟩
end Fw
end
section
set_option Elab.async false
set_option maxHeartbeats 1000000
namespace Fw
open PySem PySem.Spec PyProof.Rows L2
section
variable {W : Wd} {Z ρ : List Addr} {H : Hp} {σd : Sg} {σ : L2.St}
theorem RSg.set (r : RSg W Z ρ H σd σ) {i : Nat} {d : D} {v : V} (rv : RD W Z ρ H d v) : RSg W Z ρ H (σd.set i (some d)) (σ.set i (some v)) where
  len := by simp [r.len]
  at_ := fun j e h => by
    by_cases hij : i = j
    · subst hij
      by_cases hl : i < σd.length
      · rw [List.getElem?_set_self hl] at h
        cases h
        exact ⟨v, by rw [List.getElem?_set_self (by rw [← r.len]; exact hl)], rv⟩
      · rw [List.getElem?_eq_none (by simpa using hl)] at h; cases h
    · rw [List.getElem?_set_ne hij] at h
      rw [List.getElem?_set_ne hij]
      exact r.at_ j e h
theorem RSg.wipe (r : RSg W Z ρ H σd σ) : ∀ vs : List Nat, RSg W Z ρ H (Fw.wipe σd vs) (L2.wipe σ vs)
  | [] => r
  | v :: vs => by
    have ih := r.wipe vs
    refine ⟨by simp [Fw.wipe, L2.wipe, ih.len], fun j e h => ?_⟩
    simp only [Fw.wipe] at h
    by_cases hij : v = j
    · subst hij
      by_cases hl : v < (Fw.wipe σd vs).length
      · rw [List.getElem?_set_self hl] at h; cases h
      · rw [List.getElem?_eq_none (by simpa using hl)] at h; cases h
    · rw [List.getElem?_set_ne hij] at h
      simp only [L2.wipe]
      rw [List.getElem?_set_ne hij]
      exact ih.at_ j e h
end
theorem wipe_set {σ : L2.St} {i : Nat} {x : Option V} : ∀ {vs : List Nat}, i ∈ vs → L2.wipe (σ.set i x) vs = L2.wipe σ vs
  | [], h => absurd h (by simp)
  | v :: vs, h => by
    simp only [L2.wipe]
    by_cases hv : i ∈ vs
    · rw [wipe_set hv]
    · have : i = v := by simpa [hv] using h
      subst this
      have out : ∀ (vs : List Nat) (σ : L2.St), i ∉ vs → L2.wipe (σ.set i x) vs = (L2.wipe σ vs).set i x := by
        intro vs
        induction vs with
        | nil => intro σ _; rfl
        | cons w ws ih =>
          intro σ hw
          simp only [L2.wipe]
          rw [ih σ (fun q => hw (List.mem_cons_of_mem _ q))]
          exact List.set_comm _ _ (fun q => hw (by subst q; exact List.mem_cons_self))
      rw [out vs σ hv, List.set_set]
mutual
def gOf (K : PySem.W.Frag) : G → TG
  | .nm i => gName i
  | .tp gs => fun v σ H Q => gTup K gs.length (gsOf K gs) v σ H Q ∨ gLst K gs.length (gsOf K gs) v σ H Q
def gsOf (K : PySem.W.Frag) : List G → TGs
  | [] => gNil
  | g :: gs => gCons (gOf K g) (gsOf K gs)
end
theorem bindGs_len : ∀ {gs : List G} {xs : List D} {σ σ' : Sg}, bindGs σ gs xs = some σ' → xs.length = gs.length
  | [], [], _, _, _ => rfl
  | [], _ :: _, _, _, h => by simp [bindGs] at h
  | _ :: _, [], _, _, h => by simp [bindGs] at h
  | g :: gs, x :: xs, σ, σ', h => by
    simp only [bindGs] at h
    split at h
    · simp [bindGs_len h]
    · cases h
section
variable {W : Wd} {K : PySem.W.Frag} {Z ρ : List Addr} {H : Hp}
mutual
theorem bindG_ok (hK : K = W.K) : ∀ (g : G) {d : D} {v : V} {σd σd' : Sg} {σ : L2.St} {Q : L2.St → Hp → Prop}, RSg W Z ρ H σd σ → RD W Z ρ H d v → bindG σd g d = some σd' →
    (∀ σ', RSg W Z ρ H σd' σ' → (∀ own : List Nat, (∀ i ∈ g.ix, i ∈ own) → L2.wipe σ' own = L2.wipe σ own) → Q σ' H) → gOf K g v σ H Q
  | .nm i, d, v, σd, σd', σ, Q, rs, rv, e, q => by
    simp only [bindG] at e
    cases e
    exact q _ (rs.set rv) fun own ho => wipe_set (ho i (by simp [G.ix]))
  | .tp gs, d, v, σd, σd', σ, Q, rs, rv, e, q => by
    cases rv <;> simp only [bindG] at e <;> first | (cases e; done) | skip
    case tup a ds vs z ra h t =>
      refine .inl ⟨a, vs, rfl, .inl h.rd, by rw [← t.length]; exact bindGs_len e, bindGs_ok hK gs rs t e fun σ' r w => q σ' r fun own ho => w own (by simpa [G.ix] using ho)⟩
    case tupK a ds vs h t =>
      refine .inl ⟨a, vs, rfl, hK ▸ .inr h, by rw [← t.length]; exact bindGs_len e, bindGs_ok hK gs rs t e fun σ' r w => q σ' r fun own ho => w own (by simpa [G.ix] using ho)⟩
    case lst a ds vs z ra h t =>
      refine .inr ⟨a, vs, rfl, SqL.of h, by rw [← t.length]; exact bindGs_len e, bindGs_ok hK gs rs t e fun σ' r w => q σ' r fun own ho => w own (by simpa [G.ix] using ho)⟩
theorem bindGs_ok (hK : K = W.K) : ∀ (gs : List G) {ds : List D} {vs : List V} {σd σd' : Sg} {σ : L2.St} {Q : L2.St → Hp → Prop}, RSg W Z ρ H σd σ → RDs W Z ρ H ds vs → bindGs σd gs ds = some σd' →
    (∀ σ', RSg W Z ρ H σd' σ' → (∀ own : List Nat, (∀ i ∈ ixs gs, i ∈ own) → L2.wipe σ' own = L2.wipe σ own) → Q σ' H) → gsOf K gs vs σ H Q
  | [], ds, vs, σd, σd', σ, Q, rs, rv, e, q => by
    cases rv with
    | nil => simp only [bindGs] at e; cases e; exact ⟨rfl, q _ rs fun _ _ => rfl⟩
    | cons _ _ => simp [bindGs] at e
  | g :: gs, ds, vs, σd, σd', σ, Q, rs, rv, e, q => by
    cases rv with
    | nil => simp [bindGs] at e
    | cons r t =>
      simp only [bindGs] at e
      split at e
      · rename_i σ1 e1
        refine ⟨_, _, rfl, bindG_ok hK g rs r e1 fun σ' r1 w1 => bindGs_ok hK gs r1 t e fun σ2 r2 w2 => q σ2 r2 fun own ho => ?_⟩
        rw [w2 own (fun i hi => ho i (by simp [ixs, hi])), w1 own (fun i hi => ho i (by simp [ixs, hi]))]
      · cases e
end
end
abbrev GJ (X : Cx) (tg : Expr) (g : G) : Prop := PG X tg (gOf X.K g)
abbrev GsJ (X : Cx) (tg : List Expr) (gs : List G) : Prop := PGs X tg (gsOf X.K gs)
section
variable {X : Cx} {pos : Pos}
theorem gj_nm {i : Nat} {x : Str} (hN : X.N.Nodup) (hi : X.N[i]? = some x) (hx : Loc X.env.scope x) (hf : X.fn x = true ∨ X.env.scope.names.lookup x = some .local := by first | exact .inl rfl | exact .inr rfl | assumption) : GJ X (.Name x pos) (.nm i) := pg_name hN hi hx hf
theorem gsj_nil : GsJ X [] [] := pgs_nil
theorem gsj_cons {e : Expr} {es : List Expr} {g : G} {gs : List G} (h1 : GJ X e g) (h2 : GsJ X es gs)
    (hs : (assignEach (e :: es) X.env).map (·.2) = assign e X.env :: (assignEach es X.env).map (·.2) := by rfl) : GsJ X (e :: es) (g :: gs) := pgs_cons h1 h2 hs
theorem gj_tp {es : List Expr} {k : Nat} {gs : List G} (hc : X.calm = true) (h : GsJ X es gs)
    (hn : (assignEach es X.env).length = gs.length := by rfl) (hst : (assignEach es X.env).findIdx? (·.1) = none := by rfl) : GJ X (.Tuple es k pos) (.tp gs) := by
  refine ⟨fun pins s σ H v u Q I r q => ?_⟩
  rcases q with q | q
  · exact (pg_tup hc h hn hst).run pins s σ H v u Q I r q
  · exact (pg_lst hc h hn hst).run pins s σ H v u Q I r q
end
def PostS (W : Wd) (Z ρ : List Addr) (H : Hp) (r : SR) (D : Ends) (wx : WX) : Prop := match r with
  | .nx σd h => ∀ ρ' H' σ', Ext ρ H ρ' H' → Sim W Z ρ' h H' → RSg W Z ρ' H' σd σ' → D.nx σ' H'
  | .bk σd h => ∀ ρ' H' σ', Ext ρ H ρ' H' → Sim W Z ρ' h H' → RSg W Z ρ' H' σd σ' → D.bk σ' H'
  | .ct σd h => ∀ ρ' H' σ', Ext ρ H ρ' H' → Sim W Z ρ' h H' → RSg W Z ρ' H' σd σ' → D.ct σ' H'
  | .rt d h => ∀ ρ' H' v, Ext ρ H ρ' H' → Sim W Z ρ' h H' → RD W Z ρ' H' d v → D.rt v H'
  | .xn x σd h => ∀ ρ' H' σ' cls dd, Ext ρ H ρ' H' → Sim W Z ρ' h H' → RSg W Z ρ' H' σd σ' → RX W Z ρ' H' x cls dd → wx cls dd σ' H'
  | .bad => False
def tS (W : Wd) (wx : WX) (f : SM) : TS := fun D σ H => ∃ Z ρ σd h, Sim W Z ρ h H ∧ RSg W Z ρ H σd σ ∧ PostS W Z ρ H (f σd h) D wx
abbrev SJ (X : Cx) (W : Wd) (wx : WX) (st : Stmt) (f : SM) : Prop := PS X st (tS W wx f)
abbrev SsJ (X : Cx) (W : Wd) (wx : WX) (st : List Stmt) (f : SM) : Prop := PSs X st (tS W wx f)
section
variable {W : Wd} {Z ρ ρ1 : List Addr} {H H1 : Hp} {r : SR} {D D' : Ends} {wx wx' : WX}
theorem PostS.mono (x : Ext ρ H ρ1 H1) (p : PostS W Z ρ H r D wx) : PostS W Z ρ1 H1 r D wx := by
  cases r with
  | nx σ h => exact fun ρ' H' σ' y => p ρ' H' σ' (x.trans y)
  | bk σ h => exact fun ρ' H' σ' y => p ρ' H' σ' (x.trans y)
  | ct σ h => exact fun ρ' H' σ' y => p ρ' H' σ' (x.trans y)
  | rt d h => exact fun ρ' H' v y => p ρ' H' v (x.trans y)
  | xn e σ h => exact fun ρ' H' σ' cls dd y => p ρ' H' σ' cls dd (x.trans y)
  | bad => exact p
theorem PostS.of {α : Type} {σd : Sg} {σ : L2.St} {a : R α} {k : α → Hh → SR} (rs : RSg W Z ρ H σd σ) (p : PostS W Z ρ H (SR.of σd a k) D wx) :
    Post W Z ρ H a (fun v ρ1 h1 H1 => PostS W Z ρ1 H1 (k v h1) D wx) (fun cls dd H' => wx cls dd σ H') := by
  cases a with
  | ok v h => exact fun ρ' H' x _ => p.mono x
  | xn e h => exact fun ρ' H' cls dd x S rx => p ρ' H' σ cls dd x S (rs.mono x) rx
  | bad => exact p
theorem PostS.nx {σd : Sg} {σ : L2.St} {h : Hh} (S : Sim W Z ρ h H) (rs : RSg W Z ρ H σd σ) (p : PostS W Z ρ H (.nx σd h) D wx) : D.nx σ H := p ρ H σ Ext.refl S rs
theorem PostS.then_ {k : Sg → Hh → SR} (p : PostS W Z ρ H (r.then_ k) D wx) : PostS W Z ρ H r { D with nx := fun σ' H' => ∃ ρ' σd' h', Sim W Z ρ' h' H' ∧ RSg W Z ρ' H' σd' σ' ∧ PostS W Z ρ' H' (k σd' h') D wx } wx := by
  cases r with
  | nx σ h => exact fun ρ' H' σ' x S rs => ⟨ρ', σ, h, S, rs, PostS.mono x p⟩
  | bk σ h => exact p
  | ct σ h => exact p
  | rt d h => exact p
  | xn e σ h => exact p
  | bad => exact p
end
structure Js (X : Cx) (W : Wd) (wx : WX) : Prop extends Jc X W wx where
  hN : X.N.Nodup
  hc : X.calm = true
  hp : PassesOwn (model X.prog X.w) X.A X.env X.xe
section
variable {X : Cx} {W : Wd} {wx : WX} {e c : Expr} {f : TM} {g : BM} {fs : AM} {pos : Pos} {st : Stmt} {rest : List Stmt} {a b : SM}
theorem ss_nil : SsJ X W wx [] sNil := ⟨fun pins s σ H D I ⟨Z, ρ, σd, h0, S, rs, p⟩ => pss_nil.run pins s σ H D I (p.nx S rs)⟩
theorem ss_cons (h1 : SJ X W wx st a) (h2 : SsJ X W wx rest b) : SsJ X W wx (st :: rest) (sCons a b) :=
  ⟨fun pins s σ H D I ⟨Z, ρ, σd, h0, S, rs, p⟩ => (pss_cons h1 h2).run pins s σ H D I
    ⟨Z, ρ, σd, h0, S, rs, by
      have q := PostS.then_ p
      cases hr : a σd h0 with
      | nx σ h => rw [hr] at q; exact fun ρ' H' σ' x S rs => let ⟨ρ2, σ2, h2, S2, r2, p2⟩ := q ρ' H' σ' x S rs; ⟨Z, ρ2, σ2, h2, S2, r2, p2⟩
      | bk σ h => rw [hr] at q; exact q
      | ct σ h => rw [hr] at q; exact q
      | rt d h => rw [hr] at q; exact q
      | xn e σ h => rw [hr] at q; exact q
      | bad => rw [hr] at q; exact q⟩⟩
theorem sj_ex (he : EJ X W wx e f) (hs : swapsWith e none pos.line X.env = pure false := by rfl) : SJ X W wx (.Expr e pos) (sEx f) :=
  ⟨fun pins s σ H D I ⟨Z, ρ, σd, h0, S, rs, p⟩ => (ps_expr he hs).run pins s σ H D I
    ⟨Z, ρ, σd, h0, S, rs, (PostS.of rs p).imp fun d ρ1 h1 H1 x1 S1 p1 v rv => p1.nx S1 (rs.mono x1)⟩⟩
theorem sj_ret (he : EJ X W wx e f) : SJ X W wx (.Return (some e) pos) (sRet f) :=
  ⟨fun pins s σ H D I ⟨Z, ρ, σd, h0, S, rs, p⟩ => (ps_ret he).run pins s σ H D I
    ⟨Z, ρ, σd, h0, S, rs, (PostS.of rs p).imp fun d ρ1 h1 H1 x1 S1 p1 v rv => p1 ρ1 H1 v Ext.refl S1 rv⟩⟩
theorem sj_if {p q : List Stmt} (hc : BJ X W wx c g) (ha : SsJ X W wx p a) (hb : SsJ X W wx q b) : SJ X W wx (.If c p q pos) (sIf g a b) :=
  ⟨fun pins s σ H D I ⟨Z, ρ, σd, h0, S, rs, p⟩ => (ps_if hc ha hb).run pins s σ H D I
    ⟨Z, ρ, σd, h0, S, rs, (PostS.of rs p).imp fun k ρ1 h1 H1 x1 S1 p1 => by
      cases k with
      | true => exact ⟨Z, ρ1, σd, h1, S1, rs.mono x1, p1⟩
      | false => exact ⟨Z, ρ1, σd, h1, S1, rs.mono x1, p1⟩⟩⟩
theorem sj_set {i : Nat} {x : Str} {pos' : Pos} (J : Js X W wx) (hi : X.N[i]? = some x) (hx : Loc X.env.scope x) (he : EJ X W wx e f) (hs : swapsWith e (some (.Name x pos')) pos.line X.env = pure false := by rfl) (hf : X.fn x = true ∨ X.env.scope.names.lookup x = some .local := by first | exact .inl rfl | exact .inr rfl | assumption) :
    SJ X W wx (.Assign [.Name x pos'] e pos) (sSet i f) :=
  ⟨fun pins s σ H D I ⟨Z, ρ, σd, h0, S, rs, p⟩ => (ps_set J.hN hi hx he hs hf).run pins s σ H D I
    ⟨Z, ρ, σd, h0, S, rs, (PostS.of rs p).imp fun d ρ1 h1 H1 x1 S1 p1 v rv => p1.nx S1 ((rs.mono x1).set rv)⟩⟩
theorem wh_post {Z ρ : List Addr} {H : Hp} {r : SR} {D : Ends} {k : Sg → Hh → SR} (p : PostS W Z ρ H (match r with
      | .nx σ h => k σ h
      | .ct σ h => k σ h
      | .bk σ h => .nx σ h
      | r => r) D wx) {N : L2.St → Hp → Prop} (hN : ∀ ρ' H' σ' σd' h', Sim W Z ρ' h' H' → RSg W Z ρ' H' σd' σ' → Ext ρ H ρ' H' → PostS W Z ρ' H' (k σd' h') D wx → N σ' H') :
    PostS W Z ρ H r { D with nx := N, ct := N, bk := D.nx } wx := by
  cases r with
  | nx σ h => exact fun ρ' H' σ' x S rs => hN ρ' H' σ' σ h S rs x (PostS.mono x p)
  | ct σ h => exact fun ρ' H' σ' x S rs => hN ρ' H' σ' σ h S rs x (PostS.mono x p)
  | bk σ h => exact p
  | rt d h => exact p
  | xn e σ h => exact p
  | bad => exact p
end
structure ExtZ (Z ρ : List Addr) (H : Hp) (ρ' : List Addr) (H' : Hp) : Prop where
  pre : ρ <+: ρ'
  keep : ∀ a o, a ∉ Z → a ∉ ρ → H a = some o → a ∉ ρ' ∧ H' a = some o
  fz : ∀ a od u, H a = some (.frz od u) → H' a = some (.frz od u)
theorem Ext.z {Z ρ ρ' : List Addr} {H H' : Hp} (x : Ext ρ H ρ' H') : ExtZ Z ρ H ρ' H' := ⟨x.pre, fun a o _ => x.keep a o, x.fz⟩
theorem ExtZ.tup {W : Wd} {Z ρ ρ' : List Addr} {H H' : Hp} (x : ExtZ Z ρ H ρ' H') {a : Addr} {vs : List V} (z : a ∉ Z) (h : a ∉ ρ) (r : TupAt W H a vs) : a ∉ ρ' ∧ TupAt W H' a vs :=
  ⟨let ⟨_, e, _⟩ := r; (x.keep a _ z h e).1, r.map fun u e => (x.keep a u z h e).2⟩
theorem ExtZ.rd {Z ρ ρ' : List Addr} {H H' : Hp} (x : ExtZ Z ρ H ρ' H') {a : Addr} {u : HO} (z : a ∉ Z) (h : a ∉ ρ) (r : Rd H a u) : a ∉ ρ' ∧ Rd H' a u := by
  rcases r with r | ⟨o, r⟩
  · exact ⟨(x.keep a _ z h r).1, .inl (x.keep a _ z h r).2⟩
  · exact ⟨(x.keep a _ z h r).1, .inr ⟨o, (x.keep a _ z h r).2⟩⟩
section
variable {W : Wd} {Z ρ ρ' : List Addr} {H H' : Hp}
mutual
theorem RD.monoZ (x : ExtZ Z ρ H ρ' H') : ∀ {d : D} {v : V}, RD W Z ρ H d v → RD W Z ρ' H' d v
  | _, _, .non => .non
  | _, _, .bl b => .bl b
  | _, _, .int i => .int i
  | _, _, .str s => .str s
  | _, _, .tup z r q t => .tup z (x.tup z r q).1 (x.tup z r q).2 (RDs.monoZ x t)
  | _, _, .tupK k t => .tupK k (RDs.monoZ x t)
  | _, _, .lst z r q t => .lst z (x.keep _ _ z r q).1 (x.keep _ _ z r q).2 (RDs.monoZ x t)
  | _, _, .dct z r q t => .dct z (x.rd z r q).1 (x.rd z r q).2 (RKs.monoZ x t)
  | _, _, .obj z r q t => let ⟨h1, h2, h3⟩ := q.map z r (fun b u z r e => ⟨z, x.keep b u z r e⟩); .obj h1 h2 h3 (RFs.monoZ x t)
  | _, _, .ref e => .ref (pre_get x.pre e)
  | _, _, .fn f => .fn f
  | _, _, .roi q => .roi (q.elim (fun ⟨z, r, q⟩ => .inl ⟨z, (x.rd z r q).1, (x.rd z r q).2⟩) .inr)
theorem RDs.monoZ (x : ExtZ Z ρ H ρ' H') : ∀ {ds : List D} {vs : List V}, RDs W Z ρ H ds vs → RDs W Z ρ' H' ds vs
  | _, _, .nil => .nil
  | _, _, .cons r t => .cons (RD.monoZ x r) (RDs.monoZ x t)
theorem RKs.monoZ (x : ExtZ Z ρ H ρ' H') : ∀ {ds : List (K1 × D)} {vs : List (Key × V)}, RKs W Z ρ H ds vs → RKs W Z ρ' H' ds vs
  | _, _, .nil => .nil
  | _, _, .cons r t => .cons (RD.monoZ x r) (RKs.monoZ x t)
theorem RFs.monoZ (x : ExtZ Z ρ H ρ' H') : ∀ {ds : List (Nat × D)} {vs : List (Str × V)}, RFs W Z ρ H ds vs → RFs W Z ρ' H' ds vs
  | _, _, .nil => .nil
  | _, _, .cons r t => .cons (RD.monoZ x r) (RFs.monoZ x t)
end
end
def Walks (W : Wd) (Z ρ : List Addr) (H : Hp) (J : L2.It) (xs : List D) : Prop := ∀ Z' ρ' h' H', (∀ z ∈ Z', z ∈ Z ∨ H z = none) → ExtZ Z' ρ H ρ' H' → Sim W Z' ρ' h' H' →
  (∀ (i : Nat) (x : D), xs[i]? = some x → J.go i H' ∧ ∀ v H2, J.yld i H' v H2 → Ext ρ' H' ρ' H2 ∧ Sim W Z' ρ' h' H2 ∧ RD W Z' ρ' H2 x v) ∧ J.stop xs.length H'
def tI (W : Wd) (wx : WX) (it : It) (src : AM) : TI := fun σ H R => ∃ Z ρ σd h, Sim W Z ρ h H ∧ RSg W Z ρ H σd σ ∧ Post W Z ρ H (itM it src σd h) (fun xs ρ' _ H' => ∀ J, Walks W Z ρ' H' J xs → R J H') (fun cls dd H' => wx cls dd σ H')
abbrev IJ (X : Cx) (W : Wd) (wx : WX) (tg e : Expr) (it : It) (src : AM) : Prop := PI X tg e (tI W wx it src)
theorem fl_post {W : Wd} {wx : WX} {Z ρ : List Addr} {H : Hp} {D : Ends} {body : Fw.D → Sg → Hh → SR} {x : Fw.D} {xs : List Fw.D} {σd : Sg} {h : Hh} (p : PostS W Z ρ H (forL body (x :: xs) σd h) D wx)
    {N : L2.St → Hp → Prop} (hN : ∀ ρ' H' σ' σd' h', Sim W Z ρ' h' H' → RSg W Z ρ' H' σd' σ' → Ext ρ H ρ' H' → PostS W Z ρ' H' (forL body xs σd' h') D wx → N σ' H') :
    PostS W Z ρ H (body x σd h) { D with nx := N, ct := N, bk := D.nx } wx := by
  simp only [forL] at p
  exact wh_post p hN
theorem sj_for {X : Cx} {W : Wd} {wx : WX} {tg iter : Expr} {body : List Stmt} {it : It} {src : AM} {g : G} {b : SM} {pos : Pos} (J : Js X W wx) (hi : IJ X W wx tg iter it src) (hg : GJ X tg g) (hb : SsJ X W wx body b)
    (hs : ∀ x, foldedSetIterable iter X.env x = pure x := by intro _; rfl) : SJ X W wx (.For tg iter body [] pos) (sFor g it src b) :=
  ⟨fun pins s σ H D I ⟨Z, ρ, σd, h0, S, rs, p⟩ => (ps_for J.hp J.hc hi hg hb hs).run pins s σ H D I
    ⟨Z, ρ, σd, h0, S, rs, (PostS.of rs p).imp fun xs ρ1 h1 H1 x1 S1 p1 Ji hw => by
      refine ⟨fun i m σ H => ∃ ρ σd h, i ≤ xs.length ∧ m = xs.length - i ∧ Ext ρ1 H1 ρ H ∧ Sim W Z ρ h H ∧ RSg W Z ρ H σd σ ∧ PostS W Z ρ H (forL (forB g b) (xs.drop i) σd h) D wx,
        ⟨xs.length, ρ1, σd, h1, Nat.zero_le _, rfl, Ext.refl, S1, rs.mono x1, p1⟩, fun i m σ H ⟨ρ2, σ2, h2, hi, hm, x2, S2, r2, p2⟩ => ?_⟩
      have w := hw Z ρ2 h2 H (fun z hz => .inl hz) x2.z S2
      by_cases he : i = xs.length
      · subst he
        rw [List.drop_length] at p2
        exact .inl ⟨w.2, p2.nx S2 r2⟩
      · have hlt : i < xs.length := by omega
        obtain ⟨go, yl⟩ := w.1 i xs[i] (by simp [hlt])
        rw [List.drop_eq_getElem_cons hlt] at p2
        refine .inr ⟨go, fun σ' H' => ∃ ρ σd h, i + 1 ≤ xs.length ∧ Ext ρ1 H1 ρ H' ∧ Sim W Z ρ h H' ∧ RSg W Z ρ H' σd σ' ∧ PostS W Z ρ H' (forL (forB g b) (xs.drop (i + 1)) σd h) D wx,
          fun σ' H' ⟨ρ3, σ3, h3, a1, a2, a3, a4, a5⟩ => ⟨xs.length - (i + 1), by omega, ρ3, σ3, h3, a1, rfl, a2, a3, a4, a5⟩, fun v H' hy => ?_⟩
        obtain ⟨x3, S3, rv⟩ := yl v H' hy
        have q := fl_post (N := fun σ' H' => ∃ ρ σd h, i + 1 ≤ xs.length ∧ Ext ρ1 H1 ρ H' ∧ Sim W Z ρ h H' ∧ RSg W Z ρ H' σd σ' ∧ PostS W Z ρ H' (forL (forB g b) (xs.drop (i + 1)) σd h) D wx) (p2.mono x3)
          fun ρ' H4 σ' σd' h' S' rs' x4 q => ⟨ρ', σd', h', by omega, (x2.trans x3).trans x4, S', rs', q⟩
        unfold forB at q
        cases hb' : bindG σ2 g xs[i] with
        | none => rw [hb'] at q; exact q.elim
        | some σ4 =>
          rw [hb'] at q
          exact bindG_ok J.hK g (r2.mono x3) rv hb' fun σ5 r5 _ => ⟨Z, ρ2, σ4, h2, S3, r5, q⟩⟩⟩
end Fw
end
section
set_option Elab.async false
set_option maxHeartbeats 1000000
namespace Fw
open PySem PySem.Spec PyProof.Rows L2
section
variable {W : Wd} {Z Z' ρ : List Addr} {H : Hp}
theorem Rd.there {a : Addr} {u : HO} (r : Rd H a u) : ∃ o, H a = some o := by
  rcases r with r | ⟨o, r⟩
  · exact ⟨_, r⟩
  · exact ⟨_, r⟩
mutual
theorem RD.reZ (hz : ∀ z ∈ Z', z ∈ Z ∨ H z = none) : ∀ {d : D} {v : V}, RD W Z ρ H d v → RD W Z' ρ H d v
  | _, _, .non => .non
  | _, _, .bl b => .bl b
  | _, _, .int i => .int i
  | _, _, .str s => .str s
  | _, _, .tup z r q t => .tup (fun m => (hz _ m).elim z fun n => q.there n) r q (RDs.reZ hz t)
  | _, _, .tupK k t => .tupK k (RDs.reZ hz t)
  | _, _, .lst z r q t => .lst (fun m => (hz _ m).elim z fun n => by rw [q] at n; cases n) r q (RDs.reZ hz t)
  | _, _, .dct z r q t => .dct (fun m => (hz _ m).elim z fun n => by obtain ⟨o, e⟩ := Fw.Rd.there q; rw [e] at n; cases n) r q (RKs.reZ hz t)
  | _, _, .obj z r q t => let ⟨h1, h2, h3⟩ := q.map z r (fun b u z r e => ⟨fun m => (hz _ m).elim z fun n => (by rw [e] at n; cases n), r, e⟩); .obj h1 h2 h3 (RFs.reZ hz t)
  | _, _, .ref e => .ref e
  | _, _, .fn f => .fn f
  | _, _, .roi q => .roi (q.elim (fun ⟨z, r, q⟩ => .inl ⟨(fun m => (hz _ m).elim z fun n => by obtain ⟨o, e⟩ := Fw.Rd.there q; rw [e] at n; cases n), r, q⟩) .inr)
theorem RDs.reZ (hz : ∀ z ∈ Z', z ∈ Z ∨ H z = none) : ∀ {ds : List D} {vs : List V}, RDs W Z ρ H ds vs → RDs W Z' ρ H ds vs
  | _, _, .nil => .nil
  | _, _, .cons r t => .cons (RD.reZ hz r) (RDs.reZ hz t)
theorem RKs.reZ (hz : ∀ z ∈ Z', z ∈ Z ∨ H z = none) : ∀ {ds : List (K1 × D)} {vs : List (Key × V)}, RKs W Z ρ H ds vs → RKs W Z' ρ H ds vs
  | _, _, .nil => .nil
  | _, _, .cons r t => .cons (RD.reZ hz r) (RKs.reZ hz t)
theorem RFs.reZ (hz : ∀ z ∈ Z', z ∈ Z ∨ H z = none) : ∀ {ds : List (Nat × D)} {vs : List (Str × V)}, RFs W Z ρ H ds vs → RFs W Z' ρ H ds vs
  | _, _, .nil => .nil
  | _, _, .cons r t => .cons (RD.reZ hz r) (RFs.reZ hz t)
end
end
section
variable {W : Wd} {K : PySem.W.Frag} {Z ρ : List Addr} {H : Hp} {a b : Addr} {xs ys : List D} {vs us : List V}
theorem walks_range (lo : Int) (n : Nat) : Walks W Z ρ H (Itr lo n) (rangeD lo n) := by
  intro Z' ρ' h' H' hz x S
  refine ⟨fun i d e => ?_, by simp [Itr, rangeD]⟩
  unfold rangeD at e
  rw [List.getElem?_map] at e
  cases ec : (List.range n)[i]? with
  | none => rw [ec] at e; cases e
  | some c =>
    rw [ec] at e
    cases e
    have hi : i < n := by simpa using (List.getElem?_eq_some_iff.mp ec).1
    have : c = i := by rw [List.getElem?_range hi] at ec; cases ec; rfl
    subst this
    refine ⟨hi, fun w H2 ⟨e2, hw⟩ => ?_⟩
    subst e2 hw
    exact ⟨Ext.refl, S, .int _⟩
theorem pair_ok {Z' ρ' : List Addr} {h' : Hh} {H' : Hp} {T : Addr} {d e : D} {x y : V} (S : Sim W Z' ρ' h' H') (n : H' T = none) (r1 : RD W Z' ρ' H' d x) (r2 : RD W Z' ρ' H' e y) (hpl : W.pl = false := by assumption) :
    Ext ρ' H' ρ' (upd H' T (.tup [x, y])) ∧ Sim W Z' ρ' h' (upd H' T (.tup [x, y])) ∧ RD W Z' ρ' (upd H' T (.tup [x, y])) (.tup [d, e]) (.ref T) :=
  ⟨Ext.laid n, S.laid n, .tup (S.new n).1 (S.new n).2 (.of hpl upd_same) (.cons (r1.mono (Ext.laid n)) (.cons (r2.mono (Ext.laid n)) .nil))⟩
theorem walks_enum (az : a ∉ Z) (ha : a ∉ ρ) (h : H a = some (.lst vs)) (t : RDs W Z ρ H xs vs) (hpl : W.pl = false := by assumption) : Walks W Z ρ H (Ite K a) (enumD xs) := by
  intro Z' ρ' h' H' hz x S
  have az' : a ∉ Z' := fun m => (hz a m).elim az fun n => by rw [h] at n; cases n
  obtain ⟨ha', hh'⟩ := x.keep a _ az' ha h
  have q : SqL K H' a vs := SqL.of hh'
  refine ⟨fun i d e => ?_, vs, q, by rw [← t.length]; simp [enumD]⟩
  unfold enumD at e
  rw [List.getElem?_map, List.getElem?_zipIdx] at e
  cases ed : xs[i]? with
  | none => rw [ed] at e; cases e
  | some d' =>
    rw [ed] at e
    simp only [Option.map_some, Option.some.injEq] at e
    subst e
    obtain ⟨v, ev, rv⟩ := t.get ed
    refine ⟨⟨vs, v, q, ev⟩, fun w H2 ⟨T, y, e1, n, e2, hw⟩ => ?_⟩
    subst e1 e2
    have := hw vs q
    rw [ev] at this
    cases this
    simp only [Nat.zero_add]
    exact pair_ok S n (.int _) ((rv.reZ hz).monoZ x)
end
section
variable {X : Cx} {tg : Expr} {pins : List (Addr × Obj)} {σ : L2.St} {R : L2.It → Hp → Prop} {H : Hp} {a : Addr} {xs : List V}
end
section
variable {X : Cx} {W : Wd} {wx : WX} {tg e e2 : Expr} {f f2 : TM} {fs : AM}
theorem len1 {σ : Sg} {h : Hh} {Z ρ : List Addr} {H : Hp} {Q : List D → List Addr → Hh → Hp → Prop} {E : XK} (p : Post W Z ρ H (aCons f aNil σ h) Q E) : Post W Z ρ H (aCons f aNil σ h) (fun ds ρ h H => (∃ d, ds = [d]) ∧ Q ds ρ h H) E := by
  unfold aCons aNil at p ⊢
  cases hf : f σ h with
  | ok d h1 => rw [hf] at p; exact fun ρ' H' x S => ⟨⟨d, rfl⟩, p ρ' H' x S⟩
  | xn x h1 => rw [hf] at p; exact p
  | bad => rw [hf] at p; exact p
theorem walk_some {it : It} {ds : List D} {h : Hh} {Z ρ : List Addr} {H : Hp} {R : List D → List Addr → Hh → Hp → Prop} {E : XK} (S : Sim W Z ρ h H) (p : Post W Z ρ H (match walk it ds with
    | none => .bad
    | some xs => .ok xs h) R E) : ∃ xs, walk it ds = some xs ∧ R xs ρ h H := by
  cases hw : walk it ds with
  | none => rw [hw] at p; exact p.elim
  | some xs => rw [hw] at p; exact ⟨xs, rfl, post_now S p⟩
theorem lim_eq : lim = 2 ^ 62 := by decide
theorem ij_range1 {a : Expr} {p pos : Pos} (ha : EJ X W wx a f) (hg : Gl X "range" := by rfl) (hm : X.mg "range" = none := by assumption) (hs : starEach [a] X.env = (false, eval a X.env) :: starEach [] X.env := by rfl) : IJ X W wx tg (.Call (.Name "range" p) [a] [] pos) .range (aCons f aNil) := by
  refine ⟨fun pins s σ H R I ⟨Z, ρ, σd, h0, S, rs, p⟩ => (pi_range1 (tg := tg) hg hm (aj_cons ha aj_nil hs) hs).run pins s σ H R I ⟨Z, ρ, σd, h0, S, rs, (len1 (Post.bind p)).imp fun ds ρ1 h1 H1 x1 S1 p1 vs rvs => ?_⟩⟩
  obtain ⟨⟨d, rfl⟩, p1⟩ := p1
  obtain ⟨xs, hw, q⟩ := walk_some S1 p1
  cases d <;> simp only [walk] at hw <;> first | (cases hw; done) | skip
  split at hw
  · rename_i n hl
    cases hw
    cases rvs with
    | cons r t =>
      cases t
      cases r
      exact ⟨n, rfl, lim_eq ▸ hl.1, lim_eq ▸ hl.2, q _ (walks_range 0 n.toNat)⟩
  · cases hw
theorem ij_enum {a : Expr} {p pos tpos : Pos} {elts : List Expr} {kk : Nat} (ha : EJ X W wx a f) (hg : Gl X "enumerate" := by rfl) (hm : X.mg "enumerate" = none := by assumption) (hs : starEach [a] X.env = (false, eval a X.env) :: starEach [] X.env := by rfl) (hW : W.pl = false := by rfl) : IJ X W wx (.Tuple elts kk tpos) (.Call (.Name "enumerate" p) [a] [] pos) .enum (aCons f aNil) := by
  refine ⟨fun pins s σ H R I ⟨Z, ρ, σd, h0, S, rs, p⟩ => (pi_enum (tpos := tpos) (elts := elts) (kk := kk) hg hm (aj_cons ha aj_nil hs) hs).run pins s σ H R I ⟨Z, ρ, σd, h0, S, rs, (len1 (Post.bind p)).imp fun ds ρ1 h1 H1 x1 S1 p1 vs rvs => ?_⟩⟩
  obtain ⟨⟨d, rfl⟩, p1⟩ := p1
  obtain ⟨xs, hw, q⟩ := walk_some S1 p1
  cases d <;> simp only [walk] at hw <;> first | (cases hw; done) | skip
  cases hw
  cases rvs with
  | cons r t =>
    cases t
    cases r with
    | lst z ra h t => exact ⟨_, _, rfl, SqL.of h, q _ (walks_enum z ra h t)⟩
end
def hid (H : Hp) (D : Addr) : Hp := fun b => if b = D then none else H b
theorem hid_self {H : Hp} {D : Addr} : hid H D D = none := by simp [hid]
theorem hid_ne {H : Hp} {D b : Addr} (h : b ≠ D) : hid H D b = H b := by simp [hid, h]
theorem upd_hid {H : Hp} {D : Addr} {o : HO} : upd (hid H D) D o = upd H D o := by
  funext b
  by_cases h : b = D
  · subst h; rw [upd_same, upd_same]
  · rw [upd_ne h, upd_ne h, hid_ne h]
theorem upd_self {H : Hp} {D : Addr} {o : HO} (h : H D = some o) : upd (hid H D) D o = H := by
  funext b
  by_cases e : b = D
  · subst e; rw [upd_same, h]
  · rw [upd_ne e, hid_ne e]
section
variable {W : Wd} {Z ρ ρ' : List Addr} {H H' Hc : Hp} {D : Addr} {h h' : Hh} {acc : List V}
theorem nin {a D : Addr} {Z : List Addr} (z : a ∉ D :: Z) : a ≠ D := fun e => z (by rw [e]; exact List.mem_cons_self)
theorem Rd.hid {a : Addr} {u : HO} (r : Rd H a u) (n : a ≠ D) : Rd (hid H D) a u := by
  rcases r with r | ⟨o, r⟩
  · exact .inl (by rw [hid_ne n]; exact r)
  · exact .inr ⟨o, by rw [hid_ne n]; exact r⟩
mutual
theorem RD.hid : ∀ {d : Fw.D} {v : V}, RD W (D :: Z) ρ H d v → RD W Z ρ (hid H D) d v
  | _, _, .non => .non
  | _, _, .bl b => .bl b
  | _, _, .int i => .int i
  | _, _, .str s => .str s
  | _, _, .tup z r q t => .tup (fun m => z (List.mem_cons_of_mem _ m)) r (q.map fun u e => by rw [hid_ne (nin z)]; exact e) (RDs.hid t)
  | _, _, .tupK k t => .tupK k (RDs.hid t)
  | _, _, .lst z r q t => .lst (fun m => z (List.mem_cons_of_mem _ m)) r (by rw [hid_ne (nin z)]; exact q) (RDs.hid t)
  | _, _, .dct z r q t => .dct (fun m => z (List.mem_cons_of_mem _ m)) r (Fw.Rd.hid q (nin z)) (RKs.hid t)
  | _, _, .obj z r q t => let ⟨h1, h2, h3⟩ := q.map z r (fun b u z r e => ⟨fun m => z (List.mem_cons_of_mem _ m), r, by rw [hid_ne (nin z)]; exact e⟩); .obj h1 h2 h3 (RFs.hid t)
  | _, _, .ref e => .ref e
  | _, _, .fn f => .fn f
  | _, _, .roi q => .roi (q.elim (fun ⟨z, r, q⟩ => .inl ⟨fun m => z (List.mem_cons_of_mem _ m), r, Fw.Rd.hid q (nin z)⟩) .inr)
theorem RDs.hid : ∀ {ds : List Fw.D} {vs : List V}, RDs W (D :: Z) ρ H ds vs → RDs W Z ρ (hid H D) ds vs
  | _, _, .nil => .nil
  | _, _, .cons r t => .cons (RD.hid r) (RDs.hid t)
theorem RKs.hid : ∀ {ds : List (K1 × Fw.D)} {vs : List (Key × V)}, RKs W (D :: Z) ρ H ds vs → RKs W Z ρ (hid H D) ds vs
  | _, _, .nil => .nil
  | _, _, .cons r t => .cons (RD.hid r) (RKs.hid t)
theorem RFs.hid : ∀ {ds : List (Nat × Fw.D)} {vs : List (Str × V)}, RFs W (D :: Z) ρ H ds vs → RFs W Z ρ (hid H D) ds vs
  | _, _, .nil => .nil
  | _, _, .cons r t => .cons (RD.hid r) (RFs.hid t)
end
theorem Sim.hid (hD : D ∉ Z) (S : Sim W (D :: Z) ρ h H) : Sim W Z ρ h (hid H D) where
  len := S.len
  nd := S.nd
  dis := fun z hz => by
    obtain ⟨h1, o, e⟩ := S.dis z (List.mem_cons_of_mem _ hz)
    exact ⟨h1, o, by rw [hid_ne fun e2 => hD (by rw [← e2]; exact hz)]; exact e⟩
  obj := fun n o a e1 e2 => by
    have na : a ≠ D := fun e => (S.dis D List.mem_cons_self).1 (e ▸ List.mem_of_getElem? e2)
    cases S.obj n o a e1 e2 with
    | lst q t => exact .lst (by rw [hid_ne na]; exact q) t.hid
    | ro q t => exact .ro (Fw.Rd.hid q na) t.hid
    | dct q t => exact .dct (by rw [hid_ne na]; exact q) t.hid
    | ins q t => exact .ins (by rw [hid_ne na]; exact q) t.hid
    | dtu q k t => exact .dtu (by rw [hid_ne na]; exact q) k t.hid
    | rod q t => exact .rod (by rw [hid_ne na]; exact q) t.hid
theorem Ext.hid (n : Hc D = none) (x : Ext ρ (upd Hc D (.lst acc)) ρ' H') : Ext ρ Hc ρ' (Fw.hid H' D) :=
  ⟨x.pre, fun a o hr e => by
    have na : a ≠ D := ne_of_none e n
    obtain ⟨h1, h2⟩ := x.keep a o hr (by rw [upd_ne na]; exact e)
    exact ⟨h1, by rw [hid_ne na]; exact h2⟩, fun a od u e => by
    have na : a ≠ D := ne_of_none e n
    rw [hid_ne na]
    exact x.fz a od u (by rw [upd_ne na]; exact e)⟩
theorem Sim.shown {o : HO} (n : Hc D = none) (S : Sim W Z ρ h Hc) : Sim W (D :: Z) ρ h (upd Hc D o) where
  len := S.len
  nd := S.nd
  dis := fun z hz => by
    rcases List.mem_cons.mp hz with e | hz
    · subst e; exact ⟨(S.new n).2, o, upd_same⟩
    · exact (S.laid n).dis z hz
  obj := fun m u a e1 e2 => by
    have hz : ∀ z ∈ D :: Z, z ∈ Z ∨ Hc z = none := fun z hz => (List.mem_cons.mp hz).elim (fun e => .inr (by rw [e]; exact n)) .inl
    have x : Ext ρ Hc ρ (upd Hc D o) := Ext.laid n
    cases S.obj m u a e1 e2 with
    | lst q t => exact .lst (by rw [upd_ne (ne_of_none q n)]; exact q) ((t.reZ hz).mono x)
    | ro q t =>
      refine .ro ?_ ((t.reZ hz).mono x)
      rcases q with q | ⟨ob, q⟩
      · exact .inl (by rw [upd_ne (ne_of_none q n)]; exact q)
      · exact .inr ⟨ob, by rw [upd_ne (ne_of_none q n)]; exact q⟩
    | dct q t => exact .dct (by rw [upd_ne (ne_of_none q n)]; exact q) ((t.reZ hz).mono x)
    | ins q t => exact .ins (by rw [upd_ne (ne_of_none q n)]; exact q) ((t.reZ hz).mono x)
    | dtu q k t => exact .dtu (by rw [upd_ne (ne_of_none q n)]; exact q) k ((t.reZ hz).mono x)
    | rod q t => exact .rod (by rw [upd_ne (ne_of_none q n)]; exact q) ((t.reZ hz).mono x)
theorem RX.hid {e : Exn} {cls : Value} {dd : Option Addr} (hl : H D = some (.lst acc)) (r : RX W (D :: Z) ρ H e cls dd) : RX W Z ρ (hid H D) e cls dd := by
  refine ⟨r.1, ?_⟩
  have r2 := r.2
  cases hf : e.fld with
  | none => rw [hf] at r2; exact r2
  | some d =>
    obtain ⟨f, d⟩ := d
    rw [hf] at r2
    obtain ⟨a, v, e1, e2, e3, e4⟩ := r2
    exact ⟨a, v, e1, by rw [hid_ne (fun z => by rw [z, hl] at e2; cases e2)]; exact e2, e3, e4.hid⟩
theorem Post.shown {α : Type} {r : R α} {Q : α → List Addr → Hh → Hp → Prop} (hD : D ∉ Z) (hρ : D ∉ ρ) (n : Hc D = none) (p : Post W Z ρ Hc r Q fun _ _ _ => False) {E : XK} :
    Post W (D :: Z) ρ (upd Hc D (.lst acc)) r (fun a ρ' h' H' => H' D = some (.lst acc) ∧ Sim W Z ρ' h' (hid H' D) ∧ Ext ρ Hc ρ' (hid H' D) ∧ Q a ρ' h' (hid H' D)) E := by
  cases r with
  | ok a h => exact fun ρ' H' x S => ⟨(x.keep D _ hρ upd_same).2, S.hid hD, Ext.hid n x, p ρ' (hid H' D) (Ext.hid n x) (S.hid hD)⟩
  | xn e h =>
    intro ρ' H' cls dd x S rx
    exact (p ρ' (Fw.hid H' D) cls dd (Ext.hid n x) (S.hid hD) (RX.hid (x.keep D _ hρ upd_same).2 rx)).elim
  | bad => exact p
theorem noX_bind {α β : Type} {r : R α} {k : α → Hh → R β} {Q : β → List Addr → Hh → Hp → Prop} {E : XK} (p : Post W Z ρ H (noX (r.bind k)) Q E) : Post W Z ρ H r (fun a ρ' h' H' => Post W Z ρ' H' (noX (k a h')) Q E) fun _ _ _ => False := by
  cases r with
  | ok a h => exact fun ρ' H' x S => Post.mono x p
  | xn e h => exact p.elim
  | bad => exact p
end
abbrev CJ (X : Cx) (W : Wd) (ifs : List Expr) (f : BM) : Prop := PTs X ifs (tB W (fun _ _ _ _ => False) f)
section
variable {X : Cx} {W : Wd} {wx : WX} {tg iter elt : Expr} {ifs : List Expr} {scope : Scope} {own : List (Str × Nat)} {pos : Pos} {f : TM} {gb : BM} {it : It} {src : AM} {g : G}
theorem cj_nil : CJ X W [] bYes := ⟨fun pins s σ H Q I ⟨Z, ρ, σd, h0, S, rs, p⟩ => pts_nil.run pins s σ H Q I (post_now S p)⟩
theorem lc_step {Z ρ : List Addr} {Hc : Hp} {D : Addr} {acc : List V} {accd : List Fw.D} {h : Hh} {σd : Sg} {σ : L2.St} {x : Fw.D} {v : V} {ownI : List Nat} {xs : List Fw.D} {Q : List Fw.D → List Addr → Hh → Hp → Prop} {E : XK} {Nx : Hp → Prop}
    (hK : X.K = W.K) (hg : ∀ i ∈ g.ix, i ∈ ownI) (hD : D ∉ Z) (n : Hc D = none) (S : Sim W Z ρ h Hc) (rs : RSg W Z ρ Hc σd σ) (ra : RDs W Z ρ Hc accd acc)
    {H' : Hp} (hH : H' = upd (hid H' D) D (.lst acc)) (hx : Ext ρ Hc ρ (hid H' D)) (S' : Sim W (D :: Z) ρ h H') (rv : RD W (D :: Z) ρ H' x v)
    (p : Post W Z ρ Hc (noX (lcL (lcStep f g gb ownI σd) (x :: xs) accd h)) Q E)
    (hN : ∀ ρ' h' Hc' acc' accd', Hc' D = none → Ext ρ Hc ρ' Hc' → Sim W Z ρ' h' Hc' → RDs W Z ρ' Hc' accd' acc' → Post W Z ρ' Hc' (noX (lcL (lcStep f g gb ownI σd) xs accd' h')) Q E → Nx (upd Hc' D (.lst acc'))) :
    gOf X.K g v (L2.wipe σ ownI) H' fun σ2 H2 => L2.wipe σ2 ownI = L2.wipe σ ownI ∧ tB W (fun _ _ _ _ => False) gb σ2 H2 fun b H3 =>
      if b = true then tE W (fun _ _ _ _ => False) f σ2 H3 fun y H4 => ∃ acc, H4 D = some (.lst acc) ∧ acc.length < sizeLine ∧ Nx (upd H4 D (.lst (acc ++ [y]))) else Nx H3 := by
  simp only [lcL] at p
  have p1 := noX_bind p
  unfold lcStep at p1
  have hzz : ∀ z ∈ D :: Z, z ∈ Z ∨ Hc z = none := fun z hz => (List.mem_cons.mp hz).elim (fun e => .inr (by rw [e]; exact n)) .inl
  have hn' : hid H' D D = none := hid_self
  have hzz' : ∀ z ∈ D :: Z, z ∈ Z ∨ hid H' D z = none := fun z hz => (List.mem_cons.mp hz).elim (fun e => .inr (by rw [e]; exact hn')) .inl
  have xl : Ext ρ (hid H' D) ρ H' := by
    have := Ext.laid (ρ := ρ) (H := hid H' D) (o := .lst acc) hn'
    rw [← hH] at this
    exact this
  have rs' : RSg W (D :: Z) ρ H' (wipe σd ownI) (L2.wipe σ ownI) := by
    refine RSg.wipe ⟨rs.len, fun i d e => ?_⟩ ownI
    obtain ⟨w, e1, r1⟩ := rs.at_ i d e
    exact ⟨w, e1, ((r1.mono hx).reZ hzz').mono xl⟩
  cases hb : bindG (wipe σd ownI) g x with
  | none => rw [hb] at p1; exact p1.elim
  | some σ1 =>
    rw [hb] at p1
    dsimp only at p1
    refine bindG_ok hK g rs' rv hb fun σ2 r2 hw => ⟨?_, ?_⟩
    · rw [hw ownI hg]
      have idem : ∀ (vs : List Nat), (∀ i ∈ vs, i ∈ ownI) → L2.wipe (L2.wipe σ vs) ownI = L2.wipe σ ownI := by
        intro vs
        induction vs with
        | nil => intro _; rfl
        | cons w ws ih =>
          intro hw
          simp only [L2.wipe]
          rw [wipe_set (hw w List.mem_cons_self)]
          exact ih fun i hi => hw i (List.mem_cons_of_mem _ hi)
      exact idem ownI fun i hi => hi
    · have pa := Post.mono hx p1
      have hDρ : D ∉ ρ := (S'.dis D List.mem_cons_self).1
      have q := Post.shown (acc := acc) (E := fun _ _ _ => False) hD hDρ hn' (Post.bind pa)
      rw [← hH] at q
      refine ⟨D :: Z, ρ, σ1, h, S', r2, q.imp fun k ρ3 h3 H3 x3 S3 q3 => ?_⟩
      obtain ⟨e3, S3', x3', p3⟩ := q3
      have hH3 : upd (hid H3 D) D (.lst acc) = H3 := upd_self e3
      cases k with
      | false =>
        have p4 := post_now S3' p3
        rw [if_neg (by decide)]
        rw [← hH3]
        exact hN ρ3 h3 (hid H3 D) acc accd hid_self (hx.trans x3') S3' (ra.mono (hx.trans x3')) p4
      | true =>
        rw [if_pos rfl]
        have hDρ3 : D ∉ ρ3 := (S3.dis D List.mem_cons_self).1
        have q4 := Post.shown (acc := acc) (E := fun _ _ _ => False) hD hDρ3 hid_self (Post.bind p3)
        rw [hH3] at q4
        refine ⟨D :: Z, ρ3, σ1, h3, S3, r2.mono x3, q4.imp fun d ρ4 h4 H4 x4 S4 q5 v4 rv4 => ?_⟩
        obtain ⟨e4, S4', x4', p5⟩ := q5
        have p6 : Post W Z ρ4 (hid H4 D) (noX (if accd.length < line then lcL (lcStep f g gb ownI σd) xs (accd ++ [d]) h4 else .bad)) Q E := post_now S4' p5
        by_cases hlen : accd.length < line
        · rw [if_pos hlen] at p6
          have hx4 := (hx.trans x3').trans x4'
          refine ⟨acc, e4, by rw [← ra.length, ← line_eq]; exact hlen, ?_⟩
          rw [← upd_hid]
          exact hN ρ4 h4 (hid H4 D) (acc ++ [v4]) (accd ++ [d]) hid_self hx4 S4' ((ra.mono hx4).append (.cons rv4.hid .nil)) p6
        · rw [if_neg hlen] at p6
          exact p6.elim
theorem lc_read (hK : X.K = W.K) {ownI : List Nat} (hix : ∀ i ∈ g.ix, i ∈ ownI) {σ : L2.St} {H : Hp} {Q : VK} (p : tE W wx (eLc f g it src gb ownI) σ H Q) :
    tLc (tI W wx it src) (gOf X.K g) (tB W (fun _ _ _ _ => False) gb) (tE W (fun _ _ _ _ => False) f) ownI σ H Q := by
  obtain ⟨Z, ρ, σd, h0, S, rs, p⟩ := p
  exact
    ⟨Z, ρ, σd, h0, S, rs, (Post.bind p).imp fun xs ρ1 h1 H1 x1 S1 p1 Ji hw D hD => by
      have rs1 := rs.mono x1
      have hDZ := (S1.new hD).1
      have pl := Post.bind p1
      refine ⟨fun i m H => i ≤ xs.length ∧ m = xs.length - i ∧ ∃ ρ h Hc acc accd, Hc D = none ∧ H = upd Hc D (.lst acc) ∧ Ext ρ1 H1 ρ Hc ∧ Sim W Z ρ h Hc ∧ RDs W Z ρ Hc accd acc ∧
          Post W Z ρ Hc (noX (lcL (lcStep f g gb ownI σd) (xs.drop i) accd h)) (fun (a : List Fw.D) ρ h H => Post W Z ρ H (R.ok (Fw.D.lst a) h) (fun d ρ' _ H' => ∀ v, RD W Z ρ' H' d v → Q v H') (fun cls dd H' => wx cls dd σ H')) (fun cls dd H' => wx cls dd σ H'),
        ⟨xs.length, Nat.zero_le _, rfl, ρ1, h1, H1, [], [], hD, rfl, Ext.refl, S1, .nil, pl⟩, ?_⟩
      rintro i m H' ⟨hi, hm, ρ2, h2, Hc, acc, accd, n2, e2, x2, S2, ra, p2⟩
      subst e2
      have hwz : ∀ z ∈ D :: Z, z ∈ Z ∨ H1 z = none := fun z hz => (List.mem_cons.mp hz).elim (fun e => .inr (by rw [e]; exact hD)) .inl
      have xD : Ext ρ1 H1 ρ2 (upd Hc D (.lst acc)) := x2.trans (Ext.laid n2)
      have SD : Sim W (D :: Z) ρ2 h2 (upd Hc D (.lst acc)) := S2.shown n2
      have w := hw (D :: Z) ρ2 h2 _ hwz xD.z SD
      by_cases hE : i = xs.length
      · subst hE
        rw [List.drop_length] at p2
        have p3 := post_now S2 (post_now S2 p2)
        refine .inl ⟨w.2, ?_⟩
        have hl2 := Ext.laid (ρ := ρ2) (o := .lst acc) n2
        have p4 := p2 ρ2 Hc Ext.refl S2
        exact (Post.mono hl2 p4) ρ2 _ Ext.refl (S2.laid n2) (.ref D) (.lst hDZ (S2.new n2).2 upd_same (ra.mono hl2))
      · have hlt : i < xs.length := by omega
        obtain ⟨go, yl⟩ := w.1 i xs[i] (by simp [hlt])
        rw [List.drop_eq_getElem_cons hlt] at p2
        refine .inr ⟨go, fun H' => i + 1 ≤ xs.length ∧ ∃ ρ h Hc acc accd, Hc D = none ∧ H' = upd Hc D (.lst acc) ∧ Ext ρ1 H1 ρ Hc ∧ Sim W Z ρ h Hc ∧ RDs W Z ρ Hc accd acc ∧
          Post W Z ρ Hc (noX (lcL (lcStep f g gb ownI σd) (xs.drop (i + 1)) accd h)) (fun (a : List Fw.D) ρ h H => Post W Z ρ H (R.ok (Fw.D.lst a) h) (fun d ρ' _ H' => ∀ v, RD W Z ρ' H' d v → Q v H') (fun cls dd H' => wx cls dd σ H')) (fun cls dd H' => wx cls dd σ H'),
          fun H' ⟨a1, a2⟩ => ⟨xs.length - (i + 1), by omega, a1, rfl, a2⟩, fun v H4 hy => ?_⟩
        obtain ⟨x3, S3, rv⟩ := yl v H4 hy
        have hD4 : H4 D = some (.lst acc) := (x3.keep D _ (S2.new n2).2 upd_same).2
        have hH4 : H4 = upd (hid H4 D) D (.lst acc) := (upd_self hD4).symm
        have hx4 : Ext ρ2 Hc ρ2 (hid H4 D) := Ext.hid n2 x3
        refine lc_step (Q := fun (a : List Fw.D) ρ h H => Post W Z ρ H (R.ok (Fw.D.lst a) h) (fun d ρ' _ H' => ∀ v, RD W Z ρ' H' d v → Q v H') (fun cls dd H' => wx cls dd σ H')) (E := fun cls dd H' => wx cls dd σ H') hK hix hDZ n2 S2 (rs1.mono x2) ra hH4 hx4 S3 rv p2 fun ρ' h' Hc' acc' accd' n' x' S' ra' p' => ?_
        exact ⟨by omega, ρ', h', Hc', acc', accd', n', rfl, x2.trans x', S', ra', p'⟩⟩
theorem ej_lc (J : Js X W wx) (hi : IJ X W wx tg iter it src) (ok : BlkOk X.N X.env.scope scope own) (hix : ∀ i ∈ g.ix, i ∈ own.map (·.2))
    (hg : ∀ (s : Shared) (H : Hp) (C : Addr) (cl : List (Str × Addr)) (fp : List Addr), GJ (X.blk s H scope (compEnvC scope cl C X.env) fp) tg g)
    (ht : ∀ (s : Shared) (H : Hp) (C : Addr) (cl : List (Str × Addr)) (fp : List Addr), CJ (X.blk s H scope (compEnvC scope cl C X.env) fp) W ifs gb)
    (he : ∀ (s : Shared) (H : Hp) (C : Addr) (cl : List (Str × Addr)) (fp : List Addr), EJ (X.blk s H scope (compEnvC scope cl C X.env) fp) W (fun _ _ _ _ => False) elt f)
    (hs : ∀ x, foldedSetIterable iter X.env x = pure x := by intro _; rfl) :
    EJ X W wx (.ListComp elt [⟨tg, iter, ifs, 0⟩] scope pos) (eLc f g it src gb (own.map (·.2))) :=
  ⟨fun pins s σ H Q I p => (pe_lc J.hc J.hN hi ok hg ht he hs).run pins s σ H Q I (lc_read J.hK hix p)⟩
end
end Fw
end
section
set_option Elab.async false
set_option maxHeartbeats 1000000
namespace Fw
open PySem PySem.Spec PyProof.Rows L2
section
variable {W : Wd} {Z Z' ρ ρ' : List Addr} {H H' : Hp}
mutual
theorem RD.closed (hz : ∀ z ∈ Z', z ∈ Z ∨ z ∈ ρ) (hr : ∀ a ∈ ρ', a ∈ ρ) : ∀ {d : D} {v : V}, d.closed = true → RD W Z ρ H d v → RD W Z' ρ' H d v
  | _, _, _, .non => .non
  | _, _, _, .bl b => .bl b
  | _, _, _, .int i => .int i
  | _, _, _, .str s => .str s
  | _, _, c, .tup z r q t => .tup (fun m => (hz _ m).elim z r) (fun m => r (hr _ m)) q (RDs.closed hz hr (by simpa [D.closed] using c) t)
  | _, _, c, .tupK k t => .tupK k (RDs.closed hz hr (by simpa [D.closed] using c) t)
  | _, _, c, .lst z r q t => .lst (fun m => (hz _ m).elim z r) (fun m => r (hr _ m)) q (RDs.closed hz hr (by simpa [D.closed] using c) t)
  | _, _, c, .dct z r q t => .dct (fun m => (hz _ m).elim z r) (fun m => r (hr _ m)) q (RKs.closed hz hr (by simpa [D.closed] using c) t)
  | _, _, c, .obj z r q t => let ⟨h1, h2, h3⟩ := q.map z r (fun b u z r e => ⟨fun m => (hz _ m).elim z r, fun m => r (hr _ m), e⟩); .obj h1 h2 h3 (RFs.closed hz hr (by simpa [D.closed] using c) t)
  | _, _, c, .ref e => by simp [D.closed] at c
  | _, _, _, .fn f => .fn f
  | _, _, _, .roi q => .roi (q.elim (fun ⟨z, r, q⟩ => .inl ⟨fun m => (hz _ m).elim z r, fun m => r (hr _ m), q⟩) .inr)
theorem RDs.closed (hz : ∀ z ∈ Z', z ∈ Z ∨ z ∈ ρ) (hr : ∀ a ∈ ρ', a ∈ ρ) : ∀ {ds : List D} {vs : List V}, closedAll ds = true → RDs W Z ρ H ds vs → RDs W Z' ρ' H ds vs
  | _, _, _, .nil => .nil
  | _, _, c, .cons r t => by
    simp only [closedAll, Bool.and_eq_true] at c
    exact .cons (RD.closed hz hr c.1 r) (RDs.closed hz hr c.2 t)
theorem RKs.closed (hz : ∀ z ∈ Z', z ∈ Z ∨ z ∈ ρ) (hr : ∀ a ∈ ρ', a ∈ ρ) : ∀ {ds : List (K1 × D)} {vs : List (Key × V)}, closedK ds = true → RKs W Z ρ H ds vs → RKs W Z' ρ' H ds vs
  | _, _, _, .nil => .nil
  | _, _, c, .cons r t => by
    simp only [closedK, Bool.and_eq_true] at c
    exact .cons (RD.closed hz hr c.1 r) (RKs.closed hz hr c.2 t)
theorem RFs.closed (hz : ∀ z ∈ Z', z ∈ Z ∨ z ∈ ρ) (hr : ∀ a ∈ ρ', a ∈ ρ) : ∀ {ds : List (Nat × D)} {vs : List (Str × V)}, closedF ds = true → RFs W Z ρ H ds vs → RFs W Z' ρ' H ds vs
  | _, _, _, .nil => .nil
  | _, _, c, .cons r t => by
    simp only [closedF, Bool.and_eq_true] at c
    exact .cons (RD.closed hz hr c.1 r) (RFs.closed hz hr c.2 t)
end
theorem OR.closed (hz : ∀ z ∈ Z', z ∈ Z ∨ z ∈ ρ) (hr : ∀ a ∈ ρ', a ∈ ρ) {a : Addr} {o : O} (c : o.closed = true) (r : OR W Z ρ H a o) : OR W Z' ρ' H a o := by
  cases r with
  | lst q t => exact .lst q (RDs.closed hz hr (by simpa [O.closed] using c) t)
  | ro q t => exact .ro q (RDs.closed hz hr (by simpa [O.closed] using c) t)
  | dct q t => exact .dct q (RKs.closed hz hr (by simpa [O.closed] using c) t)
  | ins q t => exact .ins q (RFs.closed hz hr (by simpa [O.closed] using c) t)
  | dtu q k t => simp [O.closed] at c
  | rod q t => simp [O.closed] at c
end
def At (ρ : List Addr) (n : Nat) (a : Addr) : Prop := ρ[n]? = some a
theorem paired_at {ρ : List Addr} : ∀ {ns : List Nat} {as : List Addr}, Paired (At ρ) ns as → ∀ (i n : Nat), ns[i]? = some n → ∃ a, as[i]? = some a ∧ ρ[n]? = some a
  | _, _, .nil, i, n, h => by simp at h
  | _, _, .cons r t, 0, n, h => by simp at h; subst h; exact ⟨_, rfl, r⟩
  | _, _, .cons r t, i + 1, n, h => by simpa using paired_at t i n (by simpa using h)
theorem paired_len {ρ : List Addr} : ∀ {ns : List Nat} {as : List Addr}, Paired (At ρ) ns as → ns.length = as.length
  | _, _, .nil => rfl
  | _, _, .cons _ t => by simp [paired_len t]
theorem paired_mem {ρ : List Addr} : ∀ {ns : List Nat} {as : List Addr}, Paired (At ρ) ns as → ∀ a ∈ as, ∃ n ∈ ns, ρ[n]? = some a
  | _, _, .nil, a, h => absurd h (by simp)
  | _, _, .cons r t, a, h => by
    rcases List.mem_cons.mp h with e | h
    · subst e; exact ⟨_, List.mem_cons_self, r⟩
    · obtain ⟨n, hn, e⟩ := paired_mem t a h
      exact ⟨n, List.mem_cons_of_mem _ hn, e⟩
theorem nodup_inj {ρ : List Addr} (nd : ρ.Nodup) {m n : Nat} {a : Addr} (h1 : ρ[m]? = some a) (h2 : ρ[n]? = some a) : m = n := by
  exact (List.getElem?_inj (List.getElem?_eq_some_iff.mp h1).1 nd).mp (h1.trans h2.symm)
theorem paired_nodup {ρ : List Addr} (nd : ρ.Nodup) : ∀ {ns : List Nat} {as : List Addr}, Paired (At ρ) ns as → ns.Nodup → as.Nodup
  | _, _, .nil, _ => List.nodup_nil
  | n :: ns, a :: as, .cons r t, h => by
    obtain ⟨h1, h2⟩ := List.nodup_cons.mp h
    refine List.nodup_cons.mpr ⟨fun m => ?_, paired_nodup nd t h2⟩
    obtain ⟨k, hk, e⟩ := paired_mem t a m
    exact h1 (nodup_inj nd r e ▸ hk)
section
variable {W : Wd} {Z Z' ρ : List Addr} {H : Hp}
theorem lend_ok (hz : ∀ z ∈ Z', z ∈ Z ∨ z ∈ ρ) : ∀ {ds : List D} {vs : List V} {k : Nat} {ds' : List D} {ns : List Nat}, RDs W Z ρ H ds vs → lend k ds = some (ds', ns) →
    ∃ as, Paired (At ρ) ns as ∧ ∀ ρc : List Addr, (∀ (i : Nat) (a : Addr), as[i]? = some a → ρc[k + i]? = some a) → (∀ a ∈ ρc, a ∈ ρ) → RDs W Z' ρc H ds' vs := by
  intro ds
  induction ds with
  | nil =>
    intro vs k ds' ns r e
    cases r
    simp only [lend, Option.some.injEq, Prod.mk.injEq] at e
    obtain ⟨rfl, rfl⟩ := e
    exact ⟨[], .nil, fun _ _ _ => .nil⟩
  | cons d ds ih =>
    intro vs k ds' ns r e
    cases r with
    | @cons _ _ v vs r t =>
      by_cases hd : ∃ n, d = .ref n
      · obtain ⟨n, rfl⟩ := hd
        simp only [lend] at e
        cases el : lend (k + 1) ds with
        | none => rw [el] at e; cases e
        | some q =>
          obtain ⟨ds1, ns1⟩ := q
          rw [el] at e
          simp only [Option.map_some, Option.some.injEq, Prod.mk.injEq] at e
          obtain ⟨rfl, rfl⟩ := e
          obtain ⟨as, pa, f⟩ := ih t el
          cases r with
          | @ref a _ ra =>
            refine ⟨a :: as, .cons ra pa, fun ρc h1 h2 => .cons (.ref (by simpa using h1 0 a rfl)) (f ρc (fun i b hb => ?_) h2)⟩
            have := h1 (i + 1) b (by simpa using hb)
            rw [← this]
            congr 1
            omega
      · have e' : (if d.closed = true then (lend k ds).map fun q => (d :: q.1, q.2) else none) = some (ds', ns) := by
          rw [← e]
          cases d <;> first | rfl | exact absurd ⟨_, rfl⟩ hd
        split at e'
        · rename_i hc
          cases el : lend k ds with
          | none => rw [el] at e'; cases e'
          | some q =>
            obtain ⟨ds1, ns1⟩ := q
            rw [el] at e'
            simp only [Option.map_some, Option.some.injEq, Prod.mk.injEq] at e'
            obtain ⟨rfl, rfl⟩ := e'
            obtain ⟨as, pa, f⟩ := ih t el
            exact ⟨as, pa, fun ρc h1 h2 => .cons (RD.closed hz h2 hc r) (f ρc h1 h2)⟩
        · cases e'
theorem lentO_ok {h : Hh} : ∀ {ns : List Nat} {hc : Hh}, lentO h ns = some hc → hc.length = ns.length ∧ ∀ (i : Nat) (o : O), hc[i]? = some o → ∃ n, ns[i]? = some n ∧ h[n]? = some o ∧ o.closed = true := by
  intro ns
  induction ns with
  | nil => intro hc e; simp only [lentO, Option.some.injEq] at e; subst e; exact ⟨rfl, fun i o h => by simp at h⟩
  | cons n ns ih =>
    intro hc e
    simp only [lentO] at e
    cases en : h[n]? with
    | none => rw [en] at e; cases e
    | some o =>
      rw [en] at e
      dsimp only at e
      split at e
      · rename_i hcl
        cases el : lentO h ns with
        | none => rw [el] at e; cases e
        | some hc1 =>
          rw [el] at e
          cases e
          obtain ⟨h1, h2⟩ := ih el
          refine ⟨by simp [h1], fun i u hu => ?_⟩
          cases i with
          | zero => simp at hu; subst hu; exact ⟨n, rfl, en, hcl⟩
          | succ i => simpa using h2 i u (by simpa using hu)
      · cases e
end
section
variable {W : Wd} {Z Z' ρ ρ1 : List Addr} {H : Hp} {g : Nat → Option D}
mutual
theorem map_ok (hz : ∀ a, a ∉ Z' → a ∉ ρ1 → a ∉ Z ∧ a ∉ ρ) (hg : ∀ n a d, ρ1[n]? = some a → g n = some d → RD W Z ρ H d (.ref a)) : ∀ {d : D} {v : V} {d' : D}, RD W Z' ρ1 H d v → d.map_ g = some d' → RD W Z ρ H d' v
  | _, _, _, .non, e => by simp only [D.map_, Option.some.injEq] at e; subst e; exact .non
  | _, _, _, .bl b, e => by simp only [D.map_, Option.some.injEq] at e; subst e; exact .bl b
  | _, _, _, .int i, e => by simp only [D.map_, Option.some.injEq] at e; subst e; exact .int i
  | _, _, _, .str s, e => by simp only [D.map_, Option.some.injEq] at e; subst e; exact .str s
  | _, _, _, .fn f, e => by simp only [D.map_, Option.some.injEq] at e; subst e; exact .fn f
  | _, _, _, .roi q, e => by simp only [D.map_, Option.some.injEq] at e; subst e; exact .roi (q.elim (fun ⟨z, r, q⟩ => .inl ⟨(hz _ z r).1, (hz _ z r).2, q⟩) .inr)
  | _, _, _, .ref h, e => by simp only [D.map_] at e; exact hg _ _ _ h e
  | _, _, _, .tup z r q t, e => by
    simp only [D.map_, Option.map_eq_some_iff] at e
    obtain ⟨xs, e1, rfl⟩ := e
    exact .tup (hz _ z r).1 (hz _ z r).2 q (mapAll_ok hz hg t e1)
  | _, _, _, .tupK k t, e => by
    simp only [D.map_, Option.map_eq_some_iff] at e
    obtain ⟨xs, e1, rfl⟩ := e
    exact .tupK k (mapAll_ok hz hg t e1)
  | _, _, _, .lst z r q t, e => by
    simp only [D.map_, Option.map_eq_some_iff] at e
    obtain ⟨xs, e1, rfl⟩ := e
    exact .lst (hz _ z r).1 (hz _ z r).2 q (mapAll_ok hz hg t e1)
  | _, _, _, .dct z r q t, e => by
    simp only [D.map_, Option.map_eq_some_iff] at e
    obtain ⟨xs, e1, rfl⟩ := e
    exact .dct (hz _ z r).1 (hz _ z r).2 q (mapK_ok hz hg t e1)
  | _, _, _, .obj z r q t, e => by
    simp only [D.map_, Option.map_eq_some_iff] at e
    obtain ⟨xs, e1, rfl⟩ := e
    obtain ⟨h1, h2, h3⟩ := q.map z r (fun b u z r e => ⟨(hz _ z r).1, (hz _ z r).2, e⟩)
    exact .obj h1 h2 h3 (mapF_ok hz hg t e1)
theorem mapAll_ok (hz : ∀ a, a ∉ Z' → a ∉ ρ1 → a ∉ Z ∧ a ∉ ρ) (hg : ∀ n a d, ρ1[n]? = some a → g n = some d → RD W Z ρ H d (.ref a)) : ∀ {ds : List D} {vs : List V} {ds' : List D}, RDs W Z' ρ1 H ds vs → mapAll g ds = some ds' → RDs W Z ρ H ds' vs
  | _, _, _, .nil, e => by simp only [mapAll, Option.some.injEq] at e; subst e; exact .nil
  | _, _, _, .cons r t, e => by
    simp only [mapAll, Option.bind_eq_some_iff, Option.map_eq_some_iff] at e
    obtain ⟨y, e1, ys, e2, rfl⟩ := e
    exact .cons (map_ok hz hg r e1) (mapAll_ok hz hg t e2)
theorem mapK_ok (hz : ∀ a, a ∉ Z' → a ∉ ρ1 → a ∉ Z ∧ a ∉ ρ) (hg : ∀ n a d, ρ1[n]? = some a → g n = some d → RD W Z ρ H d (.ref a)) : ∀ {ds : List (K1 × D)} {vs : List (Key × V)} {ds' : List (K1 × D)}, RKs W Z' ρ1 H ds vs → mapK g ds = some ds' → RKs W Z ρ H ds' vs
  | _, _, _, .nil, e => by simp only [mapK, Option.some.injEq] at e; subst e; exact .nil
  | _, _, _, .cons r t, e => by
    simp only [mapK, Option.bind_eq_some_iff, Option.map_eq_some_iff] at e
    obtain ⟨y, e1, ys, e2, rfl⟩ := e
    exact .cons (map_ok hz hg r e1) (mapK_ok hz hg t e2)
theorem mapF_ok (hz : ∀ a, a ∉ Z' → a ∉ ρ1 → a ∉ Z ∧ a ∉ ρ) (hg : ∀ n a d, ρ1[n]? = some a → g n = some d → RD W Z ρ H d (.ref a)) : ∀ {ds : List (Nat × D)} {vs : List (Str × V)} {ds' : List (Nat × D)}, RFs W Z' ρ1 H ds vs → mapF g ds = some ds' → RFs W Z ρ H ds' vs
  | _, _, _, .nil, e => by simp only [mapF, Option.some.injEq] at e; subst e; exact .nil
  | _, _, _, .cons r t, e => by
    simp only [mapF, Option.bind_eq_some_iff, Option.map_eq_some_iff] at e
    obtain ⟨y, e1, ys, e2, rfl⟩ := e
    exact .cons (map_ok hz hg r e1) (mapF_ok hz hg t e2)
end
theorem frz_ok {hc : Hh} {k : Nat} (S : Sim W Z' ρ1 hc H) (hz : ∀ a, a ∉ Z' → a ∉ ρ1 → a ∉ Z ∧ a ∉ ρ) (hk : ∀ n a, ρ1[n]? = some a → ¬ n < k → a ∉ Z ∧ a ∉ ρ) : ∀ (f n : Nat) (a : Addr) (d : D), ρ1[n]? = some a → frz hc k f n = some d → RD W Z ρ H d (.ref a) := by
  intro f
  induction f with
  | zero => intro n a d _ e; simp [frz] at e
  | succ f ih =>
    intro n a d ha e
    simp only [frz] at e
    split at e
    · cases e
    · rename_i hn
      obtain ⟨h1, h2⟩ := hk n a ha hn
      cases eo : hc[n]? with
      | none => rw [eo] at e; cases e
      | some o =>
        rw [eo] at e
        have q := S.obj n o a eo ha
        cases o <;> dsimp only at e <;> first | (cases e; done) | skip
        · simp only [Option.map_eq_some_iff] at e
          obtain ⟨xs, e1, rfl⟩ := e
          cases q with | lst q t => exact .lst h1 h2 q (mapAll_ok hz ih t e1)
        · simp only [Option.map_eq_some_iff] at e
          obtain ⟨xs, e1, rfl⟩ := e
          cases q with | dct q t => exact .dct h1 h2 (Rd.of q) (mapK_ok hz ih t e1)
        · split at e
          · rename_i hc
            simp only [Option.map_eq_some_iff] at e
            obtain ⟨xs, e1, rfl⟩ := e
            cases q with | ins q t => exact .obj h1 h2 (.inl ⟨hc, _, q⟩) (mapF_ok hz ih t e1)
          · cases e
theorem frzO_ok {hc : Hh} {k : Nat} (S : Sim W Z' ρ1 hc H) (hz : ∀ a, a ∉ Z' → a ∉ ρ1 → a ∉ Z ∧ a ∉ ρ) (hk : ∀ n a, ρ1[n]? = some a → ¬ n < k → a ∉ Z ∧ a ∉ ρ) {a : Addr} {o o' : O} (r : OR W Z' ρ1 H a o) (e : frzO hc k o = some o') : OR W Z ρ H a o' := by
  cases r with
  | lst q t =>
    simp only [frzO, Option.map_eq_some_iff] at e
    obtain ⟨xs, e1, rfl⟩ := e
    exact .lst q (mapAll_ok hz (frz_ok S hz hk 4) t e1)
  | ro q t =>
    simp only [frzO, Option.map_eq_some_iff] at e
    obtain ⟨xs, e1, rfl⟩ := e
    exact .ro q (mapAll_ok hz (frz_ok S hz hk 4) t e1)
  | dct q t =>
    simp only [frzO, Option.map_eq_some_iff] at e
    obtain ⟨xs, e1, rfl⟩ := e
    exact .dct q (mapK_ok hz (frz_ok S hz hk 4) t e1)
  | ins q t =>
    simp only [frzO, Option.map_eq_some_iff] at e
    obtain ⟨xs, e1, rfl⟩ := e
    exact .ins q (mapF_ok hz (frz_ok S hz hk 4) t e1)
  | dtu q k t => simp [frzO] at e
  | rod q t => simp [frzO] at e
theorem giveBack_ok {hc : Hh} {k : Nat} : ∀ {ns : List Nat} {i : Nat} {h h2 : Hh}, giveBack hc k ns i h = some h2 →
    (∀ (m : Nat) (o : O) (a : Addr), m ∉ ns → h[m]? = some o → ρ[m]? = some a → OR W Z ρ H a o) →
    (∀ (j n : Nat) (o o' : O) (a : Addr), ns[j]? = some n → hc[i + j]? = some o → ρ[n]? = some a → frzO hc k o = some o' → OR W Z ρ H a o') →
    h2.length = h.length ∧ ∀ (m : Nat) (o : O) (a : Addr), h2[m]? = some o → ρ[m]? = some a → OR W Z ρ H a o := by
  intro ns
  induction ns with
  | nil =>
    intro i h h2 e h1 _
    simp only [giveBack, Option.some.injEq] at e
    subst e
    exact ⟨rfl, fun m o a => h1 m o a (by simp)⟩
  | cons n ns ih =>
    intro i h h2 e h1 h2'
    simp only [giveBack] at e
    cases eo : hc[i]? with
    | none => rw [eo] at e; cases e
    | some o =>
      rw [eo] at e
      simp only [Option.bind_eq_some_iff] at e
      obtain ⟨o1, e1, e2⟩ := e
      have key : ∀ (m : Nat) (u : O) (a : Addr), m ∉ ns → (h.set n o1)[m]? = some u → ρ[m]? = some a → OR W Z ρ H a u := by
        intro m u a hm hu ha
        by_cases hmn : n = m
        · subst hmn
          have hl : n < h.length := by
            have := (List.getElem?_eq_some_iff.mp hu).1
            simpa using this
          rw [List.getElem?_set_self hl] at hu
          cases hu
          exact h2' 0 n o o1 a rfl (by simpa using eo) ha e1
        · rw [List.getElem?_set_ne hmn] at hu
          exact h1 m u a (fun z => (List.mem_cons.mp z).elim (fun e => hmn e.symm) hm) hu ha
      have key2 : ∀ (j m : Nat) (u u' : O) (a : Addr), ns[j]? = some m → hc[i + 1 + j]? = some u → ρ[m]? = some a → frzO hc k u = some u' → OR W Z ρ H a u' := by
        intro j m u u' a hj hu ha hf
        have e3 : i + (j + 1) = i + 1 + j := by omega
        exact h2' (j + 1) m u u' a (by simpa using hj) (by rw [e3]; exact hu) ha hf
      obtain ⟨l, q⟩ := ih e2 key key2
      exact ⟨by rw [l, List.length_set], q⟩
end
end Fw
end
section
set_option Elab.async false
set_option maxHeartbeats 1000000
namespace Fw
open PySem PySem.Spec PyProof.Rows L2
theorem OR.keep {W : Wd} {Z ρ : List Addr} {H H1 : Hp} {a : Addr} {o : O} (x : Ext ρ H ρ H1) (hk : ∀ u, H a = some u → H1 a = some u) (r : OR W Z ρ H a o) : OR W Z ρ H1 a o := by
  cases r with
  | lst q t => exact .lst (hk _ q) (t.mono x)
  | ro q t => exact .ro (q.elim (fun q => .inl (hk _ q)) fun ⟨o, q⟩ => .inr ⟨o, hk _ q⟩) (t.mono x)
  | dct q t => exact .dct (hk _ q) (t.mono x)
  | ins q t => exact .ins (hk _ q) (t.mono x)
  | dtu q k t => exact .dtu (hk _ q) k (t.mono x)
  | rod q t => exact .rod (hk _ q) (t.mono x)
theorem OR.notXd {W : Wd} {Z ρ : List Addr} {H : Hp} {a : Addr} {o : O} {fs : List (Str × V)} (r : OR W Z ρ H a o) (e : H a = some (.xd fs)) : False := by
  cases r with
  | lst q t => rw [e] at q; cases q
  | ro q t =>
    rcases q with q | ⟨_, q⟩
    · rw [e] at q; cases q
    · rw [e] at q; cases q
  | dct q t => rw [e] at q; cases q
  | ins q t => rw [e] at q; cases q
  | dtu q k t => rw [e] at q; cases q
  | rod q t => rw [e] at q; cases q
theorem lent_ok {W : Wd} {Z ρ : List Addr} {H : Hp} {h : Hh} {ds : List D} {vs : List V} {ds' : List D} {ns : List Nat} {hc : Hh} (S : Sim W Z ρ h H) (r : RDs W Z ρ H ds vs) (e : lent ds h = some (ds', ns, hc)) :
    ∃ (Z' as : List Addr), as.length = ns.length ∧ Sim W Z' as hc H ∧ RDs W Z' as H ds' vs ∧ (∀ a, H a = none → a ∉ as) ∧
      ∀ (ρ1 : List Addr) (H1 : Hp) (h1 : Hh), Ext as H ρ1 H1 → Sim W Z' ρ1 h1 H1 →
        (∀ h2, giveBack h1 ns.length ns 0 h = some h2 → Ext ρ H ρ H1 ∧ Sim W Z ρ h2 H1) ∧
        (∀ d v d', RD W Z' ρ1 H1 d v → tell h1 ns d = some d' → RD W Z ρ H1 d' v) ∧
        (∀ x x' cls dd, RX W Z' ρ1 H1 x cls dd → tellX h1 ns x = some x' → RX W Z ρ H1 x' cls dd) := by
  unfold lent at e
  split at e
  · cases e
  · rename_i ds0 ns0 el
    split at e
    · rename_i nd
      split at e
      · cases e
      · rename_i hc0 eo
        simp only [Option.some.injEq, Prod.mk.injEq] at e
        obtain ⟨rfl, rfl, rfl⟩ := e
        obtain ⟨hl, ho⟩ := lentO_ok eo
        have mk : ∀ as : List Addr, Paired (At ρ) ns0 as → ∀ a ∈ as, a ∈ ρ := fun as pa a ha => by
          obtain ⟨n, _, q⟩ := paired_mem pa a ha
          exact List.mem_of_getElem? q
        obtain ⟨as0, pa0, _⟩ := lend_ok (Z' := []) (fun z hz => absurd hz (by simp)) r el
        let Z' : List Addr := Z ++ ρ.filter fun a => decide (a ∉ as0)
        have hZ' : ∀ z ∈ Z', z ∈ Z ∨ z ∈ ρ := fun z hz => by
          rcases List.mem_append.mp hz with q | q
          · exact .inl q
          · exact .inr (List.mem_filter.mp q).1
        obtain ⟨as, pa, f⟩ := lend_ok (Z' := Z') hZ' r el
        have eas : as0 = as := by
          refine List.ext_getElem? fun i => ?_
          cases hi : ns0[i]? with
          | none =>
            have h1 : ns0.length ≤ i := List.getElem?_eq_none_iff.mp hi
            rw [List.getElem?_eq_none (by rw [← paired_len pa0]; exact h1), List.getElem?_eq_none (by rw [← paired_len pa]; exact h1)]
          | some n =>
            obtain ⟨a, e1, e2⟩ := paired_at pa0 i n hi
            obtain ⟨b, f1, f2⟩ := paired_at pa i n hi
            rw [e2] at f2
            cases f2
            rw [e1, f1]
        subst eas
        have sub := mk as0 pa
        have ndA : as0.Nodup := paired_nodup S.nd pa nd
        have lenA := paired_len pa
        have inZ : ∀ a, a ∈ ρ → a ∉ as0 → a ∈ Z' := fun a h1 h2 => List.mem_append.mpr (.inr (List.mem_filter.mpr ⟨h1, by simp [h2]⟩))
        have there : ∀ a ∈ ρ, ∃ u, H a = some u := fun a ha => by
          obtain ⟨i, hi⟩ := List.mem_iff_getElem?.mp ha
          have hl : i < h.length := by rw [← S.len]; exact (List.getElem?_eq_some_iff.mp hi).1
          exact (S.obj i h[i] a (by simp [hl]) hi).there
        refine ⟨Z', as0, lenA.symm, ⟨by rw [← lenA, hl], ndA, fun z hz => ?_, fun i o a e1 e2 => ?_⟩, f as0 (fun i a q => by simpa using q) sub, fun a ha hm => ?_, fun ρ1 H1 h1 x S1 => ?_⟩
        · rcases List.mem_append.mp hz with q | q
          · obtain ⟨q1, q2⟩ := S.dis z q
            exact ⟨fun m => q1 (sub z m), q2⟩
          · obtain ⟨q1, q2⟩ := List.mem_filter.mp q
            exact ⟨by simpa using q2, there z q1⟩
        · obtain ⟨n, en, eh, cl⟩ := ho i o e1
          obtain ⟨b, eb, er⟩ := paired_at pa i n en
          rw [eb] at e2
          have hba : b = a := Option.some.inj e2
          rw [hba] at er
          exact (S.obj n o a eh er).closed hZ' sub cl
        · obtain ⟨u, q⟩ := there a (sub a hm)
          rw [ha] at q; cases q
        · have X1 : Ext ρ H ρ H1 := ⟨List.prefix_rfl, fun a o hr e => ⟨hr, (x.keep a o (fun m => hr (sub a m)) e).2⟩, x.fz⟩
          have a1 : ∀ a ∈ as0, a ∈ ρ1 := fun a ha => x.pre.subset ha
          have hz : ∀ a, a ∉ Z' → a ∉ ρ1 → a ∉ Z ∧ a ∉ ρ := fun a n1 n2 => ⟨fun m => n1 (List.mem_append.mpr (.inl m)), fun m => by
            by_cases hm : a ∈ as0
            · exact n2 (a1 a hm)
            · exact n1 (inZ a m hm)⟩
          have hk : ∀ n a, ρ1[n]? = some a → ¬ n < ns0.length → a ∉ Z ∧ a ∉ ρ := fun n a en hn => by
            have hm : a ∈ ρ1 := List.mem_of_getElem? en
            have hZn : a ∉ Z' := fun q => (S1.dis a q).1 hm
            refine ⟨fun m => hZn (List.mem_append.mpr (.inl m)), fun m => ?_⟩
            by_cases hma : a ∈ as0
            · obtain ⟨j, hj⟩ := List.mem_iff_getElem?.mp hma
              have := nodup_inj S1.nd en (pre_get x.pre hj)
              have hjl := (List.getElem?_eq_some_iff.mp hj).1
              omega
            · exact hZn (inZ a m hma)
          have tel : ∀ d v d', RD W Z' ρ1 H1 d v → tell h1 ns0 d = some d' → RD W Z ρ H1 d' v := by
            intro d v d' rd ed
            by_cases hd : ∃ n, d = .ref n
            · obtain ⟨n, rfl⟩ := hd
              cases rd with
              | @ref a _ ra =>
                simp only [tell] at ed
                cases en : ns0[n]? with
                | some m =>
                  rw [en] at ed
                  cases ed
                  obtain ⟨b, eb, er⟩ := paired_at pa n m en
                  have := pre_get x.pre eb
                  rw [ra] at this
                  cases this
                  exact .ref er
                | none =>
                  rw [en] at ed
                  exact frz_ok S1 hz hk 4 n a d' ra ed
            · have ed' : d.map_ (frz h1 ns0.length 4) = some d' := by
                rw [← ed]
                cases d <;> first | rfl | exact absurd ⟨_, rfl⟩ hd
              exact map_ok hz (frz_ok S1 hz hk 4) rd ed'
          refine ⟨fun h2 e2 => ⟨X1, ?_⟩, tel, fun ex ex' cls dd rx ee => ?_⟩
          · have k1 : ∀ (m : Nat) (o : O) (a : Addr), m ∉ ns0 → h[m]? = some o → ρ[m]? = some a → OR W Z ρ H1 a o := by
              intro m o a hm ho' ha
              refine (S.obj m o a ho' ha).keep X1 fun u eu => (x.keep a u (fun hma => ?_) eu).2
              obtain ⟨n, hn, en⟩ := paired_mem pa a hma
              exact hm (nodup_inj S.nd ha en ▸ hn)
            have k2 : ∀ (j n : Nat) (o o' : O) (a : Addr), ns0[j]? = some n → h1[0 + j]? = some o → ρ[n]? = some a → frzO h1 ns0.length o = some o' → OR W Z ρ H1 a o' := by
              intro j n o o' a hj ho' ha hf
              obtain ⟨b, eb, er⟩ := paired_at pa j n hj
              rw [ha] at er
              have hab : a = b := Option.some.inj er
              rw [← hab] at eb
              exact frzO_ok S1 hz hk (S1.obj j o a (by simpa using ho') (pre_get x.pre eb)) hf
            obtain ⟨q1, q2⟩ := giveBack_ok (W := W) (Z := Z) (ρ := ρ) (H := H1) e2 k1 k2
            exact ⟨by rw [q1]; exact S.len, S.nd, fun z hz => ⟨(S.dis z hz).1, (S1.dis z (List.mem_append.mpr (.inl hz))).2⟩, q2⟩
          · have r2 := rx.2
            unfold tellX at ee
            cases hf : ex.fld with
            | none =>
              rw [hf] at ee r2
              cases ee
              exact ⟨rx.1, r2⟩
            | some d =>
              obtain ⟨fn, d⟩ := d
              rw [hf] at ee r2
              simp only [Option.map_eq_some_iff] at ee
              obtain ⟨d', e1, rfl⟩ := ee
              obtain ⟨a, v, f1, f2, f3, f4⟩ := r2
              refine ⟨rx.1, a, v, f1, f2, fun m => ?_, tel d v d' f4 e1⟩
              by_cases hma : a ∈ as0
              · exact f3 (a1 a hma)
              · obtain ⟨i, hi⟩ := List.mem_iff_getElem?.mp m
                have hl : i < h.length := by rw [← S.len]; exact (List.getElem?_eq_some_iff.mp hi).1
                have q := (S.obj i h[i] a (by simp [hl]) hi).keep X1 (fun u eu => (x.keep a u hma eu).2)
                exact q.notXd f2
    · cases e
end Fw
end
section
set_option Elab.async false
set_option maxHeartbeats 1000000
namespace Fw
open PySem PySem.Spec PyProof.Rows L2
structure RoomG (k : Nat) (A : Around) : Prop where
  hd : A.handled = none
  dp : A.depth + k + 15 < recursionLimit
  un : A.units + 16 * k + 300 < cLine
  gd : A.guards = some []
theorem RoomG.mono' {j k : Nat} {A : Around} (r : RoomG k A) (h : j ≤ k) : RoomG j A := ⟨r.hd, by have := r.dp; omega, by have := r.un; omega, r.gd⟩
theorem RoomG.deeper' {k : Nat} {A : Around} (r : RoomG (k + 1) A) (env : Env) : RoomG k (A.deeper env) :=
  ⟨r.hd, by have := r.dp; show A.depth + 1 + k + 15 < _; omega, by have := r.un; show A.units + 3 + 16 * k + 300 < _; omega, r.gd⟩
theorem RoomG.depth {k : Nat} {A : Around} (r : RoomG k A) : A.depth < recursionLimit := by have := r.dp; omega
theorem RoomG.units {k : Nat} {A : Around} (r : RoomG k A) : A.units + 64 < cLine := by have := r.un; omega
structure FnG (P : Program) (w : World) (K : PySem.W.Frag) (mg : Str → Option Value) (base : Heap) (CX : CXT) (k : Nat) (f : Addr) (fd : FuncData) (ps : List Str) (sp : Sp) : Prop where
  len : ∀ vs H Q E, sp vs H Q E → vs.length = ps.length
  run : ∀ (A : Around) (outer : List Env) (s : Shared) (H : Hp) (args : Args) (us : List Value) (vs : List V) (Q : VK) (E : XK),
    RoomG k A → Env0 P w K mg base A outer s H → BindsTo s fd args (ps.zip us) → Vals vs us → sp vs H Q E → codeAny (model P w) A (.call (.ref f) args) (CR CX outer P w H s Q E) s
theorem FnG.imp {P : Program} {w : World} {K : PySem.W.Frag} {mg : Str → Option Value} {base : Heap} {CX : CXT} {k : Nat} {f : Addr} {fd : FuncData} {ps : List Str} {sp sp' : Sp} (F : FnG P w K mg base CX k f fd ps sp)
    (h : ∀ vs H Q E, sp' vs H Q E → sp vs H Q E) : FnG P w K mg base CX k f fd ps sp' where
  len := fun vs H Q E q => F.len vs H Q E (h _ _ _ _ q)
  run := fun A outer s H args us vs Q E hr he hb hv q => F.run A outer s H args us vs Q E hr he hb hv (h _ _ _ _ q)
theorem FnG.cx {P : Program} {w : World} {K : PySem.W.Frag} {mg : Str → Option Value} {base : Heap} {CX CX' : CXT} {k : Nat} {f : Addr} {fd : FuncData} {ps : List Str} {sp : Sp} (F : FnG P w K mg base CX k f fd ps sp)
    (h : ∀ outer H s E e s', CX outer H s E e s' → CX' outer H s E e s') : FnG P w K mg base CX' k f fd ps sp where
  len := F.len
  run := fun A outer s H args us vs Q E r b v p q => codeAny_mono (F.run A outer s H args us vs Q E r b v p q) fun r s' z => by
    cases r with
    | error e => exact h _ _ _ _ _ _ z
    | ok fl => cases fl <;> exact z
section
variable {P : Program} {w : World} {K : PySem.W.Frag} {mg : Str → Option Value} {base : Heap} {x qual : Str} {params : Arguments} {body : List Stmt} {scope : Scope} {dvs : List V} {kws : List (Str × V)} {f : Addr} {fd : FuncData}
theorem okG {CX : CXT} {N ps : List Str} {k : Nat} {sp : Sp} (F : FunD K x qual params body scope dvs kws f fd) (S : FnScope N ps scope) (len : ∀ vs H Q E, sp vs H Q E → vs.length = ps.length)
    (hbody : ∀ (cdv : Value) (A : Around) (outer : List Env) (s : Shared) (H : Hp) (vs : List V) (Q : VK) (E : XK), RoomG k (A.deeper (envOfC qual scope s.heap.objs.size f cdv)) → sp vs H Q E →
      ∃ t, PSs (cxOf CX P w K mg base N qual scope f cdv A outer s H E) body t ∧ t { nx := fun _ H' => Q .non H', rt := Q } (L2.start N vs) H) : FnG P w K mg base CX (k + 1) f fd ps sp := by
  obtain ⟨oc, od, dV, kV, doc, pm, an, cdv, ct, osl, rfl, lk, code, _, _⟩ := F.ex
  constructor
  · exact len
  intro A outer s H args us vs Q E room env bind rel want
  have many := len _ _ _ _ want
  have inK : K.In s.heap := env.mod.kin.keeps fun b o e => (env.bs b o e).1
  have nolim : s.heap.NoLimit := env.mod.nolimit.keeps fun b o e => (env.bs b o e).1
  have seen : ∀ y ∈ ps.zip us, scope.names.lookup y.1 = some .local ∨ (scope.names.lookup y.1 = some .cell ∧ ((cellsFrom (s.heap.objs.size + 1) scope.names []).lookup y.1).isSome = true) := by
    rintro ⟨m, v⟩ hy
    have hm := (List.of_mem_zip hy).1
    exact (S.par m hm).imp id fun q => ⟨q, PySem.W.cellsFrom_some _ _ _ (.inl q)⟩
  refine codeAny_call_function room.depth (inK _ _ lk) rfl S.co S.gen rfl (PySem.W.codeRec_of inK code) (bind _ _ _ _ ?_)
  refine wpAny_newFunctionEnv_cells S.kind seen fun env' he s1 ext => ?_
  subst he
  refine ⟨nolim.keeps ext.toInCall.keep, codeAny_func ?_⟩
  obtain ⟨t, rule, ask⟩ := hbody cdv A outer s H vs Q E (room.deeper' _) want
  have start := inv_start (CX := CX) (E := E) (cd := cdv) S room.hd env many rel ext
  refine wpAny_mono (rule.run [] s1 (L2.start N vs) H _ start ask) (fun fl s' e => ?_) fun _ _ e => e
  cases fl with
  | ret u =>
    obtain ⟨v, σ', H', J, rv, q⟩ := e
    exact ⟨v, H', J.os, J.bare, J.base, J.hok, rv, q⟩
  | next =>
    obtain ⟨σ', H', J, q⟩ := e
    exact ⟨.non, H', J.os, J.bare, J.base, J.hok, rfl, q⟩
  | brk => exact e.elim fun _ z => z.elim fun _ z => z.2.elim
  | cont => exact e.elim fun _ z => z.elim fun _ z => z.2.elim
end
abbrev scriptO (vs : List Value) : Obj := { cls := .type "list", data := .seq vs.toArray }
def scriptH (K : PySem.W.Frag) (a : Addr) (vs : List Value) (ns : List Int) : Hp := fun b =>
  if b = a ∧ K.lookup a = none then some (.frz (scriptO vs) (.lst (ns.map V.int))) else none
section
variable {P : Program} {w : World} {K : PySem.W.Frag} {mg mb : Str → Option Value} {CX : CXT} {k : Nat} {fa a : Addr} {fd : FuncData} {x : Str} {sp : Sp} {s₁ : Shared} {vs : List Value} {ns : List Int}
theorem scriptH_or (K : PySem.W.Frag) (a : Addr) (vs : List Value) (ns : List Int) (b : Addr) : scriptH K a vs ns b = none ∨ (b = a ∧ K.lookup a = none ∧ scriptH K a vs ns b = some (.frz (scriptO vs) (.lst (ns.map V.int)))) := by
  by_cases h : b = a ∧ K.lookup a = none
  · exact .inr ⟨h.1, h.2, if_pos h⟩
  · exact .inl (if_neg h)
theorem law_callG (KX : K.In s₁.heap) (hns : s₁.heap.Ns mainGlobals mg) (hb : s₁.heap.Ns builtinsNs mb) (hbb : ∀ x : Str, x ≠ "__name__" → mb x = bootBuiltins x) (hlim : s₁.heap.NoLimit) (hg : s₁.gens = #[])
    (ha : s₁.heap.get? a = some (scriptO vs)) (hi : IntsAre vs ns) (hl : ns.length ≤ sizeLine) (hr : RoomG k callerA)
    (F : ∀ base : Heap, K.In base → base.Ns mainGlobals mg → FnG P w K mg base CX k fa fd [x] sp) (hbind : ∀ (s : Shared) (u : Value), BindsTo s fd ⟨[u], []⟩ [(x, u)])
    (hsp : ∀ H : Hp, Only H → SqL K H a (ns.map V.int) → sp [.ref a] H (fun v _ => v = .bl true) fun _ _ _ => False)
    (hCX : ∀ H e s', CX [] H s₁ (fun _ _ _ => False) e s' → False) :
    codeAny (model P w) callerA (.call (.ref fa) ⟨[.ref a], []⟩) (fun r s' => r = .ok (.ret (.bool true)) ∧ OldK s₁.heap s'.heap ∧ s'.os = s₁.os ∧ AllBare s'.gens) s₁ := by
  let H := scriptH K a vs ns
  have or := scriptH_or K a vs ns
  have only : Only H := fun b => (or b).imp id fun h => ⟨_, _, h.2.2⟩
  have long : (ns.map V.int).length ≤ sizeLine := by rw [List.length_map]; exact hl
  have seq : SqL K H a (ns.map V.int) := by
    cases hk : K.lookup a with
    | none => exact .inl (.inr ⟨scriptO vs, if_pos ⟨rfl, hk⟩⟩)
    | some o =>
      have e := (KX a o hk).symm.trans ha
      cases e
      exact .inr ⟨scriptO vs, vs.toArray, _, hk, rfl, rfl, rfl, by rw [List.size_toArray, ← hi.length] at *; exact hl, vals_ints hi⟩
  have held : HOk P w H s₁.heap := by
    intro b u e
    rcases or b with z | ⟨rfl, _, z⟩
    · exact nomatch z.symm.trans e
    · cases z.symm.trans e
      exact ⟨ha, long, vs, _, vals_ints hi, ha⟩
  have free : ∀ {b : Addr} {o : Obj}, s₁.heap.get? b = some o → (∀ y n, o.data ≠ .seq y n) → H b = none := by
    intro b o e d
    rcases or b with z | ⟨rfl, _, _⟩
    · exact z
    · cases ha.symm.trans e
      exact absurd rfl (d _ _)
  have name : ∀ {b : Addr} {m : Str → Option Value}, s₁.heap.Ns b m → (hidT s₁.heap H).Ns b m := by
    rintro b m ⟨o, es, ep, e, d, r⟩
    refine ⟨o, es, ep, hidT_get e (free e fun y n q => ?_), d, r⟩
    rw [d] at q
    cases q
  have inK : K.In (hidT s₁.heap H) := by
    intro b o e
    refine hidT_get (KX b o e) ?_
    rcases or b with z | ⟨rfl, z, _⟩
    · exact z
    · exact nomatch z.symm.trans e
  have mod : Mod K mg (hidT s₁.heap H) := ⟨inK, name hns, ⟨mb, name hb, hbb⟩, hlim.imp fun m q => ⟨name q.1, q.2⟩⟩
  have env : Env0 P w K mg (hidT s₁.heap H) callerA [] s₁ H := {
    frames := rfl, mod := mod, bs := fun b o e => of_hidT e, bsz := Nat.le_of_eq (hidT_size _ _)
    funs := trivial, frf := fun b hb => (by cases hb), hok := held, bare := .of_eq hg }
  refine codeAny_mono ((F _ inK (name hns)).run callerA [] s₁ H ⟨[.ref a], []⟩ [.ref a] [.ref a] _ _ hr env (hbind s₁ (.ref a)) (.cons rfl .nil) (hsp H only seq)) ?_
  intro r s' z
  match r, z with
  | .error e, z => exact (hCX H e s' z).elim
  | .ok .next, z => exact z.elim
  | .ok .brk, z => exact z.elim
  | .ok .cont, z => exact z.elim
  | .ok (.ret u), ⟨v, H', os, bare, un, held', rv, q⟩ =>
    have q' : v = V.bl true := q
    subst q'
    have ru : u = Value.bool true := rv
    subst ru
    refine ⟨rfl, OldK.of_keep ?_, os, bare⟩
    intro b o e
    rcases or b with z | ⟨rfl, _, z⟩
    · exact un.keep b o e z (by intro y; cases y) (by simp)
    · have e1 := (held' _ _ (un.frzs _ _ _ z)).1
      cases ha.symm.trans e
      exact e1
theorem walk_ofG {l : PySem.W.OpenLaw} {n : Nat} {q : Program} {loose : List Str} {XP : (Str → Option Value) → Heap → Prop} {YP : World → Heap → Prop} {d : DefRec} (hn : l.most = some n) (hn2 : n ≤ sizeLine) (hdf : d.params.defaults = []) (hr : RoomG k callerA)
    (F : ∀ (w : World) (mg : Str → Option Value) (fa : Addr) (h : Heap), YP w h → h.Ns mainGlobals mg → mg d.name = some (.ref fa) →
      ∃ (K : PySem.W.Frag) (fd : FuncData) (sp : Sp), K.In h ∧ (∀ (s : Shared) (u : Value), BindsTo s fd ⟨[u], []⟩ [(x, u)]) ∧
        (∀ (H : Hp) (a : Addr) (ns : List Int), ns.length ≤ n → Only H → SqL K H a (ns.map V.int) → sp [.ref a] H (fun v _ => v = .bl true) fun _ _ _ => False) ∧
        ∀ base : Heap, K.In base → base.Ns mainGlobals mg → FnG l.prog w K mg base CX k fa fd [x] sp)
    (hCX : ∀ (H : Hp) (s : Shared) (e : Value) (s' : Shared), CX [] H s (fun _ _ _ => False) e s' → False) : PySem.W.WalkO q loose XP YP l.row.toRowW d [] (fun f vs => PySem.call f vs) := by
  refine Att.attach_call hn hdf ?_
  intro w s₀ s₁ mg mb fa o pm cd doc a vs ns G Y _ _ _ hmg hobj hints many hg
  obtain ⟨K, fd, sp, KX, bind, promise, hF⟩ := F w mg fa _ Y G.T.g hmg
  exact law_callG KX G.T.g G.T.b G.T.builtins G.T.nolimit hg hobj hints (Nat.le_trans many hn2) hr hF bind (fun H only seq => promise H a ns many only seq) (fun H e s' => hCX H s₁ e s')
end
end Fw
end
section
set_option Elab.async false
set_option maxHeartbeats 1000000
namespace Fw
open PySem PySem.Spec PyProof.Rows L2
def spF (W : Wd) (r : List D → Hh → R D) : Sp := fun vs H Q E => ∃ Z ρ h ds, Sim W Z ρ h H ∧ RDs W Z ρ H ds vs ∧ Post W Z ρ H (r ds h) (fun d ρ' _ H' => ∀ v, RD W Z ρ' H' d v → Q v H') E
section
variable {W : Wd} {Z ρ : List Addr} {H : Hp}
theorem rsg_start {N : List Str} {ds : List D} {vs : List V} (r : RDs W Z ρ H ds vs) : RSg W Z ρ H (startD N.length ds) (L2.start N vs) where
  len := by simp [startD, L2.start, r.length]
  at_ := fun i d e => by
    unfold startD at e
    by_cases hi : i < (ds.map some).length
    · rw [List.getElem?_append_left hi, List.getElem?_map] at e
      cases ed : ds[i]? with
      | none => rw [ed] at e; cases e
      | some d' =>
        rw [ed] at e
        cases e
        obtain ⟨v, ev, rv⟩ := r.get ed
        refine ⟨v, ?_, rv⟩
        unfold L2.start
        rw [List.getElem?_append_left (by simpa [← r.length] using hi), List.getElem?_map, ev]
        rfl
    · rw [List.getElem?_append_right (by omega)] at e
      have := List.mem_of_getElem? e
      simp at this
theorem back_post {Z' as : List Addr} {ns : List Nat} {h : Hh} {r : SR} {Q : VK} {E : XK}
    (f : ∀ (ρ1 : List Addr) (H1 : Hp) (h1 : Hh), Ext as H ρ1 H1 → Sim W Z' ρ1 h1 H1 →
        (∀ h2, giveBack h1 ns.length ns 0 h = some h2 → Ext ρ H ρ H1 ∧ Sim W Z ρ h2 H1) ∧
        (∀ d v d', RD W Z' ρ1 H1 d v → tell h1 ns d = some d' → RD W Z ρ H1 d' v) ∧
        (∀ x x' cls dd, RX W Z' ρ1 H1 x cls dd → tellX h1 ns x = some x' → RX W Z ρ H1 x' cls dd))
    (p : Post W Z ρ H (back ns h r) (fun d ρ' _ H' => ∀ v, RD W Z ρ' H' d v → Q v H') E) :
    PostS W Z' as H r { nx := fun _ H' => Q .non H', rt := Q } (fun cls d _ H => E cls d H) := by
  cases r with
  | nx σ h1 =>
    intro ρ1 H1 σ' x S1 _
    obtain ⟨f1, f2, f3⟩ := f ρ1 H1 h1 x S1
    simp only [back] at p
    cases hg : giveBack h1 ns.length ns 0 h with
    | none => rw [hg] at p; exact p.elim
    | some h2 =>
      rw [hg] at p
      obtain ⟨x2, S2⟩ := f1 h2 hg
      exact p ρ H1 x2 S2 .non .non
  | rt d h1 =>
    intro ρ1 H1 v x S1 rv
    obtain ⟨f1, f2, f3⟩ := f ρ1 H1 h1 x S1
    simp only [back] at p
    cases ht : tell h1 ns d with
    | none => rw [ht] at p; exact p.elim
    | some d' =>
      cases hg : giveBack h1 ns.length ns 0 h with
      | none => rw [ht, hg] at p; exact p.elim
      | some h2 =>
        rw [ht, hg] at p
        obtain ⟨x2, S2⟩ := f1 h2 hg
        exact p ρ H1 x2 S2 v (f2 d v d' rv ht)
  | xn e σ h1 =>
    intro ρ1 H1 σ' cls dd x S1 _ rx
    obtain ⟨f1, f2, f3⟩ := f ρ1 H1 h1 x S1
    simp only [back] at p
    cases ht : tellX h1 ns e with
    | none => rw [ht] at p; exact p.elim
    | some d' =>
      cases hg : giveBack h1 ns.length ns 0 h with
      | none => rw [ht, hg] at p; exact p.elim
      | some h2 =>
        rw [ht, hg] at p
        obtain ⟨x2, S2⟩ := f1 h2 hg
        exact p ρ H1 cls dd x2 S2 (f3 e d' cls dd rx ht)
  | bk σ h1 => exact p.elim
  | ct σ h1 => exact p.elim
  | bad => exact p.elim
theorem own_len {N : List Str} {sm : SM} {n : Nat} {vs : List V} {Q : VK} {E : XK} (p : spF W (own n N.length sm) vs H Q E) : vs.length = n := by
  obtain ⟨Z, ρ, h, ds, S, r, p⟩ := p
  unfold own at p
  split at p
  · rename_i hl; rw [← r.length]; exact hl
  · exact p.elim
theorem full_len {N : List Str} {sm : SM} {n : Nat} {vs : List V} {Q : VK} {E : XK} (p : spF W (full n N.length sm) vs H Q E) : vs.length = n := by
  obtain ⟨Z, ρ, h, ds, S, r, p⟩ := p
  unfold full at p
  split at p
  · rename_i hl; rw [← r.length]; exact hl
  · exact p.elim
theorem own_read {N : List Str} {sm : SM} {n : Nat} {vs : List V} {Q : VK} {E : XK} (p : spF W (own n N.length sm) vs H Q E) :
    tS W (fun cls d _ H => E cls d H) sm { nx := fun _ H' => Q .non H', rt := Q } (L2.start N vs) H := by
  obtain ⟨Z, ρ, h, ds, S, r, p⟩ := p
  unfold own at p
  split at p
  case isFalse => exact p.elim
  cases hl : lent ds h with
  | none => rw [hl] at p; exact p.elim
  | some q =>
    obtain ⟨ds', ns, hc⟩ := q
    rw [hl] at p
    obtain ⟨Z', as, la, S', r', _, f⟩ := lent_ok S r hl
    exact ⟨Z', as, startD N.length ds', hc, S', rsg_start r', back_post f p⟩
end
section
variable {P : Program} {w : World} {K : PySem.W.Frag} {mg : Str → Option Value} {base : Heap} {x qual : Str} {params : Arguments} {body : List Stmt} {scope : Scope} {dvs : List V} {kws : List (Str × V)} {f : Addr} {fd : FuncData} {N ps : List Str} {k : Nat} {W : Wd} {sm : SM}
theorem js_of {cdv : Value} {A : Around} {outer : List Env} {s : Shared} {H : Hp} {E : XK} (hK : K = W.K) (hN : N.Nodup) (r : RoomG k (A.deeper (envOfC qual scope s.heap.objs.size f cdv))) :
    Js (cxOf (L2.CX P w) P w K mg base N qual scope f cdv A outer s H E) W (fun cls d _ H => E cls d H) where
  hK := hK
  hu := r.units
  hu2 := by
    have := r.un
    show (A.deeper (envOfC qual scope s.heap.objs.size f cdv)).units + 190 < cLine
    omega
  gd := r.gd
  tk := takes_of rfl rfl rfl rfl
  hN := hN
  hc := rfl
  hp := passes_of rfl
theorem fn_own (F : FunD K x qual params body scope dvs kws f fd) (S : FnScope N ps scope) (hK : K = W.K)
    (hb : ∀ (cdv : Value) (A : Around) (outer : List Env) (s : Shared) (H : Hp) (E : XK), RoomG k (A.deeper (envOfC qual scope s.heap.objs.size f cdv)) →
      SsJ (cxOf (L2.CX P w) P w K mg base N qual scope f cdv A outer s H E) W (fun cls d _ H => E cls d H) body sm) :
    FnG P w K mg base (L2.CX P w) (k + 1) f fd ps (spF W (own ps.length N.length sm)) :=
  okG F S (fun vs H Q E p => own_len p) fun cdv A outer s H vs Q E r p => ⟨_, hb cdv A outer s H E r, own_read p⟩
theorem full_read {n : Nat} {vs : List V} {H : Hp} {Q : VK} {E : XK} (p : spF W (full n N.length sm) vs H Q E) :
    tS W (fun cls d _ H => E cls d H) sm { nx := fun _ H' => Q .non H', rt := Q } (L2.start N vs) H := by
  obtain ⟨Z, ρ, h, ds, S, r, p⟩ := p
  refine ⟨Z, ρ, startD N.length ds, h, S, rsg_start r, ?_⟩
  unfold full at p
  split at p
  case isFalse => exact p.elim
  cases hs : sm (startD N.length ds) h with
  | nx σ h1 => rw [hs] at p; exact fun ρ' H' σ' x S' _ => p ρ' H' x S' .non .non
  | rt d h1 => rw [hs] at p; exact fun ρ' H' v x S' rv => p ρ' H' x S' v rv
  | xn e σ h1 => rw [hs] at p; exact fun ρ' H' σ' cls dd x S' _ rx => p ρ' H' cls dd x S' rx
  | bk σ h1 => rw [hs] at p; exact p.elim
  | ct σ h1 => rw [hs] at p; exact p.elim
  | bad => rw [hs] at p; exact p.elim
theorem fn_full (F : FunD K x qual params body scope dvs kws f fd) (S : FnScope N ps scope) (hK : K = W.K)
    (hb : ∀ (cdv : Value) (A : Around) (outer : List Env) (s : Shared) (H : Hp) (E : XK), RoomG k (A.deeper (envOfC qual scope s.heap.objs.size f cdv)) →
      SsJ (cxOf (L2.CX P w) P w K mg base N qual scope f cdv A outer s H E) W (fun cls d _ H => E cls d H) body sm) :
    FnG P w K mg base (L2.CX P w) (k + 1) f fd ps (spF W (full ps.length N.length sm)) :=
  okG F S (fun vs H Q E p => full_len p) fun cdv A outer s H vs Q E r p => ⟨_, hb cdv A outer s H E r, full_read p⟩
end
section
variable {X : Cx} {k : Nat} {f C : Addr} {fd : FuncData} {ps : List Str} {sp : Sp} {E : XK}
theorem run_at {pins : List (Addr × Obj)} {σ : L2.St} {H : Hp} {s : Shared} {Q : VK} {us : List Value} {kw : List (Str × Value)} {all : List Value} {vs : List V} (F : FnG X.prog X.w X.K X.mg X.base (L2.CX X.prog X.w) k f fd ps sp) (hr : RoomG k X.A)
    (hx : PassesAt (L2.CX X.prog X.w) X σ E) (I : Inv X pins σ H s) (hb : BindsTo s fd ⟨us, kw⟩ (ps.zip all)) (r : Vals vs all) (h : sp vs H Q E) : wpAny (model X.prog X.w) X.A (call (.ref f) us kw) (EP X pins σ Q) X.xe s := by
  refine wpAny_call (codeAny_mono (F.run X.A X.stack s H ⟨us, kw⟩ all vs Q E hr I.env0 hb r h) fun r s' hq => ?_)
  cases r with
  | error e => exact hx pins H s e s' I hq
  | ok fl =>
    cases fl with
    | ret u => exact I.after hq
    | next => exact False.elim hq
    | brk => exact False.elim hq
    | cont => exact False.elim hq
end
section
variable {X : Cx} {W : Wd} {wx : WX} {k : Nat} {f C : Addr} {fd : FuncData} {ps : List Str} {r : List D → Hh → R D} {x : Str} {p pos : Pos} {e : Expr} {es : List Expr} {fs : AM} {dds : List D} {dvs : List V} {ds : List Value} {n : Nat}
def Dfl (W : Wd) (dds : List D) (dvs : List V) : Prop := ∀ Z ρ H, RDs W Z ρ H dds dvs
theorem dfl_nil : Dfl W [] [] := fun _ _ _ => .nil
theorem ej_call (J : Jc X W wx) (F : FnG X.prog X.w X.K X.mg X.base (L2.CX X.prog X.w) k f fd ps (spF W r)) (hr : RoomG k X.A) (hg : Gl X x) (hm : X.mg x = some (.ref f)) (hk : PySem.W.keepIn X.K (.ref f) = true) (hb : Binds X.K fd ps ds) (hd : Vals dvs ds) (hdd : Dfl W dds dvs)
    (ha : AJ X W wx (e :: es) fs) (hdb : (x == ("__debug__" : Str)) = false := by decide) (he : starEach (e :: es) X.env = (false, eval e X.env) :: starEach es X.env := by rfl) (hpl : (backTo pos (starEach es X.env)).any (·.1) = false := by rfl) :
    EJ X W wx (.Call (.Name x p) (e :: es) [] pos) (eCall (fun ds h => r (ds ++ dds) h) fs) := by
  refine ⟨fun pins s σ H Q I ⟨Z, ρ, σd, h0, S, rs, pp⟩ => ?_⟩
  refine wpAny_Call_Name_kw (ld_glob I hg hm ?_ hdb)
  refine PySem.W.callWith_K (h₀ := X.base) I.ok.mod.kin hk (thn (ha.run pos pins s σ H (fun vs H1 => spF W r (vs ++ dvs) H1 Q fun cls dd H => wx cls dd σ H) I ⟨Z, ρ, σd, h0, S, rs, (Post.bind pp).imp fun ds1 ρ1 h1 H1 x1 S1 p1 vs rvs => ?_⟩) fun us s1 ⟨vs, H1, I1, rv, q⟩ => ⟨I1.kIn, ?_⟩) he hpl
  · exact ⟨Z, ρ1, h1, ds1 ++ dds, S1, rvs.append (hdd Z ρ1 H1), p1⟩
  · have rv2 := rv.append hd
    exact run_at F hr (passAt J.tk σ) I1 (hb s1 us I1.kIn (by rw [← rv2.length]; exact F.len _ _ _ _ q)) rv2 q
section
variable {m : Str} {apos : Pos} {o : Expr} {fo : TM} {cls : Nat}
end
abbrev KJ (X : Cx) (W : Wd) (wx : WX) (kws : List Keyword) (f : AM) : Prop := PK X kws (tA W wx f)
theorem kj_nil : KJ X W wx [] aNil := ⟨fun pos pins s σ H Q I ⟨Z, ρ, σd, h0, S, rs, p⟩ => pk_nil.run pos pins s σ H Q I (post_now S p [] .nil)⟩
theorem kj_cons {f : TM} {kws : List Keyword} {nm : Option Str} {kpos : Pos} (ha : EJ X W wx e f) (hr : KJ X W wx kws fs) : KJ X W wx (⟨nm, e, kpos⟩ :: kws) (aCons f fs) :=
  ⟨fun pos pins s σ H Q I ⟨Z, ρ, σd, h0, S, rs, p⟩ => (pk_cons ha hr).run pos pins s σ H Q I
    ⟨Z, ρ, σd, h0, S, rs, (Post.bind p).imp fun d ρ1 h1 H1 x1 S1 p1 v rv =>
      ⟨Z, ρ1, σd, h1, S1, rs.mono x1, (Post.bind p1).imp fun ds ρ2 h2 H2 x2 S2 p2 vs rvs => post_now S2 p2 (v :: vs) (.cons (rv.mono x2) rvs)⟩⟩⟩
section
variable {kws : List Keyword} {ks : List Str} {g : List Value → List Value → List Value} {gV : List V → List V → List V} {gD : List D → List D → List D} {fk : AM} {cls : Nat}
end
end
end Fw
end
section
set_option Elab.async false
set_option maxHeartbeats 1000000
namespace Fw
open PySem PySem.Spec PyProof.Rows L2
section
variable {X : Cx} {W : Wd} {wx : WX} {a b c e : Expr} {fa fb fc f : TM} {pos p : Pos} {x : Str} {id T : String}
theorem rfs_look {Z ρ : List Addr} {H : Hp} {k : Nat} {d : D} : ∀ {fs : List (Nat × D)} {gs : List (Str × V)}, RFs W Z ρ H fs gs → fs.lookup k = some d → ∃ v, gs.lookup (W.an k) = some v ∧ RD W Z ρ H d v := by
  intro fs
  induction fs with
  | nil => intro gs r e; simp at e
  | cons q fs ih =>
    intro gs r e
    cases r with
    | @cons j d' _ v vs r t =>
      rw [List.lookup_cons] at e ⊢
      by_cases hj : k = j
      · subst hj
        simp only [beq_self_eq_true] at e ⊢
        cases e
        exact ⟨v, rfl, r⟩
      · rw [beq_eq_false_iff_ne.mpr hj] at e
        rw [beq_eq_false_iff_ne.mpr fun z => hj (W.inj _ _ z)]
        exact ih t e
theorem ne_mem {a b : Addr} {l : List Addr} (h : a ∈ l) (h2 : b ∉ l) : b ≠ a := fun e => h2 (by rw [e]; exact h)
theorem Sim.write {Z ρ : List Addr} {h : Hh} {H : Hp} {n : Nat} {ad : Addr} {o : O} {u u0 : HO} (S : Sim W Z ρ h H) (hn : ρ[n]? = some ad) (hu : H ad = some u0) (r : OR W Z ρ (upd H ad u) ad o) (hw : ∀ od u', u0 ≠ .frz od u' := by intro _ _ e; cases e) : Ext ρ H ρ (upd H ad u) ∧ Sim W Z ρ (h.set n o) (upd H ad u) := by
  have hm : ad ∈ ρ := List.mem_of_getElem? hn
  have x : Ext ρ H ρ (upd H ad u) := ⟨List.prefix_rfl, fun b w hb e => ⟨hb, by rw [upd_ne (ne_mem hm hb)]; exact e⟩, fun b od w e => by
    have hb : b ≠ ad := fun z => by rw [z, hu] at e; exact hw od w (Option.some.inj e)
    rw [upd_ne hb]
    exact e⟩
  refine ⟨x, ⟨by rw [List.length_set]; exact S.len, S.nd, fun z hz => ?_, fun m w b e1 e2 => ?_⟩⟩
  · obtain ⟨h1, w, e⟩ := S.dis z hz
    exact ⟨h1, w, by rw [upd_ne (ne_mem hm h1)]; exact e⟩
  · by_cases hmn : n = m
    · subst hmn
      have hl : n < h.length := by rw [← S.len]; exact (List.getElem?_eq_some_iff.mp hn).1
      rw [List.getElem?_set_self hl] at e1
      rw [hn] at e2
      cases e1; cases e2
      exact r
    · rw [List.getElem?_set_ne hmn] at e1
      refine (S.obj m w b e1 e2).keep x fun w' e => ?_
      have hb : b ≠ ad := fun z => hmn (nodup_inj S.nd hn (z ▸ e2))
      rw [upd_ne hb]
      exact e
def r1 (W : Wd) (f : Hh → D → Option D) : List V → Hp → VK → Prop := fun xs H Q => ∃ Z ρ h d r v, xs = [v] ∧ Sim W Z ρ h H ∧ RD W Z ρ H d v ∧ f h d = some r ∧ Fw.Ans W Z ρ h H r Q
def r1b (W : Wd) (f : Hh → D → D → Option D) : List V → Hp → VK → Prop := fun xs H Q => ∃ Z ρ h d e r v u, xs = [v, u] ∧ Sim W Z ρ h H ∧ RD W Z ρ H d v ∧ RD W Z ρ H e u ∧ f h d e = some r ∧ Fw.Ans W Z ρ h H r Q
section
variable {g : Hh → D → Option D} {g2 : Hh → D → D → Option D}
theorem u_read {σ : L2.St} {H : Hp} {Q : VK} (p : tE W wx (eU g fa) σ H Q) : tA W wx (aCons fa aNil) σ H fun vs H1 => r1 W g vs H1 Q := by
  obtain ⟨Z, ρ, σd, h0, S, rs, p⟩ := p
  refine ⟨Z, ρ, σd, h0, S, rs, ?_⟩
  unfold aCons aNil
  unfold eU at p
  cases hf : fa σd h0 with
  | ok d h1 =>
    rw [hf] at p
    intro ρ' H' x S' vs rvs
    obtain ⟨r, e, hA⟩ := post_opt (Post.mono x p)
    cases rvs with
    | cons rv t => cases t; exact ⟨Z, ρ', h1, d, r, _, rfl, S', rv, e, hA⟩
  | xn x h1 => rw [hf] at p; exact p
  | bad => rw [hf] at p; exact p
theorem u2_read {σ : L2.St} {H : Hp} {Q : VK} (p : tE W wx (eU2 g2 fa fb) σ H Q) : tA W wx (aCons fa (aCons fb aNil)) σ H fun vs H1 => r1b W g2 vs H1 Q := by
  obtain ⟨Z, ρ, σd, h0, S, rs, p⟩ := p
  refine ⟨Z, ρ, σd, h0, S, rs, ?_⟩
  unfold aCons aNil
  unfold eU2 at p
  cases hf : fa σd h0 with
  | ok d h1 =>
    rw [hf] at p
    simp only [R.bind_ok] at p ⊢
    cases hg : fb σd h1 with
    | ok e h2 =>
      rw [hg] at p
      intro ρ' H' x S' vs rvs
      obtain ⟨r, e1, hA⟩ := post_opt (Post.mono x p)
      cases rvs with
      | cons rv t =>
        cases t with
        | cons ru t => cases t; exact ⟨Z, ρ', h2, d, e, r, _, _, rfl, S', rv, ru, e1, hA⟩
    | xn x h2 => rw [hg] at p; exact p
    | bad => rw [hg] at p; exact p
  | xn x h1 => rw [hf] at p; exact p
  | bad => rw [hf] at p; exact p
theorem ej_b1 (hc : CallR X (.builtin id) (r1 W g)) (ha : EJ X W wx a fa) (hv : bootBuiltins x = some (.builtin id)) (hg : Gl X x := by rfl) (hm : X.mg x = none := by assumption) (hn : x ≠ "__name__" := by decide) (hdb : (x == ("__debug__" : Str)) = false := by decide)
    (he : starEach [a] X.env = (false, eval a X.env) :: starEach [] X.env := by rfl) : EJ X W wx (.Call (.Name x p) [a] [] pos) (eU g fa) :=
  ⟨fun pins s σ H Q I q => (pe_callB hc hg hm hv (aj_cons ha aj_nil he) hn hdb he).run pins s σ H Q I (u_read q)⟩
theorem ej_t1 (hc : CallR X (.type T) (r1 W g)) (ha : EJ X W wx a fa) (hv : bootBuiltins x = some (.type T)) (hg : Gl X x := by rfl) (hm : X.mg x = none := by assumption) (hn : x ≠ "__name__" := by decide) (hdb : (x == ("__debug__" : Str)) = false := by decide)
    (he : starEach [a] X.env = (false, eval a X.env) :: starEach [] X.env := by rfl) : EJ X W wx (.Call (.Name x p) [a] [] pos) (eU g fa) :=
  ⟨fun pins s σ H Q I q => (pe_callTy hc hg hm hv (aj_cons ha aj_nil he) hn hdb he).run pins s σ H Q I (u_read q)⟩
theorem ej_b2 (hc : CallR X (.builtin id) (r1b W g2)) (ha : EJ X W wx a fa) (hb : EJ X W wx b fb) (hv : bootBuiltins x = some (.builtin id)) (hg : Gl X x := by rfl) (hm : X.mg x = none := by assumption) (hn : x ≠ "__name__" := by decide) (hdb : (x == ("__debug__" : Str)) = false := by decide)
    (he : starEach [a, b] X.env = (false, eval a X.env) :: starEach [b] X.env := by rfl) (he2 : starEach [b] X.env = (false, eval b X.env) :: starEach [] X.env := by rfl) (hpl : (backTo pos (starEach [b] X.env)).any (·.1) = false := by rfl) : EJ X W wx (.Call (.Name x p) [a, b] [] pos) (eU2 g2 fa fb) :=
  ⟨fun pins s σ H Q I q => (pe_callB hc hg hm hv (aj_cons ha (aj_cons hb aj_nil he2) he) hn hdb he hpl).run pins s σ H Q I (u2_read q)⟩
end
end
section
variable {X : Cx} {W : Wd}
theorem cl_len (hK : X.K = W.K) : CallR X (.builtin "len") (r1 W lenD) := by
  intro pins s σ H xs us Q I rv ⟨Z, ρ, h, d, r, v, hx, S, rd, e, hA⟩
  subst hx
  by_cases hs : ∃ t, d = .str t
  · obtain ⟨t, rfl⟩ := hs
    cases rd
    simp only [lenD] at e
    split at e
    · rename_i hl
      cases e
      exact call_len_str pins s σ H _ us Q I rv ⟨toS t, rfl, by rw [toS_len, ← line_eq]; exact hl, by rw [toS_len]; exact hA.now S (.int _)⟩
    · cases e
  · have e' : (match asSeq h d with
      | some xs => some (D.int xs.length)
      | none => (asDct h d).map fun kvs => .int kvs.length) = some r := by
      rw [← e]
      cases d <;> first | rfl | exact absurd ⟨_, rfl⟩ hs
    cases e1 : asSeq h d with
    | some xs =>
      rw [e1] at e'
      cases e'
      obtain ⟨a, vs, rfl, q, t⟩ := asSeq_ok S rd e1
      exact call_len_seq pins s σ H _ us Q I rv ⟨a, vs, rfl, hK ▸ q, by rw [← t.length]; exact hA.now S (.int _)⟩
    | none =>
      rw [e1] at e'
      cases e2 : asDct h d with
      | none => rw [e2] at e'; cases e'
      | some kvs =>
        rw [e2] at e'
        cases e'
        obtain ⟨a, vs, rfl, q, t⟩ := asDct_ok S rd e2
        obtain ⟨u, rfl, ru⟩ := vals1 rv
        obtain rfl : u = Value.ref a := ru
        exact d_len I q fun tk s' I' => ⟨.int vs.length, H, I', ⟨_, rfl⟩, by rw [← t.len]; exact hA.now S (.int _)⟩
theorem cl_int : CallR X (.type "int") (r1 W intD) := by
  intro pins s σ H xs us Q I rv ⟨Z, ρ, h, d, r, v, hx, S, rd, e, hA⟩
  subst hx
  cases d <;> simp only [intD] at e <;> first | (cases e; done) | skip
  · cases e
    cases rd
    exact call_int1 pins s σ H _ us Q I rv (.inr ⟨_, rfl, hA.now S (.int _)⟩)
  · cases e
    cases rd
    exact call_int1 pins s σ H _ us Q I rv (.inl ⟨_, rfl, hA.now S (.int _)⟩)
theorem cl_min (hc : X.calm = true) : CallR X (.builtin "min") (r1b W minD) := by
  intro pins s σ H xs us Q I rv ⟨Z, ρ, h, d, e, r, v, u, hx, S, rd, re, e1, hA⟩
  subst hx
  cases d <;> cases e <;> simp only [minD] at e1 <;> first | (cases e1; done) | skip
  cases e1; cases rd; cases re
  exact call_min2 hc pins s σ H _ us Q I rv ⟨_, _, rfl, hA.now S (.int _)⟩
theorem cl_max (hc : X.calm = true) : CallR X (.builtin "max") (r1b W maxD) := by
  intro pins s σ H xs us Q I rv ⟨Z, ρ, h, d, e, r, v, u, hx, S, rd, re, e1, hA⟩
  subst hx
  cases d <;> cases e <;> simp only [maxD] at e1 <;> first | (cases e1; done) | skip
  cases e1; cases rd; cases re
  exact call_max2 hc pins s σ H _ us Q I rv ⟨_, _, rfl, hA.now S (.int _)⟩
end
end Fw
end
section
set_option Elab.async false
set_option maxHeartbeats 1000000
namespace Fw
open PySem PySem.Spec PyProof.Rows L2
section
variable {W : Wd} {Z ρ : List Addr} {h h' : Hh} {H : Hp}
theorem ext_own {ad : Addr} {u u0 : HO} {n : Nat} (hn : ρ[n]? = some ad) (hu : H ad = some u0) (hw : ∀ od u', u0 ≠ .frz od u' := by intro _ _ e; cases e) : Ext ρ H ρ (upd H ad u) :=
  ⟨List.prefix_rfl, fun b w hb e => ⟨hb, by rw [upd_ne (ne_mem (List.mem_of_getElem? hn) hb)]; exact e⟩, fun b od w e => by
    have hb : b ≠ ad := fun z => by rw [z, hu] at e; exact hw od w (Option.some.inj e)
    rw [upd_ne hb]
    exact e⟩
theorem rks_map {k : K1} {d : D} {v : V} (rv : RD W Z ρ H d v) : ∀ {fs : List (K1 × D)} {gs : List (Key × V)}, RKs W Z ρ H fs gs →
    RKs W Z ρ H (fs.map fun q => if q.1 = k then (q.1, d) else q) (gs.map fun kv => if kv.1 = keyS k then (kv.1, v) else kv) := by
  intro fs
  induction fs with
  | nil => intro gs r; cases r; exact .nil
  | cons q fs ih =>
    intro gs r
    cases r with
    | @cons k' d' _ u us r t =>
      simp only [List.map_cons]
      by_cases hk : k' = k
      · subst hk
        rw [if_pos rfl, if_pos rfl]
        exact .cons rv (ih t)
      · rw [if_neg hk, if_neg fun z => hk (keyS_inj z)]
        exact .cons r (ih t)
theorem rks_snoc {k : K1} {d : D} {v : V} (rv : RD W Z ρ H d v) : ∀ {fs : List (K1 × D)} {gs : List (Key × V)}, RKs W Z ρ H fs gs → RKs W Z ρ H (fs ++ [(k, d)]) (gs ++ [(keyS k, v)]) := by
  intro fs
  induction fs with
  | nil => intro gs r; cases r; exact .cons rv .nil
  | cons q fs ih =>
    intro gs r
    cases r with
    | cons r t => exact .cons r (ih t)
theorem rks_put {k : K1} {d : D} {v : V} (rv : RD W Z ρ H d v) {fs : List (K1 × D)} {gs : List (Key × V)} (r : RKs W Z ρ H fs gs) : RKs W Z ρ H (put k d fs) (putK gs (keyS k) v) := by
  have hany : (gs.any fun kv => decide (kv.1 = keyS k)) = fs.any fun q => decide (q.1 = k) := by rw [r.any k, valV_any]
  by_cases hf : (fs.any fun q => decide (q.1 = k)) = true
  · have e1 : put k d fs = fs.map fun q => if q.1 = k then (q.1, d) else q := if_pos hf
    have e2 : putK gs (keyS k) v = gs.map fun kv => if kv.1 = keyS k then (kv.1, v) else kv := if_pos (by rw [hany]; exact hf)
    rw [e1, e2]
    exact rks_map rv r
  · have e1 : put k d fs = fs ++ [(k, d)] := if_neg hf
    have e2 : putK gs (keyS k) v = gs ++ [(keyS k, v)] := if_neg (by rw [hany]; exact hf)
    rw [e1, e2]
    exact rks_snoc rv r
def tSet (W : Wd) : TSet := fun o i v H Q => ∃ Z ρ h h' od id d, Sim W Z ρ h H ∧ RD W Z ρ H od o ∧ RD W Z ρ H id i ∧ RD W Z ρ H d v ∧ setIx h od id d = some h' ∧ ∀ H', Ext ρ H ρ H' → Sim W Z ρ h' H' → Q H'
theorem set_all {X : Cx} (hu : X.A.units + 64 < cLine) : PSet X (tSet W) := by
  intro pins s σ H o i v ov iv u Q I ro ri ru ⟨Z, ρ, h, h', od, id, d, S, rod, rid, rdd, e, q⟩
  cases rod <;> simp only [setIx] at e <;> first | (cases e; done) | skip
  rename_i ad n hn
  cases eo : h[n]? with
  | none => rw [eo] at e; cases e
  | some ob =>
    rw [eo] at e
    have qo := S.obj n ob ad eo hn
    cases ob with
    | lst xs =>
      cases id <;> dsimp only at e <;> first | (cases e; done) | skip
      rename_i k
      cases rid
      simp only [Option.map_eq_some_iff] at e
      obtain ⟨j, e1, rfl⟩ := e
      cases qo with
      | lst qo t =>
        rename_i vs
        have x : Ext ρ H ρ (upd H ad (.lst (vs.set j v))) := ext_own hn qo
        obtain ⟨_, S'⟩ := S.write hn qo (o := .lst (xs.set j d)) (.lst (upd_same (o := .lst (vs.set j v))) ((t.mono x).set (rdd.mono x)))
        exact set_list pins s σ H _ _ v ov iv u Q I ro ri ru ⟨ad, vs, k, j, rfl, rfl, qo, by rw [← t.length, ← ixn_eq]; exact e1, q _ x S'⟩
    | dct kvs =>
      dsimp only at e
      simp only [Option.bind_eq_some_iff] at e
      obtain ⟨k, e1, e2⟩ := e
      split at e2
      · rename_i hl
        cases e2
        cases qo with
        | dct qo t =>
          rename_i vs
          have x : Ext ρ H ρ (upd H ad (.dK (putK vs (keyS k) v))) := ext_own hn qo
          obtain ⟨_, S'⟩ := S.write hn qo (o := .dct (put k d kvs)) (.dct (upd_same (o := .dK (putK vs (keyS k) v))) (rks_put (rdd.mono x) (t.mono x)))
          have hk := key1_ok rid e1
          exact set_dict (by omega) pins s σ H _ _ v ov iv u Q I ro ri ru ⟨ad, _, rfl, .inl ⟨vs, keyS k, qo, hk, by rw [← t.len, ← line_eq]; exact hl, rfl⟩, q _ x S'⟩
      · cases e2
    | ro xs => cases id <;> simp at e
    | ins c fs => cases id <;> simp at e
    | dtu kvs => cases id <;> simp at e
    | rod kvs => cases id <;> simp at e
end
section
variable {X : Cx} {W : Wd} {wx : WX} {a b c e : Expr} {fa fb fc f : TM} {pos p : Pos} {x : Str}
theorem sj_setI {pos' : Pos} (J : Js X W wx) (ha : EJ X W wx a fa) (hb : EJ X W wx b fb) (he : EJ X W wx e f)
    (hs : swapsWithSole [.Subscript a b pos'] e pos.line X.env = pure false := by rfl) (hw : swappedStores [.Subscript a b pos'] e X.env = pure none := by rfl)
    (h1 : (assignEach [.Subscript a b pos'] X.env).map (·.2) = [assign (.Subscript a b pos') X.env] := by rfl)
    (hsub : ∀ v, assign (.Subscript a b pos') X.env v = (do
      let ov ← holding [v] (eval a X.env)
      let iv ← holding [v, ov] (eval b X.env)
      standAt pos'
      holding [v, ov, iv] (setItem ov iv v)
      release [v, ov, iv] []) := by intro _; rfl) :
    SJ X W wx (.Assign [.Subscript a b pos'] e pos) (sSetI fa fb f) :=
  ⟨fun pins s σ H D I ⟨Z, ρ, σd, h0, S, rs, pp⟩ => (ps_asg he (pg_sub ha hb (set_all (W := W) J.hu) hsub) hs hw h1).run pins s σ H D I
    ⟨Z, ρ, σd, h0, S, rs, (PostS.of rs pp).imp fun d ρ1 h1 H1 x1 S1 p1 v rv =>
      ⟨Z, ρ1, σd, h1, S1, rs.mono x1, (PostS.of (rs.mono x1) p1).imp fun o ρ2 h2 H2 x2 S2 p2 ov ro =>
        ⟨Z, ρ2, σd, h2, S2, (rs.mono x1).mono x2, (PostS.of ((rs.mono x1).mono x2) p2).imp fun i ρ3 h3 H3 x3 S3 p3 iv ri => by
          cases hf : setIx h3 o i d with
          | none => rw [hf] at p3; exact p3.elim
          | some h4 =>
            rw [hf] at p3
            exact ⟨Z, ρ3, h3, h4, o, i, d, S3, ro.mono x3, ri, (rv.mono x2).mono x3, hf, fun H' x S' => p3 ρ3 H' σ x S' ((((rs.mono x1).mono x2).mono x3).mono x)⟩⟩⟩⟩⟩
def rM (W : Wd) (f : Hh → D → D → Option (D × Option (Nat × O))) : V → List V → Hp → VK → Prop := fun x vs H Q => ∃ Z ρ h d e r w u, vs = [u] ∧ Sim W Z ρ h H ∧ RD W Z ρ H d x ∧ RD W Z ρ H e u ∧ f h d e = some (r, w) ∧
  ∀ ρ' H' v, Ext ρ H ρ' H' → Sim W Z ρ' (wr h w) H' → RD W Z ρ' H' r v → Q v H'
theorem m_app : MtR X "list.append" (rM W appD) := by
  intro pins s σ H x xs v us Q I rx rs ⟨Z, ρ, h, d, e, r, w, u, hx, S, rd, re, hf, hA⟩
  subst hx
  cases rd <;> simp only [appD] at hf <;> first | (cases hf; done) | skip
  rename_i ad n hn
  cases eo : h[n]? with
  | none => rw [eo] at hf; cases hf
  | some ob =>
    rw [eo] at hf
    have qo := S.obj n ob ad eo hn
    cases ob <;> dsimp only at hf <;> first | (cases hf; done) | skip
    split at hf
    · rename_i hl
      cases hf
      cases qo with
      | lst qo t =>
        rename_i ds vs
        have x : Ext ρ H ρ (upd H ad (.lst (vs ++ [u]))) := ext_own hn qo
        obtain ⟨_, S'⟩ := S.write hn qo (o := .lst (ds ++ [e])) (.lst (upd_same (o := .lst (vs ++ [u]))) ((t.mono x).append (.cons (re.mono x) .nil)))
        exact mt_append pins s σ H _ _ v us Q I rx rs ⟨ad, vs, u, rfl, rfl, qo, by rw [← t.length, ← line_eq]; exact hl, hA ρ _ _ x S' .non⟩
    · cases hf
theorem isLst_ty {Z ρ : List Addr} {h : Hh} {H : Hp} {d : D} {v : V} (S : Sim W Z ρ h H) (r : RD W Z ρ H d v) (e : isLst h d = true) : tyV X.K "list" v H := by
  unfold isLst at e
  obtain ⟨xs, e1⟩ := Option.isSome_iff_exists.mp e
  obtain ⟨a, vs, rfl, q, t⟩ := asLst_ok S r e1
  exact .inl ⟨rfl, _, SqL.of q⟩
theorem ej_m {T id : String} {k : Hh → D → Bool} {g : Hh → D → D → Option (D × Option (Nat × O))} {apos cpos : Pos} (pa : PlainAttrs T) (slot : Slot T x id) (hty : typeOf (.builtin id) = pure (.type "method_descriptor")) (hm : MtR X id (rM W g))
    (hk : ∀ {Z ρ : List Addr} {h : Hh} {H : Hp} {d : D} {v : V}, Sim W Z ρ h H → RD W Z ρ H d v → k h d = true → tyV X.K T v H) (ha : EJ X W wx a fa) (hb : EJ X W wx b fb)
    (hbase : attributeBase a x X.env (eval a X.env) = eval a X.env := by rfl)
    (hfew : ((backTo cpos (starEach [b] X.env)).all (fun x => !x.1) && (backToKw cpos (keywordEach [] X.env)).all (fun x => x.1.isSome)
      && decide ([b].length + ([] : List Keyword).length + (if ([] : List Keyword).isEmpty then 0 else 1) < 30)) = true := by rfl)
    (hline : (apos.endLine == cpos.line) = true := by rfl) (hs : starEach [b] X.env = (false, eval b X.env) :: starEach [] X.env := by rfl) : EJ X W wx (.Call (.Attribute a x apos) [b] [] cpos) (eM k g fa fb) :=
  ⟨fun pins s σ H Q I ⟨Z, ρ, σd, h0, S, rs, p⟩ => (pe_bm pa slot hty hm ha (aj_cons hb aj_nil hs) hbase hfew hline hs rfl).run pins s σ H Q I
    ⟨Z, ρ, σd, h0, S, rs, (Post.bind p).imp fun d ρ1 h1 H1 x1 S1 p1 v rv => by
      by_cases hkd : k h1 d = true
      · rw [if_pos hkd] at p1
        refine ⟨hk S1 rv hkd, Z, ρ1, σd, h1, S1, rs.mono x1, ?_⟩
        unfold aCons aNil
        cases hf : fb σd h1 with
        | ok e h2 =>
          rw [hf] at p1
          intro ρ2 H2 x2 S2 vs rvs
          cases rvs with
          | cons ru t =>
            cases t
            have p2 := Post.mono x2 p1
            simp only [R.bind_ok] at p2
            cases hg : g h2 d e with
            | none => rw [hg] at p2; exact p2.elim
            | some q =>
              obtain ⟨r, w⟩ := q
              rw [hg] at p2
              exact ⟨Z, ρ2, h2, d, e, r, w, _, rfl, S2, rv.mono x2, ru, hg, fun ρ' H' v x S' rv' => p2 ρ' H' x S' v rv'⟩
        | xn e h2 => rw [hf] at p1; exact p1
        | bad => rw [hf] at p1; exact p1
      · rw [if_neg hkd] at p1
        exact p1.elim⟩⟩
theorem ej_app {apos cpos : Pos} (ha : EJ X W wx a fa) (hb : EJ X W wx b fb)
    (hbase : attributeBase a "append" X.env (eval a X.env) = eval a X.env := by rfl)
    (hfew : ((backTo cpos (starEach [b] X.env)).all (fun x => !x.1) && (backToKw cpos (keywordEach [] X.env)).all (fun x => x.1.isSome)
      && decide ([b].length + ([] : List Keyword).length + (if ([] : List Keyword).isEmpty then 0 else 1) < 30)) = true := by rfl)
    (hline : (apos.endLine == cpos.line) = true := by rfl) (hs : starEach [b] X.env = (false, eval b X.env) :: starEach [] X.env := by rfl) : EJ X W wx (.Call (.Attribute a "append" apos) [b] [] cpos) (eM isLst appD fa fb) :=
  ej_m PySem.F.plainAttrs_list PySem.F.slot_list_append PySem.F.type_list_append m_app isLst_ty ha hb hbase hfew hline hs
end
end Fw
end
section
set_option Elab.async false
set_option maxHeartbeats 1000000
namespace Fw
open PySem PySem.Spec PyProof.Rows L2
section
variable {W : Wd} {Z ρ : List Addr} {H : Hp} {D : Addr} {σd : Sg} {σ : L2.St}
theorem RSg.hid (r : RSg W (D :: Z) ρ H σd σ) : RSg W Z ρ (hid H D) σd σ :=
  ⟨r.len, fun i d e => let ⟨v, e1, r1⟩ := r.at_ i d e; ⟨v, e1, r1.hid⟩⟩
end
section
variable {X : Cx} {W : Wd} {wx : WX} {tg iter tg1 iter1 elt : Expr} {ifs ifs1 : List Expr} {scope : Scope} {own : List (Str × Nat)} {pos : Pos} {f : TM} {gb gb1 : BM} {it it1 : It} {src src1 : AM} {g g1 : G} {own1 : List Nat}
end
theorem jc_blk {X : Cx} {W : Wd} {wx : WX} (J : Js X W wx) (s : Shared) (H : Hp) (scope : Scope) (cenv : Env) (fp : List Addr) : Js (X.blk s H scope cenv fp) W (fun _ _ _ _ => False) where
  hK := J.hK
  hu := J.hu
  hu2 := J.hu2
  gd := J.gd
  tk := takes_none5
  hN := J.hN
  hc := J.hc
  hp := PassesOwn.never
end Fw
end
section
set_option Elab.async false
set_option maxHeartbeats 1000000
namespace Fw
open PySem PySem.Spec PyProof.Rows L2
section
variable {X : Cx} {W : Wd}
end
end Fw
end
section
set_option Elab.async false
set_option maxHeartbeats 1000000
namespace Fw
open PySem PySem.Spec PyProof.Rows L2
def Callee (X : Cx) (W : Wd) (k : Nat) (f : Addr) (ps : List Str) (dvs : List V) (r : List D → Hh → R D) : Prop :=
  ∃ (fd : FuncData) (ds : List Value), FnG X.prog X.w X.K X.mg X.base (L2.CX X.prog X.w) k f fd ps (spF W r) ∧ PySem.W.keepIn X.K (.ref f) = true ∧ Binds X.K fd ps ds ∧ Vals dvs ds
section
variable {X : Cx} {W : Wd} {wx : WX} {k cls n : Nat} {f : Addr} {ps : List Str} {r : List D → Hh → R D} {x m : Str} {p pos apos : Pos} {e o : Expr} {es : List Expr} {fs fk : AM} {fo : TM} {dds : List D} {dvs : List V}
theorem ec_call (J : Jc X W wx) (C : Callee X W k f ps dvs r) (hr : RoomG k X.A) (hdd : Dfl W dds dvs) (hm : X.mg x = some (.ref f)) (ha : AJ X W wx (e :: es) fs) (hg : Gl X x := by rfl)
    (hdb : (x == ("__debug__" : Str)) = false := by decide) (he : starEach (e :: es) X.env = (false, eval e X.env) :: starEach es X.env := by rfl) (hpl : (backTo pos (starEach es X.env)).any (·.1) = false := by rfl) :
    EJ X W wx (.Call (.Name x p) (e :: es) [] pos) (eCall (fun ds h => r (ds ++ dds) h) fs) := by
  obtain ⟨fd, ds, F, hk, hb, hd⟩ := C
  exact ej_call J F hr hg hm hk hb hd hdd ha hdb he hpl
def Len (fs : AM) (n : Nat) : Prop := ∀ {σ h ds h'}, fs σ h = .ok ds h' → ds.length = n
theorem len_nil : Len aNil 0 := fun e => by cases e; rfl
theorem len_cons {f : TM} (h : Len fs n) : Len (aCons f fs) (n + 1) := fun {σ h0 ds h'} e => by
  unfold aCons at e
  cases hf : f σ h0 with
  | ok d h1 =>
    rw [hf] at e
    simp only [R.bind_ok] at e
    cases hg : fs σ h1 with
    | ok es h2 => rw [hg] at e; cases e; simp [h hg]
    | xn x h2 => rw [hg] at e; cases e
    | bad => rw [hg] at e; cases e
  | xn x h1 => rw [hf] at e; cases e
  | bad => rw [hf] at e; cases e
theorem Len.post {fs : AM} {σd : Sg} {h : Hh} {n : Nat} {Z ρ : List Addr} {H : Hp} {P : List D → List Addr → Hh → Hp → Prop} {E : XK} (hl : Len fs n) (p : Post W Z ρ H (fs σd h) P E) : Post W Z ρ H (fs σd h) (fun ds ρ h H => ds.length = n ∧ P ds ρ h H) E := by
  cases hf : fs σd h with
  | ok ds h1 => rw [hf] at p; exact fun ρ' H' x S => ⟨hl hf, p ρ' H' x S⟩
  | xn e h1 => rw [hf] at p; exact p
  | bad => rw [hf] at p; exact p
end
end Fw
end
section
set_option Elab.async false
set_option maxHeartbeats 1000000
namespace Fw
open PySem PySem.Spec PyProof.Rows L2
section
variable {X : Cx} {W : Wd} {wx : WX} {a b e : Expr} {fa fb : TM} {pos : Pos} {x : Str}
end
section
variable {K : PySem.W.Frag} {W : Wd}
end
def anOf (l : List Str) (k : Nat) : Str := match l[k]? with
  | some s => s
  | none => ⟨#[3000000 + k]⟩
theorem anOf_inj {l : List Str} (nd : l.Nodup) (hs : (l.all fun s => s.cps.toList.all fun c => decide (c < 3000000)) = true) : ∀ j k, anOf l j = anOf l k → j = k := by
  have big : ∀ (s : Str) (n : Nat), s ∈ l → s ≠ ⟨#[3000000 + n]⟩ := by
    intro s n hm e
    have h1 := List.all_eq_true.mp hs s hm
    rw [e] at h1
    simp at h1
    omega
  intro j k e
  unfold anOf at e
  cases hj : l[j]? with
  | some s =>
    cases hk : l[k]? with
    | some t =>
      rw [hj, hk] at e
      simp only at e
      subst e
      exact (List.getElem?_inj (List.getElem?_eq_some_iff.mp hj).1 nd).mp (hj.trans hk.symm)
    | none => rw [hj, hk] at e; exact absurd e (big s k (List.mem_of_getElem? hj))
  | none =>
    cases hk : l[k]? with
    | some t => rw [hj, hk] at e; exact absurd e.symm (big t j (List.mem_of_getElem? hk))
    | none =>
      rw [hj, hk] at e
      simp at e
      omega
abbrev FnD (K : PySem.W.Frag) (d : He.DefD) (fd : FuncData) : Prop := FunD K d.name d.qual d.params d.body d.scope (d.dvs K) (d.kws K) (He.fAd K d.at_) fd
def CalleeB (P : Program) (w : World) (K : PySem.W.Frag) (mg : Str → Option Value) (base : Heap) (W : Wd) (k : Nat) (f : Addr) (ps : List Str) (dvs : List V) (r : List D → Hh → R D) : Prop :=
  ∃ (fd : FuncData) (ds : List Value), FnG P w K mg base (L2.CX P w) k f fd ps (spF W r) ∧ PySem.W.keepIn K (.ref f) = true ∧ Binds K fd ps ds ∧ Vals dvs ds
theorem spF_bad {W : Wd} {vs : List V} {H : Hp} {Q : VK} {E : XK} (p : spF W (fun _ _ => .bad) vs H Q E) : False := by
  obtain ⟨Z, ρ, h, ds, S, r, p⟩ := p
  exact p
theorem fn_bad {P : Program} {w : World} {K : PySem.W.Frag} {mg : Str → Option Value} {base : Heap} {W : Wd} {k : Nat} {f : Addr} {fd : FuncData} {ps : List Str} : FnG P w K mg base (L2.CX P w) k f fd ps (spF W fun _ _ => .bad) :=
  ⟨fun _ _ _ _ p => (spF_bad p).elim, fun _ _ _ _ _ _ _ _ _ _ _ _ _ p => (spF_bad p).elim⟩
end Fw
end
section
set_option Elab.async false
set_option maxHeartbeats 1000000
namespace Fw
open PySem PySem.Spec PyProof.Rows L2
section
variable {X : Cx} {W : Wd} {wx : WX} {k cls n : Nat} {f : Addr} {ps : List Str} {r : List D → Hh → R D} {x m : Str} {p pos apos : Pos} {e o : Expr} {es : List Expr} {fs fk : AM} {fo fa : TM} {dds : List D} {dvs : List V}
end
section
variable {prog : Program} {w : World} {A : Around} {E : Value → Shared → Prop} {s : Shared}
end
section
variable {X : Cx} {W : Wd} {wx : WX}
end
end Fw
end
section
set_option Elab.async false
set_option maxHeartbeats 1000000
namespace Fw
open PySem PySem.Spec PyProof.Rows L2
mutual
def D.dat : D → PyData
  | .non => .none
  | .bl b => .bool b
  | .int i => .int i
  | .str s => .str ⟨s.toArray⟩
  | .tup xs => .tuple (datAll xs)
  | .lst xs => .list (datAll xs)
  | .dct kvs => .dict (datK kvs)
  | _ => .none
def datAll : List D → List PyData
  | [] => []
  | x :: xs => x.dat :: datAll xs
def datK : List (K1 × D) → List (PyData × PyData)
  | [] => []
  | x :: xs => ((match x.1 with | .inl i => .int i | .inr s => .str ⟨s.toArray⟩), x.2.dat) :: datK xs
end
def neatKey (k : K1) : Bool := match k with
  | .inl i => decide (i.natAbs.log2 < 1920)
  | .inr _ => true
mutual
def D.neat : D → Bool
  | .non => true
  | .bl _ => true
  | .int i => decide (i.natAbs.log2 < 1920)
  | .str _ => true
  | .tup xs => neatAll xs
  | .lst xs => neatAll xs
  | .dct kvs => neatK kvs
  | _ => false
def neatAll : List D → Bool
  | [] => true
  | x :: xs => x.neat && neatAll xs
def neatK : List (K1 × D) → Bool
  | [] => true
  | x :: xs => neatKey x.1 && x.2.neat && neatK xs
end
def reprT (d : D) : Tx := d.dat.shown.cps.toList
def KeyDat (k : K1) : PyData := match k with
  | .inl i => .int i
  | .inr s => .str ⟨s.toArray⟩
theorem datK_keys : ∀ ds : List (K1 × D), (datK ds).map (·.1) = ds.map fun q => KeyDat q.1
  | [] => by simp [datK]
  | x :: xs => by
    simp only [datK, List.map_cons, datK_keys xs]
    rfl
theorem datK_vals : ∀ ds : List (K1 × D), (datK ds).map (·.2) = datAll (ds.map (·.2))
  | [] => by simp [datK, datAll]
  | x :: xs => by simp only [datK, List.map_cons, datK_vals xs, datAll]
section
variable {X : Cx} {W : Wd} {pins : List (Addr × Obj)} {σ : L2.St} {H : Hp} {s : Shared} {Z ρ : List Addr}
def Nest (X : Cx) (s : Shared) (u : Value) (p : PyData) : Prop := ∃ as bs, Reads s.heap u p as ∧ ReadAtMost s.heap p.depth bs ∧ ReprK X.prog X.w bs s.heap p.depth u p.shown
def NestAll (X : Cx) (s : Shared) (us : List Value) (ps : List PyData) : Prop := ∃ as bs, ReadsAll s.heap us ps as ∧ ReadAtMost s.heap (PyData.depthAll ps) bs ∧ ReprAllK X.prog X.w bs s.heap (PyData.depthAll ps) us (PyData.shownAll ps)
theorem NestAll.nil : NestAll X s [] [] := ⟨[], [], .nil, (fun _ h => nomatch h), by simp only [PyData.shownAll]; exact .nil⟩
theorem NestAll.cons {u : Value} {us : List Value} {p : PyData} {ps : List PyData} (h : Nest X s u p) (t : NestAll X s us ps) : NestAll X s (u :: us) (p :: ps) := by
  obtain ⟨as, bs, r1, m1, k1⟩ := h
  obtain ⟨as', bs', r2, m2, k2⟩ := t
  refine ⟨as ++ as', bs ++ bs', .cons r1 r2, ?_, ?_⟩
  · simp only [PyData.depthAll]
    exact (m1.mono (Nat.le_max_left _ _)).append (m2.mono (Nat.le_max_right _ _))
  · simp only [PyData.depthAll, PyData.shownAll]
    exact .cons ((k1.more fun b hb => List.mem_append_left _ hb).level_le (Nat.le_max_left _ _)) (k2.more_le (fun b hb => List.mem_append_right _ hb) (Nat.le_max_right _ _))
theorem nest_key {k : K1} {u : Value} (h : keyIs (keyS k) u = true) (hn : neatKey k = true) (hz : (KeyDat k).shown.length ≤ sizeLine) : Nest X s u (KeyDat k) := by
  rcases keyIs_shape h with ⟨i, t, e, rfl⟩ | ⟨x, t, e, rfl⟩
  · cases k with
    | inr y => cases e
    | inl j =>
      cases e
      refine ⟨[], [], .int _ t, (fun _ h => nomatch h), ?_⟩
      simp only [KeyDat, PyData.shown]
      exact .of_is (ReprIs.int t (by simpa [neatKey] using hn)) _ _ _
  · cases k with
    | inl y => cases e
    | inr y =>
      cases e
      refine ⟨[], [], .str _ t, (fun _ h => nomatch h), ?_⟩
      simp only [KeyDat, PyData.shown, toS]
      exact .of_is (ReprIs.str _ t (by simpa only [KeyDat, PyData.shown, toS] using hz)) _ _ _
mutual
theorem nest (I : Inv X pins σ H s) : ∀ {d : D} {v : V}, RD W Z ρ H d v → d.neat = true → d.dat.shown.length ≤ sizeLine → X.K = W.K → ∀ u, RelV v u → Nest X s u d.dat
  | _, _, .non, _, _, _, _, r => by
    cases r
    exact ⟨[], [], by simp only [D.dat]; exact .none, fun _ h => (nomatch h), by simp only [D.dat, PyData.shown]; exact .of_is ReprIs.none _ _ _⟩
  | _, _, .bl b, _, _, _, _, r => by
    cases r
    exact ⟨[], [], by simp only [D.dat]; exact .bool b, fun _ h => (nomatch h), by simp only [D.dat, PyData.shown]; exact .of_is (ReprIs.bool b) _ _ _⟩
  | _, _, .int i, h, _, _, _, r => by
    obtain ⟨t, rfl⟩ := r
    exact ⟨[], [], by simp only [D.dat]; exact .int i t, fun _ h => (nomatch h), by simp only [D.dat, PyData.shown]; exact .of_is (ReprIs.int t (by simpa [D.neat] using h)) _ _ _⟩
  | _, _, .str x, _, hz, _, _, r => by
    obtain ⟨t, rfl⟩ := r
    refine ⟨[], [], by simp only [D.dat]; exact .str _ t, fun _ h => (nomatch h), ?_⟩
    simp only [D.dat, PyData.shown] at hz ⊢
    exact .of_is (ReprIs.str _ t hz) _ _ _
  | _, _, .tup (a := a) (ds := ds) _ _ q t, h, hz, hK, _, r => by
    cases r
    simp only [D.dat, PyData.shown] at hz
    obtain ⟨its, rv, ⟨o, ho, hc, n, hd⟩, _⟩ := I.tuple (show SqT X.K H a _ from .inl q.rd)
    obtain ⟨as, bs, r1, m1, k1⟩ := nestAll I t (by simpa [D.neat] using h) (fun z hz' => Nat.le_trans (tupleText_mem_le hz') hz) hK its rv
    have rd : Reads s.heap (.ref a) (.tuple (datAll ds)) _ := .tuple ho hc hd r1
    have hna : a ∉ bs := not_mem_of_deeper rd (by simp only [PyData.depth]; omega) m1
    refine ⟨_, a :: bs, by simp only [D.dat]; exact rd, by simp only [D.dat]; exact ReadAtMost.cons rd (by simp only [PyData.depth]; omega) m1, ?_⟩
    simp only [D.dat, PyData.depth, PyData.shown]
    exact ReprK.tuple ho hc hd hna k1
  | _, _, .tupK (a := a) (ds := ds) q t, h, hz, hK, _, r => by
    cases r
    simp only [D.dat, PyData.shown] at hz
    obtain ⟨its, rv, ⟨o, ho, hc, n, hd⟩, _⟩ := I.tuple (.inr (hK ▸ q))
    obtain ⟨as, bs, r1, m1, k1⟩ := nestAll I t (by simpa [D.neat] using h) (fun z hz' => Nat.le_trans (tupleText_mem_le hz') hz) hK its rv
    have rd : Reads s.heap (.ref a) (.tuple (datAll ds)) _ := .tuple ho hc hd r1
    have hna : a ∉ bs := not_mem_of_deeper rd (by simp only [PyData.depth]; omega) m1
    refine ⟨_, a :: bs, by simp only [D.dat]; exact rd, by simp only [D.dat]; exact ReadAtMost.cons rd (by simp only [PyData.depth]; omega) m1, ?_⟩
    simp only [D.dat, PyData.depth, PyData.shown]
    exact ReprK.tuple ho hc hd hna k1
  | _, _, .lst (a := a) (ds := ds) _ _ q t, h, hz, hK, _, r => by
    cases r
    simp only [D.dat, PyData.shown] at hz
    obtain ⟨its, rv, ⟨o, n, ho, hc, _, hd⟩, _⟩ := I.list (SqL.of (K := X.K) q)
    obtain ⟨as, bs, r1, m1, k1⟩ := nestAll I t (by simpa [D.neat] using h) (fun z hz' => Nat.le_trans (listText_mem_le hz') hz) hK its rv
    have rd : Reads s.heap (.ref a) (.list (datAll ds)) _ := .list ho hc hd r1
    have hna : a ∉ bs := not_mem_of_deeper rd (by simp only [PyData.depth]; omega) m1
    refine ⟨_, a :: bs, by simp only [D.dat]; exact rd, by simp only [D.dat]; exact ReadAtMost.cons rd (by simp only [PyData.depth]; omega) m1, ?_⟩
    simp only [D.dat, PyData.depth, PyData.shown]
    cases its with
    | nil =>
      cases rv
      cases t
      simp only [datAll, PyData.shownAll, listText_nil]
      exact (ReprK.listEmpty ho hc hd).more fun b hb => hb
    | cons y l => exact ReprK.list ho hc hd hna (by simpa using k1.length_eq) (fun i y e => k1.item i y (by simpa using e))
  | _, _, .dct (a := a) (kds := ds) _ _ q t, h, hz, hK, _, r => by
    cases r
    simp only [D.dat, PyData.shown] at hz
    obtain ⟨_, hsys, vs, kv, o, es, ep, ho, hx, hd, _, hp, _⟩ := dk_rd I.hok q
    obtain ⟨⟨as, bs, r1, m1, k1⟩, ⟨cs, ds', r2, m2, k2⟩⟩ := nestK I t (by simpa [D.neat] using h)
      (fun z hz' => let ⟨p, hp, hl⟩ := PyData.shownKv_key_le _ z (by rw [datK_keys]; exact hz'); Nat.le_trans hl (Nat.le_trans (dictText_mem_le hp) hz))
      (fun z hz' => let ⟨p, hp, hl⟩ := PyData.shownKv_val_le _ z (by rw [datK_vals]; exact hz'); Nat.le_trans hl (Nat.le_trans (dictText_mem_le hp) hz)) hK kv hp
    have rd : Reads s.heap (.ref a) (.dict (datK ds)) _ := .dict ho hx.1 hd (by rw [datK_keys]; exact r1) (by rw [datK_vals]; exact r2)
    rw [← datK_keys] at m1 k1
    rw [← datK_vals] at m2 k2
    have mm : ReadAtMost s.heap (PyData.depthKv (datK ds)) (bs ++ ds') := (m1.mono (PyData.depthAll_keys_le _)).append (m2.mono (PyData.depthAll_vals_le _))
    have hna : a ∉ bs ++ ds' := not_mem_of_deeper rd (by simp only [PyData.depth]; omega) mm
    refine ⟨_, a :: (bs ++ ds'), by simp only [D.dat]; exact rd, by simp only [D.dat]; exact ReadAtMost.cons rd (by simp only [PyData.depth]; omega) mm, ?_⟩
    simp only [D.dat, PyData.depth, PyData.shown, PyData.shownKv_eq]
    exact ReprK.dict ho hx.1 hd hsys hna (ReprEntriesK.of_two es.toList _ _ (k1.more_le (fun b hb => List.mem_append_left _ hb) (PyData.depthAll_keys_le _)) (k2.more_le (fun b hb => List.mem_append_right _ hb) (PyData.depthAll_vals_le _)))
  | _, _, .obj _ _ _ _, h, _, _, _, _ => by simp [D.neat] at h
  | _, _, .ref _, h, _, _, _, _ => by simp [D.neat] at h
  | _, _, .fn _, h, _, _, _, _ => by simp [D.neat] at h
  | _, _, .roi _, h, _, _, _, _ => by simp [D.neat] at h
theorem nestAll (I : Inv X pins σ H s) : ∀ {ds : List D} {vs : List V}, RDs W Z ρ H ds vs → neatAll ds = true → (∀ t ∈ PyData.shownAll (datAll ds), t.length ≤ sizeLine) → X.K = W.K → ∀ us, Vals vs us → NestAll X s us (datAll ds)
  | _, _, .nil, _, _, _, _, r => by
    cases r
    simp only [datAll]
    exact .nil
  | _, _, .cons r t, h, hz, hK, _, rv => by
    cases rv with
    | cons r1 r2 =>
      simp only [neatAll, Bool.and_eq_true] at h
      simp only [datAll, PyData.shownAll] at hz ⊢
      exact .cons (nest I r h.1 (hz _ List.mem_cons_self) hK _ r1) (nestAll I t h.2 (fun z hz' => hz z (List.mem_cons_of_mem _ hz')) hK _ r2)
theorem nestK (I : Inv X pins σ H s) : ∀ {ds : List (K1 × D)} {vs : List (Key × V)}, RKs W Z ρ H ds vs → neatK ds = true → (∀ t ∈ PyData.shownAll (ds.map fun q => KeyDat q.1), t.length ≤ sizeLine) → (∀ t ∈ PyData.shownAll (datAll (ds.map (·.2))), t.length ≤ sizeLine) → X.K = W.K →
    ∀ {us : List (Key × Value)} {es : List DictEntry}, KV vs us → Pairs (mixKind X.prog X.w) es us → NestAll X s (es.map (·.key)) (ds.map fun q => KeyDat q.1) ∧ NestAll X s (es.map (·.val)) (datAll (ds.map (·.2)))
  | _, _, .nil, _, _, _, _, _, _, kv, hp => by
    cases kv
    cases hp
    simp only [List.map_nil, datAll]
    exact ⟨.nil, .nil⟩
  | _, _, .cons (k := k) r t, h, hz, hy, hK, _, _, kv, hp => by
    cases kv with
    | cons q kv =>
      cases hp with
      | cons h1 h2 hp =>
        simp only [neatK, Bool.and_eq_true] at h
        simp only [List.map_cons, PyData.shownAll, datAll] at hz hy ⊢
        obtain ⟨i1, i2⟩ := nestK I t h.2 (fun z hz' => hz z (List.mem_cons_of_mem _ hz')) (fun z hz' => hy z (List.mem_cons_of_mem _ hz')) hK kv hp
        obtain ⟨q1, q2⟩ := q
        refine ⟨.cons (nest_key (by have q1' := q1; simp only at q1'; rw [q1']; exact h1) h.1.1 (hz _ List.mem_cons_self)) i1, .cons (h2 ▸ nest I r h.1.2 (hy _ List.mem_cons_self) hK _ q2) i2⟩
end
theorem shows_lst (I : Inv X pins σ H s) (hK : X.K = W.K) {a : Addr} {ds : List D} {vs : List V} (q : H a = some (.lst vs)) (t : RDs W Z ρ H ds vs) (h : neatAll ds = true) (hz : (listText (PyData.shownAll (datAll ds))).length ≤ sizeLine) :
    ∃ T idr, ShowsBy X.prog X.w s.heap a (.list (datAll ds)) T idr := by
  obtain ⟨its, rv, ⟨o, n, ho, hc, _, hd⟩, _⟩ := I.list (SqL.of (K := X.K) q)
  obtain ⟨as, bs, r1, m1, k1⟩ := nestAll I t h (fun z hz' => Nat.le_trans (listText_mem_le hz') hz) hK its rv
  have rd : Reads s.heap (.ref a) (.list (datAll ds)) _ := .list ho hc hd r1
  have hna : a ∉ bs := not_mem_of_deeper rd (by simp only [PyData.depth]; omega) m1
  refine ⟨"list", "list.__repr__", PySem.F.slot_list_repr.toG, PySem.F.slot_list_str, PySem.F.slot_list_format, fun s hk => ⟨o, hk _ _ ho, hc⟩, fun A E s' Q hg hu hk hQ => ?_⟩
  simp only [PyData.depth] at hu
  simp only [PyData.shown] at hQ
  cases its with
  | nil =>
    cases rv
    cases t
    simp only [datAll, PyData.shownAll, listText_nil] at hQ
    exact call_list_repr_empty ⟨o, hk _ _ ho, hc⟩ (hk _ _ ho) hd (hQ s'.heap _ _ fun _ _ e => e)
  | cons x l => exact call_list_reprK ho hc hd hna (by simpa using k1.length_eq) (fun i y e => k1.item i y (by simpa using e)) hg (fun b _ => Clear.nil b) hu hk hQ hz
theorem shows_tup (I : Inv X pins σ H s) (hK : X.K = W.K) {a : Addr} {ds : List D} {vs : List V} (q : SqT X.K H a vs) (t : RDs W Z ρ H ds vs) (h : neatAll ds = true) (hz : (tupleText (PyData.shownAll (datAll ds))).length ≤ sizeLine) :
    ∃ T idr, ShowsBy X.prog X.w s.heap a (.tuple (datAll ds)) T idr := by
  obtain ⟨its, rv, ⟨o, ho, hc, n, hd⟩, _⟩ := I.tuple q
  obtain ⟨as, bs, r1, m1, k1⟩ := nestAll I t h (fun z hz' => Nat.le_trans (tupleText_mem_le hz') hz) hK its rv
  have rd : Reads s.heap (.ref a) (.tuple (datAll ds)) _ := .tuple ho hc hd r1
  have hna : a ∉ bs := not_mem_of_deeper rd (by simp only [PyData.depth]; omega) m1
  refine ⟨"tuple", "tuple.__repr__", PySem.F.slot_tuple_repr, PySem.F.slot_tuple_str, PySem.F.slot_tuple_format, fun s hk => ⟨o, hk _ _ ho, hc⟩, fun A E s' Q hg hu hk hQ => ?_⟩
  simp only [PyData.depth] at hu
  simp only [PyData.shown] at hQ
  exact call_tuple_reprK ho hc hd hna k1 hg (fun b _ => Clear.nil b) hu hk hQ hz
theorem shows_dct (I : Inv X pins σ H s) (hK : X.K = W.K) {a : Addr} {ds : List (K1 × D)} {vs : List (Key × V)} (q : Rd H a (.dK vs)) (t : RKs W Z ρ H ds vs) (h : neatK ds = true) (hz : (dictText (PyData.shownKv (datK ds))).length ≤ sizeLine) :
    ∃ T idr, ShowsBy X.prog X.w s.heap a (.dict (datK ds)) T idr := by
  obtain ⟨_, hsys, us, kv, o, es, ep, ho, hx, hd, _, hp, _⟩ := dk_rd I.hok q
  obtain ⟨⟨as, bs, r1, m1, k1⟩, ⟨cs, ds', r2, m2, k2⟩⟩ := nestK I t h
    (fun z hz' => let ⟨p, hp, hl⟩ := PyData.shownKv_key_le _ z (by rw [datK_keys]; exact hz'); Nat.le_trans hl (Nat.le_trans (dictText_mem_le hp) hz))
    (fun z hz' => let ⟨p, hp, hl⟩ := PyData.shownKv_val_le _ z (by rw [datK_vals]; exact hz'); Nat.le_trans hl (Nat.le_trans (dictText_mem_le hp) hz)) hK kv hp
  have rd : Reads s.heap (.ref a) (.dict (datK ds)) _ := .dict ho hx.1 hd (by rw [datK_keys]; exact r1) (by rw [datK_vals]; exact r2)
  rw [← datK_keys] at m1 k1
  rw [← datK_vals] at m2 k2
  have mm : ReadAtMost s.heap (PyData.depthKv (datK ds)) (bs ++ ds') := (m1.mono (PyData.depthAll_keys_le _)).append (m2.mono (PyData.depthAll_vals_le _))
  have hna : a ∉ bs ++ ds' := not_mem_of_deeper rd (by simp only [PyData.depth]; omega) mm
  refine ⟨"dict", "dict.__repr__", PySem.F.slot_dict_repr, PySem.F.slot_dict_str, PySem.F.slot_dict_format, fun s hk => ⟨o, hk _ _ ho, hx.1⟩, fun A E s' Q hg hu hk hQ => ?_⟩
  simp only [PyData.depth] at hu
  simp only [PyData.shown, PyData.shownKv_eq] at hQ
  exact call_dict_reprK ho hx.1 hd hsys hna (ReprEntriesK.of_two es.toList _ _ (k1.more_le (fun b hb => List.mem_append_left _ hb) (PyData.depthAll_keys_le _)) (k2.more_le (fun b hb => List.mem_append_right _ hb) (PyData.depthAll_vals_le _)))
    hg (fun b _ => Clear.nil b) hu hk hQ (by rw [← PyData.shownKv_eq]; exact hz)
end
def ownV (h : Hh) (d : D) : Option D := match d with
  | .ref n => (match h[n]? with
    | some (.lst xs) => some (.lst xs)
    | some (.dct kvs) => some (.dct kvs)
    | _ => none)
  | d => some d
def reprV (h : Hh) (d : D) : Option D := (ownV h d).bind fun e => if e.neat = true ∧ e.dat.depth ≤ 170 ∧ (reprT e).length ≤ line then some (.str (reprT e)) else none
section
variable {X : Cx} {W : Wd}
theorem cl_repr (hK : X.K = W.K) (hu : X.A.units + 190 < cLine) (hg : X.A.guards = some []) : CallR X (.builtin "repr") (r1 W reprV) := by
  intro pins s σ H xs us Q I rv ⟨Z, ρ, h, d, r, v, hx, S, rd, e, hA⟩
  subst hx
  obtain ⟨u, rfl, ru⟩ := vals1 rv
  simp only [reprV, Option.bind_eq_some_iff] at e
  obtain ⟨d', e1, e2⟩ := e
  split at e2
  case isFalse => cases e2
  case isTrue hc =>
  cases e2
  obtain ⟨c1, c2, c3⟩ := hc
  have c3' : d'.dat.shown.length ≤ sizeLine := by
    rw [line_eq] at c3
    have : (reprT d').length = d'.dat.shown.length := by simp [reprT, Str.length]
    omega
  have fin : ∀ (s' : Shared) (t : Tok), Inv X pins σ H s' → EP X pins σ Q (.str d'.dat.shown t) s' := fun s' t I' => by
    refine ⟨.str d'.dat.shown, H, I', ⟨t, rfl⟩, ?_⟩
    have := hA.now S (v := .str (toS (reprT d'))) (.str _)
    rwa [reprT, toS_of] at this
  have cont : ∀ {a : Addr} {p : PyData}, p = d'.dat → (∃ T idr, ShowsBy X.prog X.w s.heap a p T idr) → wpAny (model X.prog X.w) X.A (call (.builtin "repr") [.ref a]) (EP X pins σ Q) X.xe s := by
    rintro a p rfl ⟨T, idr, B⟩
    exact call_repr_slot (by omega) (B.typeIs s fun _ _ e => e) B.slotRepr (B.call X.A.in1 X.xe s _ hg (by show X.A.units + 1 + _ < cLine; omega) (fun _ _ e => e) fun h' u tk hk => ⟨_, _, rfl, fin _ u (I.kept hk)⟩)
  have rd0 := rd
  cases rd
  case ref a n en =>
    cases ru
    simp only [ownV] at e1
    cases eo : h[n]? with
    | none => rw [eo] at e1; cases e1
    | some o =>
      rw [eo] at e1
      have q := S.obj n o a eo en
      cases o <;> dsimp only at e1 <;> cases e1
      · cases q with | lst q t => exact cont (by simp only [D.dat]) (shows_lst I hK q t (by simpa [D.neat] using c1) (by simpa only [D.dat, PyData.shown] using c3'))
      · cases q with | dct q t => exact cont (by simp only [D.dat]) (shows_dct I hK (.inl q) t (by simpa [D.neat] using c1) (by simpa only [D.dat, PyData.shown] using c3'))
  all_goals
    simp only [ownV, Option.some.injEq] at e1
    subst e1
  case non => cases ru; simp only [D.dat, PyData.shown] at fin; exact PySem.P.repr_of_none (fin _ _ (I.tok _))
  case bl b => cases ru; simp only [D.dat, PyData.shown] at fin; exact PySem.P.repr_of_bool (fin _ _ (I.tok _))
  case int i => obtain ⟨t, rfl⟩ := ru; simp only [D.dat, PyData.shown] at fin; exact PySem.P.repr_of_int (by simpa [D.neat] using c1) (fin _ _ (I.tok _))
  case str x => obtain ⟨t, rfl⟩ := ru; simp only [D.dat, PyData.shown] at fin c3'; exact PySem.P.repr_of_str (fin _ _ (I.tok _)) c3'
  case tup a ds vs z ra q t => cases ru; exact cont (by simp only [D.dat]) (shows_tup I hK (.inl q.rd) t (by simpa [D.neat] using c1) (by simpa only [D.dat, PyData.shown] using c3'))
  case tupK a ds vs q t => cases ru; exact cont (by simp only [D.dat]) (shows_tup I hK (.inr (hK ▸ q)) t (by simpa [D.neat] using c1) (by simpa only [D.dat, PyData.shown] using c3'))
  case lst a ds vs z ra q t => cases ru; exact cont (by simp only [D.dat]) (shows_lst I hK q t (by simpa [D.neat] using c1) (by simpa only [D.dat, PyData.shown] using c3'))
  case dct a ds vs z ra q t => cases ru; exact cont (by simp only [D.dat]) (shows_dct I hK q t (by simpa [D.neat] using c1) (by simpa only [D.dat, PyData.shown] using c3'))
  all_goals simp [D.neat] at c1
end
end Fw
end
section
set_option Elab.async false
set_option maxHeartbeats 1000000
namespace Fw
open PySem PySem.Spec PyProof.Rows L2
def strV (_ : Hh) (d : D) : Option D := match d with
  | .int i => if i.natAbs.log2 < 1920 then some (.str (toString i : Str).cps.toList) else none
  | .str s => some (.str s)
  | _ => none
def intV (h : Hh) (d : D) : Option D := match d with
  | .str s => if s.length ≤ 640 then (PySem.intText? (toS s)).map .int else none
  | d => intD h d
section
variable {X : Cx} {W : Wd}
theorem cl_str : CallR X (.type "str") (r1 W strV) := by
  intro pins s σ H xs us Q I rv ⟨Z, ρ, h, d, r, v, hx, S, rd, e, hA⟩
  subst hx
  cases d <;> simp only [strV] at e <;> first | (cases e; done) | skip
  · split at e
    · rename_i hl
      cases e
      cases rd
      have := hA.now S (.str _)
      rw [toS_of] at this
      exact call_str_int pins s σ H _ us Q I rv ⟨_, rfl, hl, this⟩
    · cases e
  · cases e
    cases rd
    exact SkE.call_str_str pins s σ H _ us Q I rv ⟨_, rfl, hA.now S (.str _)⟩
theorem cl_intV : CallR X (.type "int") (r1 W intV) := by
  intro pins s σ H xs us Q I rv ⟨Z, ρ, h, d, r, v, hx, S, rd, e, hA⟩
  by_cases ht : ∃ t, d = .str t
  · obtain ⟨t, rfl⟩ := ht
    subst hx
    simp only [intV] at e
    split at e
    · rename_i hl
      obtain ⟨n, e1, rfl⟩ := Option.map_eq_some_iff.mp e
      cases rd
      exact call_int_str pins s σ H _ us Q I rv ⟨_, n, rfl, e1, by rw [toS_len]; exact hl, hA.now S (.int _)⟩
    · cases e
  · have e' : intD h d = some r := by
      rw [← e]
      cases d <;> first | rfl | exact absurd ⟨_, rfl⟩ ht
    exact cl_int pins s σ H xs us Q I rv ⟨Z, ρ, h, d, r, v, hx, S, rd, e', hA⟩
end
section
variable {X : Cx} {W : Wd} {wx : WX} {a b c : Expr} {fa fb fc : TM} {x : Str}
end
section
variable {X : Cx} {W : Wd} {wx : WX} {a e : Expr} {fa : TM} {x : Str} {pos p p2 : Pos} {tab : List (Tx × Nat)} {d : Addr} {es : List Expr} {as : AM} {k i : Nat}
end
end Fw
end
section
set_option Elab.async false
set_option maxHeartbeats 1000000
namespace Fw
open PySem PySem.Spec PyProof.Rows L2
section
variable {X : Cx} {W : Wd}
end
end Fw
end
section
set_option Elab.async false
set_option maxHeartbeats 1000000
namespace Fw
open PySem PySem.Spec PyProof.Rows L2
section
variable {X : Cx} {W : Wd} {wx : WX}
end
section
variable {X : Cx} {W : Wd} {wx : WX} {a : Expr} {fa : TM} {pos : Pos}
inductive JsJ (X : Cx) (W : Wd) (wx : WX) : List Expr → List TM → Prop where
  | nil : JsJ X W wx [] []
  | cons {e : Expr} {f : TM} {es : List Expr} {fs : List TM} (h : EJ X W wx e f) (r : JsJ X W wx es fs) : JsJ X W wx (e :: es) (f :: fs)
end
section
variable {prog : Program} {w : World} {A : Around} {E : Value → Shared → Prop} {s : Shared}
end
section
variable {X : Cx} {pos : Pos}
end
section
variable {X : Cx} {W : Wd} {wx : WX} {e tg : Expr} {fe : TM} {pos : Pos}
end
end Fw
end
section
set_option Elab.async false
set_option maxHeartbeats 1000000
namespace Fw
open PySem PySem.Spec PyProof.Rows L2
structure RaK (K : PySem.W.Frag) (C : Addr) : Prop where
  x : PySem.W.excIn K C [.type "ValueError", .type "Exception", .type "BaseException", .type "object"] "ValueError.__new__" = true
  k : PySem.W.keepIn K (.ref C) = true
  b : PySem.W.subIn K (.ref C) (.type "BaseException") = some true
  t : PySem.W.typeIn K (.ref C) = some (.type "type")
theorem isB_ok {K : PySem.W.Frag} {D : Addr} (h : isB K D = true) : ExcC K D := by
  simp only [isB, Bool.and_eq_true, beq_iff_eq] at h
  obtain ⟨⟨⟨⟨⟨⟨⟨h1, h2⟩, h3⟩, h4⟩, h5⟩, h6⟩, h7⟩, h8⟩ := h
  exact ⟨h1, h2, h3, h4, h5, h6, h7, h8⟩
section
variable {X : Cx} {W : Wd} {wx : WX} {e : Expr} {fe : TM} {x : Str} {p pos pos' : Pos}
end
section
variable {X : Cx} {W : Wd} {wx : WX} {e : Expr} {b : SM} {body : List Stmt} {x n : Str} {c : Value} {i : Nat} {known cs : List Nat} {f : Exn → Hh → Option D} {np pos pos' p3 : Pos}
end
section
variable {X : Cx} {W : Wd} {known : List Nat} {i : Nat} {a : Addr} {oe : Obj} {cls : Value} {dd : Option Addr} {pn : List (Addr × Obj)} {f g : Exn → Hh → Option D} {pos : Pos}
variable {p pe : Pos} {n : Str} {ce : Expr} {cv : V} {u : Value} {l : List Nat}
variable {c2 : Expr} {cv2 : V} {u2 : Value} {l2 : List Nat} {ctx : Nat} {tpos : Pos}
end
end Fw
end
section
set_option Elab.async false
set_option maxHeartbeats 1000000
namespace Fw
open PySem PySem.Spec PyProof.Rows L2
section
variable {X : Cx} {W : Wd} {wx : WX} {a b c : Expr} {fa fb fc : TM} {pos : Pos}
def inD (h : Hh) (a b : D) : Option Bool := (asLst h b).bind fun xs => if a.flat 60 && (D.lst xs).flat 60 then some (xs.any fun y => y.eqv a) else none
theorem any_py {a : D} (ha : a.flat 60 = true) : ∀ {n : Nat} {xs : List D}, flatAll n xs = true → (pyAll xs).any (fun z => PyData.eqv z a.py) = xs.any fun y => y.eqv a
  | n, [], _ => rfl
  | n, x :: xs, h => by
    simp only [flatAll, Bool.and_eq_true] at h
    simp only [pyAll, List.any_cons, flat_eqv n 60 x a h.1 ha, any_py ha h.2]
end
section
variable {X : Cx} {W : Wd} {wx : WX} {a b : Expr} {fa fb : TM} {x : Str} {d : Addr} {tab : List (Tx × Int)} {p apos cpos : Pos}
end
section
variable {X : Cx} {W : Wd} {wx : WX} {x : Str} {pos : Pos}
end
end Fw
end
section
set_option Elab.async false
set_option maxHeartbeats 1000000
namespace Fw
open PySem PySem.Spec PyProof.Rows L2
section
variable {X : Cx} {W : Wd} {wx : WX} {a b c : Expr} {fs : AM} {pos : Pos}
end
end Fw
end
section
set_option Elab.async false
set_option maxHeartbeats 1000000
namespace Fw
open PySem PySem.Spec PyProof.Rows L2
section
variable {X : Cx} {e : Expr} {es : List Expr} {ta : L2.TA} {x : Str} {B : Addr} {p1 p2 pos : Pos}
theorem pe_binit {pl : Sem Bool} (hg : Gl X x) (hm : X.mg x = some (.ref B)) (rd : PySem.W.readsIn X.K B (.type "type") = true) (sp : PySem.W.specialIn X.K (.ref B) "__getattribute__" = some (some (.builtin "type.__getattribute__")))
    (fc : PySem.W.findCls X.K (.ref B) (.type "type") "__init__" = some (.val (.builtin "ValueError.__init__"))) (ha : PA X (e :: es) ta) (hdb : (x == ("__debug__" : Str)) = false := by decide)
    (hc : eval (.Call (.Attribute (.Name x p1) "__init__" p2) (e :: es) [] pos) X.env = (do
      let ov ← eval (.Name x p1) X.env
      standAt p2.atName
      let (f, first) ← holding [ov] (getMethod ov "__init__" pl)
      callWith pos f first (backTo pos (starEach (e :: es) X.env)) (backToKw pos (keywordEach [] X.env))) := by rfl)
    (he : starEach (e :: es) X.env = (false, eval e X.env) :: starEach es X.env := by rfl) (hpl : (backTo pos (starEach es X.env)).any (·.1) = false := by rfl) :
    PE X (.Call (.Attribute (.Name x p1) "__init__" p2) (e :: es) [] pos) (tVeI X.K ta) := by
  refine ⟨fun pins s σ H Q I h => ?_⟩
  refine PySem.W.methodCall_KW (ld_glob I hg hm ?_ hdb) hc
  refine PySem.W.method_cls I.kIn sp (PySem.W.cls_value I.kIn rd fc (by decide +kernel) ?_)
  show wpAny _ _ (callWith pos (Value.builtin "ValueError.__init__") [] (backTo pos (starEach (e :: es) X.env)) []) _ _ _
  refine PyProof.Rows.callWith_method1 (thn (ha.run pos pins _ σ H _ (I.tok _) h) fun us s1 ⟨vs, H1, I1, r1, a, C, ws, ev, hl, T, ea, q⟩ => ?_) he hpl
  subst ev
  cases r1 with
  | @cons _ u0 _ ur ra rw' =>
    obtain rfl : u0 = Value.ref a := ra
    have hlen : ur.length ≤ sizeLine := by
      rw [← Paired.length rw', sizeLine_eq]
      omega
    exact oinit_ok T I1 ea hlen fun s' J => ⟨.non, H1, J, rfl, q⟩
end
end Fw
end
section
set_option Elab.async false
set_option maxHeartbeats 1000000
namespace Fw
open PySem PySem.Spec PyProof.Rows L2
def spI (C : Addr) (f : Str) : Sp := fun vs H Q _ => ∃ a y, vs = [V.ref a, y] ∧ H a = some (exo a C none) ∧ ∀ dx, H dx = none → dx ≠ a → Q .non (upd (upd H dx (exd dx [(f, y)])) a (exo a C (some dx)))
theorem spI_len {C : Addr} {f : Str} : ∀ vs H Q E, spI C f vs H Q E → vs.length = 2 := by
  rintro vs H Q E ⟨a, y, rfl, _⟩
  rfl
theorem init_body {X : Cx} {s1 s2 : Stmt} {m f : Str} {C : Addr} (T : OexC X.K C) (hno : PySem.W.findIn X.K (.ref C) f = some none)
    (h1 : PS X s1 (tDrop (tVeI X.K (tCons (tVar 0) (tCons (tC (.str m)) tNil))))) (h2 : PS X s2 (tOst X.K f (tVar 0) (tVar 1))) :
    ∃ t, PSs X [s1, s2] t ∧ ∀ (vs : List V) (H : Hp) (Q : VK) (E : XK), spI C f vs H Q E → t { nx := fun _ H' => Q .non H', rt := Q } (vs.map some) H := by
  refine ⟨_, pss_cons h1 (pss_cons h2 pss_nil), ?_⟩
  rintro vs H Q E ⟨a, y, rfl, ha, q⟩
  exact ⟨.ref a, rfl, a, C, [.str m], rfl, by show 1 ≤ 1000; decide, T, ha, y, rfl, .ref a, rfl, a, C, rfl, T, hno, .inl ⟨ha, fun dx n ne => q dx n ne⟩⟩
section
variable {X : Cx} {W : Wd} {wx : WX} {e : Expr} {fe : TM} {x : Str} {p pos pos' : Pos}
end
end Fw
end
section
set_option Elab.async false
set_option maxHeartbeats 1000000
namespace Fw
open PySem PySem.Spec PyProof.Rows L2
theorem oxB_ok {K : PySem.W.Frag} {C : Addr} (h : oxB K C = true) : ∃ nm q N bs bm sn sub ab col dd k0 k1 k2 k3 k5, K.lookup C = some (excClassObj nm q C N bs bm true sn sub ab col dd k0 k1 k2 k3 k5 "ValueError.__new__") ∧ PySem.HandSPX.refsVE bm = true := by
  unfold oxB at h
  split at h
  · rename_i t dd cd sl ho
    split at h
    · rename_i C' bm k0 k1 k2 k3 n k5 hm hs
      simp only [Bool.and_eq_true, beq_iff_eq, Bool.not_eq_true'] at h
      obtain ⟨⟨⟨⟨⟨rfl, rfl⟩, rfl⟩, hdel⟩, hdi⟩, hr⟩ := h
      obtain ⟨nm, bs, mro, ns, qn, hd, sn, sub, ab, col, del⟩ := cd
      dsimp only at hm hdel hdi
      subst hm hdel hdi
      have hsl : sl = #[k0, k1, k2, k3, some (.builtin "ValueError.__new__"), k5] := by
        obtain ⟨l⟩ := sl
        simp only at hs
        rw [hs]
      subst hsl
      exact ⟨nm, qn, ns, bs, bm, sn, sub, ab, col, dd, k0, k1, k2, k3, k5, ho, hr⟩
    · cases h
  · cases h
theorem oexB_ok {K : PySem.W.Frag} {C : Addr} (h : oexB K C = true) : OexC K C := by
  simp only [oexB, Bool.and_eq_true, beq_iff_eq] at h
  exact ⟨oxB_ok h.1.1.1.1, h.1.1.1.2, h.1.1.2, h.1.2, h.2⟩
section
variable {X : Cx} {W : Wd} {known : List Nat} {i : Nat} {a : Addr} {oe : Obj} {cls : Value} {dd : Option Addr} {pn : List (Addr × Obj)} {f g : Exn → Hh → Option D} {pos : Pos}
end
end Fw
end
section
set_option Elab.async false
set_option maxHeartbeats 1000000
namespace Fw
open PySem PySem.Spec PyProof.Rows L2
section
variable {X : Cx} {W : Wd} {wx : WX} {a b : Expr} {fa fb : TM} {pos : Pos}
end
theorem fcB_ok {K : PySem.W.Frag} {B : Addr} (h : fcB K B = true) : PySem.W.findCls K (.ref B) (.type "type") "__init__" = some (.val (.builtin "ValueError.__init__")) := by
  unfold fcB at h
  split at h
  · rename_i v e
    rw [e, eq_of_beq h]
  · cases h
end Fw
end
section
set_option Elab.async false
set_option maxHeartbeats 1000000
namespace Fw
open PySem PySem.Spec PyProof.Rows L2
theorem init_fin {X : Cx} {body : List Stmt} {s1 s2 : Stmt} {m f : Str} {C : Addr} {vs : List V} {H : Hp} {Q : VK} {E : XK} {σ0 : List (Option V)} (hb : body = [s1, s2]) (hsp : spI C f vs H Q E) (hσ : σ0 = vs.map some)
    (T : OexC X.K C) (hno : PySem.W.findIn X.K (.ref C) f = some none)
    (h1 : PS X s1 (tDrop (tVeI X.K (tCons (tVar 0) (tCons (tC (.str m)) tNil))))) (h2 : PS X s2 (tOst X.K f (tVar 0) (tVar 1))) :
    ∃ t, PSs X body t ∧ t { nx := fun _ H' => Q .non H', rt := Q } σ0 H := by
  subst hb hσ
  obtain ⟨t, g1, g2⟩ := init_body T hno h1 h2
  exact ⟨t, g1, g2 vs H Q E hsp⟩
end Fw
end
section
set_option Elab.async false
set_option maxHeartbeats 1000000
namespace Fw
open PySem PySem.Spec PyProof.Rows L2
section
variable {X : Cx} {W : Wd} {wx : WX} {tg e : Expr} {f : TM}
end
section
variable {X : Cx} {W : Wd} {wx : WX} {tg iter elt : Expr} {ifs : List Expr} {scope : Scope} {own : List (Str × Nat)} {pos : Pos} {f fs : TM} {gb : BM} {it : It} {g : G}
end
section
variable {X : Cx} {W : Wd} {Z ρ : List Addr} {H : Hp}
end
section
variable {X : Cx} {W : Wd} {wx : WX} {a : Expr} {fa : TM} {x : Str}
end
end Fw
end
section
set_option Elab.async false
set_option maxHeartbeats 1000000
namespace Fw
open PySem PySem.Spec PyProof.Rows L2
section
variable {W : Wd} {Z ρ : List Addr} {h : Hh} {H : Hp}
end
section
variable {X : Cx} {W : Wd} {wx : WX} {a b c : Expr} {fa fb fc : TM} {apos cpos : Pos}
end
section
variable {W : Wd} {Z ρ ρ' : List Addr} {H H' Hc : Hp} {D : Addr} {h h' : Hh} {o : HO}
end
section
variable {X : Cx} {W : Wd} {wx : WX} {pos : Pos}
inductive PsJ (X : Cx) (W : Wd) (wx : WX) : List (Option Expr) → List Expr → List (TM × TM) → Prop
  | nil : PsJ X W wx [] [] []
  | cons {k v : Expr} {ks : List (Option Expr)} {vs : List Expr} {fk fv : TM} {fs : List (TM × TM)} : EJ X W wx k fk → EJ X W wx v fv → PsJ X W wx ks vs fs → PsJ X W wx (some k :: ks) (v :: vs) ((fk, fv) :: fs)
theorem PsJ.all {ks : List (Option Expr)} {vs : List Expr} {fs : List (TM × TM)} (h : PsJ X W wx ks vs fs) : ks.all (·.isSome) = true ∧ ks.length = vs.length ∧ ks.length = fs.length := by
  induction h with
  | nil => exact ⟨rfl, rfl, rfl⟩
  | cons _ _ _ ih => exact ⟨by simpa using ih.1, by simp [ih.2.1], by simp [ih.2.2]⟩
end
def eInD (a b : TM) : TM := fun σ h => (a σ h).bind fun d h => (b σ h).bind fun e h => opt ((inD h d e).map .bl) h
section
variable {X : Cx} {W : Wd} {wx : WX} {a b : Expr} {fa fb : TM} {pos : Pos}
theorem ej_inD (J : Jc X W wx) (ha : EJ X W wx a fa) (hb : EJ X W wx b fb) (hm : behindInMarks .In b = false := by with_unfolding_all rfl) : EJ X W wx (.Compare a [.In] [b] pos) (eInD fa fb) :=
  ⟨fun pins s σ H Q I ⟨Z, ρ, σd, h0, S, rs, p⟩ => (pe_cmpR (op_inD (by have := J.hu2; omega)) ha hb hm).run pins s σ H Q I
    ⟨Z, ρ, σd, h0, S, rs, (Post.bind p).imp fun d ρ1 h1 H1 x1 S1 p1 v rv =>
      ⟨Z, ρ1, σd, h1, S1, rs.mono x1, (Post.bind p1).imp fun e ρ2 h2 H2 x2 S2 p2 u ru => by
        obtain ⟨r, e1, hA⟩ := post_opt p2
        simp only [Option.map_eq_some_iff, inD, Option.bind_eq_some_iff] at e1
        obtain ⟨rb, ⟨xs, e2, e3⟩, rfl⟩ := e1
        split at e3
        · rename_i hc
          cases e3
          rw [Bool.and_eq_true] at hc
          obtain ⟨a', vs, rfl, q1, t⟩ := asLst_ok S2 ru e2
          have hl : flatAll 59 xs = true := by simpa [D.flat] using hc.2
          have dl : Dp X.K H2 (.ref a') (D.lst xs).py := by
            rw [J.hK]
            simp only [D.py]
            exact .lst (SqL.of q1) (flat_dps 59 hl t)
          have dd : Dp X.K H2 v d.py := by
            rw [J.hK]
            exact flat_dp 60 hc.1 (rv.mono x2)
          refine ⟨d.py, pyAll xs, dd, by simpa [D.py] using dl, flat_shaped hc.1, by simpa [D.py] using flat_shaped (d := .lst xs) hc.2, ?_⟩
          rw [any_py hc.1 hl]
          exact hA.now S2 (.bl _)
        · cases e3⟩⟩⟩
end
end Fw
end
section
namespace Fw
open PySem PySem.Spec PyProof.Rows L2
section
variable {X : Cx} {W : Wd} {wx : WX} {a b : Expr} {fa fb : TM}
end
end Fw
end
section
set_option Elab.async false
set_option maxHeartbeats 1000000
namespace Fw
open PySem PySem.Spec PyProof.Rows L2
section
variable {X : Cx} {W : Wd} {wx : WX} {a b : Expr} {fa fb : TM}
end
end Fw
end
section
set_option Elab.async false
set_option maxHeartbeats 1000000
namespace Fw
open PySem PySem.Spec PyProof.Rows L2
section
variable {X : Cx}
end
section
variable {X : Cx} {W : Wd}
end
section
variable {X : Cx} {W : Wd}
end
section
variable {X : Cx} {W : Wd} {wx : WX}
end
section
variable {X : Cx} {W : Wd} {known : List Nat} {i : Nat} {a : Addr} {oe : Obj} {cls : Value} {dd : Option Addr} {pn : List (Addr × Obj)} {f g : Exn → Hh → Option D} {pos : Pos}
variable {p pe : Pos} {n : Str} {ce : Expr} {cv : V} {u : Value} {l : List Nat}
end
section
variable {X : Cx} {W : Wd} {wx : WX} {e tc : Expr} {b : SM} {body : List Stmt} {x n : Str} {c : Value} {i : Nat} {known cs : List Nat} {t f : Exn → Hh → Option D} {np pos pos' p3 p4 : Pos}
end
end Fw
end
section
set_option Elab.async false
set_option maxHeartbeats 1000000
namespace Fw
open PySem PySem.Spec PyProof.Rows L2
def keysT : List D → Option (List K1)
  | [] => some []
  | d :: ds => (key1 d).bind fun k => (keysT ds).map (k :: ·)
def lookT (k : List K1) : List (List K1 × D) → Option D
  | [] => none
  | q :: r => if q.1 = k then some q.2 else lookT k r
section
variable {W : Wd} {Z ρ : List Addr} {H : Hp}
end
def getT (h : Hh) (d : D) (ds : List D) : Option D := match d with
  | .ref n => match h[n]? with
    | some (.dtu kvs) => if ds.length ≤ 100 then (keysT ds).map fun k => (lookT k kvs).getD .non else none
    | _ => none
  | _ => none
section
variable {X : Cx} {W : Wd} {wx : WX} {a e : Expr} {es : List Expr} {fa f : TM} {fs : AM} {pos : Pos}
end
section
variable {X : Cx} {W : Wd} {wx : WX} {b : SM} {body : List Stmt} {x n : Str} {c : Value} {i j : Nat} {v : Bool} {known cs : List Nat} {np pos pos' p1 p2 p3 : Pos}
end
end Fw
end
section
set_option Elab.async false
set_option maxHeartbeats 1000000
namespace Fw
open PySem PySem.Spec PyProof.Rows L2
section
variable {W : Wd} {Z ρ : List Addr} {H : Hp}
end
section
variable {P : Program} {w : World} {K : PySem.W.Frag} {mg : Str → Option Value} {base : Heap} {x qual : Str} {params : Arguments} {body : List Stmt} {scope : Scope} {dvs : List V} {kws : List (Str × V)} {f : Addr} {fd : FuncData} {N ps : List Str} {k : Nat} {W : Wd} {sm : SM}
end
end Fw
end
section
set_option Elab.async false
set_option maxHeartbeats 1000000
namespace Fw
open PySem PySem.Spec PyProof.Rows L2
section
variable {X : Cx} {W : Wd} {wx : WX} {tg e : Expr} {f : TM}
end
section
variable {X : Cx} {W : Wd} {wx : WX} {tg iter : Expr} {pos : Pos} {fs : TM} {g : G}
end
end Fw
end
section
set_option Elab.async false
set_option maxHeartbeats 1000000
namespace Fw
open PySem PySem.Spec PyProof.Rows L2
section
variable {X : Cx} {W : Wd} {known : List Nat} {i : Nat} {a : Addr} {oe : Obj} {cls : Value} {dd : Option Addr} {pn : List (Addr × Obj)} {f g : Exn → Hh → Option D} {pos : Pos}
end
section
variable {X : Cx} {W : Wd} {wx : WX} {k : Nat} {f : Addr} {fd : FuncData} {ps : List Str} {r : List D → Hh → R D} {x : Str} {p pos : Pos} {dds : List D} {dvs : List V} {ds : List Value} {cls : Nat}
end
end Fw
end
section
set_option Elab.async false
set_option maxHeartbeats 1000000
namespace Fw
open PySem PySem.Spec PyProof.Rows L2
section
variable {X : Cx} {W : Wd} {wx : WX} {a b : Expr} {fa fb : TM} {p1 p2 q1 q2 : Pos}
end
def noXS : SR → SR
  | .xn _ _ _ => .bad
  | r => r
structure Lk (H H' : Hp) (a : Addr) (kvs : List (Key × V)) : Prop where
  ne : ∀ b, b ≠ a → H' b = H b
  old : Rd H a (.dK kvs)
  new : Rd H' a (.dK kvs)
section
variable {W : Wd} {Z ρ : List Addr} {H H' : Hp} {a : Addr} {kvs : List (Key × V)}
theorem rd_one {u u' : HO} (h1 : Rd H a u) (h2 : Rd H a u') (m1 : ∀ o v, u ≠ .frz o v) (m2 : ∀ o v, u' ≠ .frz o v) : u' = u := by
  rcases h1 with h1 | ⟨o, h1⟩ <;> rcases h2 with h2 | ⟨o', h2⟩ <;> rw [h1] at h2 <;> cases h2
  · rfl
  · exact absurd rfl (m1 _ _)
  · exact absurd rfl (m2 _ _)
  · rfl
theorem Lk.rd (L : Lk H H' a kvs) {b : Addr} {u : HO} (h : Rd H b u) (m : ∀ o v, u ≠ .frz o v) : Rd H' b u := by
  by_cases e : b = a
  · subst e
    rw [rd_one L.old h (fun _ _ => nofun) m]
    exact L.new
  · rcases h with h | ⟨o, h⟩
    · exact .inl (by rw [L.ne b e]; exact h)
    · exact .inr ⟨o, by rw [L.ne b e]; exact h⟩
theorem Lk.at_ (L : Lk H H' a kvs) {b : Addr} {u : HO} (h : H b = some u) (m : ∀ o v, u ≠ .frz o v) (k : ∀ l, u ≠ .dK l) : H' b = some u := by
  by_cases e : b = a
  · subst e
    exact absurd (rd_one L.old (.inl h) (fun _ _ => nofun) m) (k _)
  · rw [L.ne b e]
    exact h
theorem Lk.tup {W : Wd} (L : Lk H H' a kvs) {b : Addr} {vs : List V} (t : TupAt W H b vs) : TupAt W H' b vs := by
  by_cases hb : b = a
  · subst hb
    exact absurd (rd_one L.old t.rd (fun _ _ => nofun) (fun _ _ => nofun)) nofun
  · refine t.map fun u e => ?_
    rw [L.ne b hb]; exact e
theorem Lk.ob {W : Wd} {Z ρ : List Addr} (L : Lk H H' a kvs) {b : Addr} {c : Nat} {gs : List (Str × V)} (q : ObAt W Z ρ H b c gs) : ObAt W Z ρ H' b c gs := by
  rcases q with ⟨hc, dx, e⟩ | ⟨hc, hg, e⟩ | ⟨hc, dx, e, e2, z2, r2⟩
  · exact .inl ⟨hc, dx, L.at_ e (fun _ _ => nofun) (fun _ => nofun)⟩
  · exact .inr (.inl ⟨hc, hg, L.at_ e (fun _ _ h => by unfold ExO at h; cases h) (fun _ h => by unfold ExO at h; cases h)⟩)
  · exact .inr (.inr ⟨hc, dx, L.at_ e (fun _ _ h => by unfold exo at h; cases h) (fun _ h => by unfold exo at h; cases h), L.at_ e2 (fun _ _ h => by unfold exd at h; cases h) (fun _ h => by unfold exd at h; cases h), z2, r2⟩)
mutual
theorem RD.lk (L : Lk H H' a kvs) : ∀ {d : D} {v : V}, RD W Z ρ H d v → RD W Z ρ H' d v
  | _, _, .non => .non
  | _, _, .bl b => .bl b
  | _, _, .int i => .int i
  | _, _, .str s => .str s
  | _, _, .tup z r q t => .tup z r (L.tup q) (RDs.lk L t)
  | _, _, .tupK k t => .tupK k (RDs.lk L t)
  | _, _, .lst z r q t => .lst z r (L.at_ q (fun _ _ => nofun) (fun _ => nofun)) (RDs.lk L t)
  | _, _, .dct z r q t => .dct z r (L.rd q (fun _ _ => nofun)) (RKs.lk L t)
  | _, _, .obj z r q t => .obj z r (L.ob q) (RFs.lk L t)
  | _, _, .ref e => .ref e
  | _, _, .fn f => .fn f
  | _, _, .roi q => .roi (q.elim (fun ⟨z, r, q⟩ => .inl ⟨z, r, L.rd q (fun _ _ => nofun)⟩) .inr)
theorem RDs.lk (L : Lk H H' a kvs) : ∀ {ds : List D} {vs : List V}, RDs W Z ρ H ds vs → RDs W Z ρ H' ds vs
  | _, _, .nil => .nil
  | _, _, .cons r t => .cons (RD.lk L r) (RDs.lk L t)
theorem RKs.lk (L : Lk H H' a kvs) : ∀ {ds : List (K1 × D)} {vs : List (Key × V)}, RKs W Z ρ H ds vs → RKs W Z ρ H' ds vs
  | _, _, .nil => .nil
  | _, _, .cons r t => .cons (RD.lk L r) (RKs.lk L t)
theorem RFs.lk (L : Lk H H' a kvs) : ∀ {ds : List (Nat × D)} {vs : List (Str × V)}, RFs W Z ρ H ds vs → RFs W Z ρ H' ds vs
  | _, _, .nil => .nil
  | _, _, .cons r t => .cons (RD.lk L r) (RFs.lk L t)
end
theorem RSg.lk (L : Lk H H' a kvs) {σd : Sg} {σ : L2.St} (r : RSg W Z ρ H σd σ) : RSg W Z ρ H' σd σ :=
  ⟨r.len, fun i d e => let ⟨v, e1, r1⟩ := r.at_ i d e; ⟨v, e1, r1.lk L⟩⟩
theorem Lk.there (L : Lk H H' a kvs) {b : Addr} (h : ∃ o, H b = some o) : ∃ o, H' b = some o := by
  by_cases e : b = a
  · subst e
    rcases L.new with h | ⟨_, h⟩
    · exact ⟨_, h⟩
    · exact ⟨_, h⟩
  · rw [L.ne b e]
    exact h
theorem Sim.lk (L : Lk H H' a kvs) {h : Hh} (ha : a ∉ ρ) (S : Sim W Z ρ h H) : Sim W Z ρ h H' := by
  refine ⟨S.len, S.nd, fun z hz => ⟨(S.dis z hz).1, L.there (S.dis z hz).2⟩, fun n o b e1 e2 => ?_⟩
  have hb : b ≠ a := fun e => ha (e ▸ List.mem_of_getElem? e2)
  cases S.obj n o b e1 e2 with
  | lst q t => exact .lst (by rw [L.ne b hb]; exact q) (t.lk L)
  | ro q t => exact .ro (L.rd q (fun _ _ => nofun)) (t.lk L)
  | dct q t => exact .dct (by rw [L.ne b hb]; exact q) (t.lk L)
  | ins q t => exact .ins (by rw [L.ne b hb]; exact q) (t.lk L)
  | dtu q e t => exact .dtu (by rw [L.ne b hb]; exact q) e (t.lk L)
  | rod q t => exact .rod (by rw [L.ne b hb]; exact q) (t.lk L)
theorem PostS.noX {r : SR} {D : Ends} {wx : WX} (p : PostS W Z ρ H (noXS r) D wx) : PostS W Z ρ H r D wx := by
  cases r with
  | xn e σ h1 => exact p.elim
  | _ => exact p
theorem RKs.length : ∀ {kds : List (K1 × D)} {kvs : List (Key × V)}, RKs W Z ρ H kds kvs → kds.length = kvs.length
  | _, _, .nil => rfl
  | _, _, .cons r t => by simp [RKs.length t]
end
section
variable {X : Cx} {W : Wd} {wx : WX} {tg : Expr}
end
end Fw
end
section
set_option Elab.async false
set_option maxHeartbeats 1000000
namespace Fw
open PySem PySem.Spec PyProof.Rows L2
section
variable {X : Cx} {W : Wd} {wx : WX}
end
end Fw
namespace Fw
open PySem PySem.Spec PyProof.Rows L2
section
variable {X : Cx} {W : Wd} {wx : WX} {a b : Expr} {fa fb : TM} {pos : Pos}
end
end Fw
end
section
set_option Elab.async false
set_option maxHeartbeats 1000000
namespace Fw
open PySem PySem.Spec PyProof.Rows L2
section
variable {X : Cx} {q : Addr × Obj} {pins : List (Addr × Obj)} {σ : L2.St} {H : Hp} {s : Shared}
end
section
variable {X : Cx} {x1 x2 n m : Str} {c1 c2 : Value} {i j kk : Nat} {body rest : List Stmt} {p1 p2 p3 p4 p5 tp pos pos' : Pos} {tb : WX → TS} {t1 : TS} {ts : Addr → Value → Option Addr → TS}
end
section
variable {X : Cx} {W : Wd} {known : List Nat} {i : Nat} {a : Addr} {oe : Obj} {cls : Value} {dd : Option Addr} {f g : Exn → Hh → Option D} {pos : Pos}
variable {p pe : Pos} {n : Str} {ce : Expr} {cv : V} {u : Value} {l : List Nat}
end
section
variable {X : Cx} {W : Wd} {wx : WX} {e1 tc ef eg : Expr} {b r : SM} {body : List Stmt} {x1 x2 n m : Str} {c1 c2 : Value} {i j jn kk : Nat} {known : List Nat} {t f g : Exn → Hh → Option D}
  {p1 p2 p3 p4 p5 p6 p7 p8 tp pos pos' q1 q2 q3 q4 q5 : Pos}
end
end Fw
end
section
set_option Elab.async false
set_option maxHeartbeats 3200000
namespace Fw
open PySem PySem.Spec PyProof.Rows L2
section
variable {P : Program} {w : World} {A : Around} {E : Value → Shared → Prop} {s : Shared}
end
section
variable {X : Cx}
end
section
variable {X : Cx} {W : Wd} {wx : WX} {a : Expr} {fa : TM} {p p2 pos pos2 : Pos}
end
end Fw
end
section
set_option Elab.async false
set_option maxHeartbeats 1000000
namespace Fw
open PySem PySem.Spec PyProof.Rows L2
section
variable {X : Cx} {W : Wd} {wx : WX} {k : Nat} {f : Addr} {fd : FuncData} {ps : List Str} {sp : Sp} {E : XK}
variable {a : Expr} {fa fb : TM} {p pos : Pos} {cls : Nat} {r : List D → Hh → R D}
theorem op_neD (hu : X.A.units < cLine) : OpR X (compareOp .NotEq) (fun x y H Q => ∃ a b ks ls, x = .ref a ∧ y = .ref b ∧ Rd H a (.dK ks) ∧ Rd H b (.dK ls) ∧ ks.length = ls.length ∧ (∀ p ∈ ks, valV ls p.1 = some p.2 ∧ flatB p.2 = true) ∧ Q (.bl false) H) := by
  intro pins s σ H x y v u Q I rx ry ⟨a, b, ks, ls, hx, hy, ea, eb, hlen, hp, q⟩
  subst hx hy
  cases rx
  cases ry
  obtain ⟨_, ya, va, ra, da⟩ := dk_rd I.hok ea
  obtain ⟨_, yb, vb, rb, db⟩ := dk_rd I.hok eb
  have hl : va.length = vb.length := by
    rw [← ra.length, ← rb.length]
    exact hlen
  exact PySem.W.keq_ne (knd := mixKind X.prog X.w) (r := true) ya yb da db hu
    (fun _ => hits_all rb ra hp) (fin_bl I q (by simp [hl]))
end
section
variable {X : Cx} {W : Wd} {wx : WX} {a b : Expr} {elts : List Expr} {kk : Nat} {tpos p pos pos2 : Pos} {fa fb : TM} {g : G}
end
end Fw
end
section
set_option Elab.async false
set_option maxHeartbeats 1000000
namespace Fw
open PySem PySem.Spec PyProof.Rows L2
section
variable {X : Cx} {W : Wd} {wx : WX} {tg iter ke ve : Expr} {ifs : List Expr} {scope : Scope} {own : List (Str × Nat)} {pos : Pos} {kf vf : TM} {gb : BM} {it : It} {src : AM} {g : G}
end
end Fw
end
section
set_option Elab.async false
set_option maxHeartbeats 1000000
namespace Fw
open PySem PySem.Spec PyProof.Rows L2
def headU (h : Heap) : Value → Int
  | .ref a => match h.get? a with
    | some o => (match o.data with
      | .seq xs _ => (match (xs[0]? : Option Value) with
        | some (Value.int i _) => i
        | _ => 0)
      | _ => 0)
    | none => 0
  | _ => 0
def IsHd (h : Heap) (v : Value) (i : Int) : Prop := ∃ a o t n xs, v = .ref a ∧ h.get? a = some o ∧ o.cls = .type "tuple" ∧ o.data = .seq xs n ∧ xs[0]? = some (Value.int i t)
theorem IsHd.keeps {h h' : Heap} {v : Value} {i : Int} (p : IsHd h v i) (k : ∀ b o, h.get? b = some o → o.cls = .type "tuple" → h'.get? b = some o) : IsHd h' v i := by
  obtain ⟨a, o, t, n, xs, e, ho, hc, hd, hx⟩ := p
  exact ⟨a, o, t, n, xs, e, k _ _ ho hc, hc, hd, hx⟩
theorem IsHd.u {h : Heap} {v : Value} {i : Int} (p : IsHd h v i) : headU h v = i := by
  obtain ⟨a, o, t, n, xs, rfl, ho, hc, hd, hx⟩ := p
  simp [headU, ho, hd, hx]
section
variable {prog : Program} {w : World} {A : Around} {s : Shared}
end
section
variable {X : Cx} {W : Wd}
end
end Fw
end
section
set_option Elab.async false
set_option maxHeartbeats 1000000
namespace Fw
open PySem PySem.Spec PyProof.Rows L2
section
variable {X : Cx} {W : Wd} {wx : WX} {a b : Expr} {fa fb : TM}
end
end Fw
end
section
set_option Elab.async false
set_option maxHeartbeats 1000000
namespace Fw
open PySem PySem.Spec PyProof.Rows L2
mutual
def D.noL : D → Bool
  | .non => true
  | .bl _ => true
  | .int _ => true
  | .str _ => true
  | .tup ds => noLs ds
  | _ => false
def noLs : List D → Bool
  | [] => true
  | d :: ds => d.noL && noLs ds
end
section
variable {W : Wd} {Z ρ : List Addr} {H H' : Hp} {h : Hh}
theorem noTup (S : Sim W Z ρ h H) {a : Addr} {vs : List V} (e : TupAt W H a vs) : a ∉ ρ := fun ha => by
  obtain ⟨i, hi⟩ := List.mem_iff_getElem?.mp ha
  have hl : i < h.length := by rw [← S.len]; exact (List.getElem?_eq_some_iff.mp hi).1
  obtain ⟨o, ho⟩ : ∃ o, h[i]? = some o := ⟨h[i], by simp [hl]⟩
  cases S.obj i o a ho hi with
  | lst q _ => exact e.ne q nofun (fun _ => nofun)
  | ro q _ =>
    rcases q with q | ⟨_, q⟩
    · exact e.ne q nofun (fun _ => nofun)
    · exact e.ne q nofun (fun _ => nofun)
  | dct q _ => exact e.ne q nofun (fun _ => nofun)
  | ins q _ => exact e.ne q nofun (fun _ => nofun)
  | dtu q _ _ => exact e.ne q nofun (fun _ => nofun)
  | rod q _ => exact e.ne q nofun (fun _ => nofun)
mutual
theorem RD.noL (S : Sim W Z ρ h H) : ∀ {d : D} {v : V}, d.noL = true → RD W Z [] H d v → RD W Z ρ H d v
  | .non, _, c, .non => .non
  | .bl b, _, c, .bl _ => .bl b
  | .int i, _, c, .int _ => .int i
  | .str s, _, c, .str _ => .str s
  | .tup ds, _, c, .tup z r e t => .tup z (noTup S e) e (RDs.noL S (by simpa [D.noL] using c) t)
  | .tup ds, _, c, .tupK k t => .tupK k (RDs.noL S (by simpa [D.noL] using c) t)
theorem RDs.noL (S : Sim W Z ρ h H) : ∀ {ds : List D} {vs : List V}, noLs ds = true → RDs W Z [] H ds vs → RDs W Z ρ H ds vs
  | _, _, c, .nil => .nil
  | d :: ds, _, c, .cons r t => by
    simp only [noLs, Bool.and_eq_true] at c
    exact .cons (RD.noL S c.1 r) (RDs.noL S c.2 t)
end
end
section
variable {P : Program} {w : World} {K : PySem.W.Frag} {mg : Str → Option Value} {base : Heap} {x qual : Str} {params : Arguments} {body : List Stmt} {scope : Scope} {dvs : List V} {kws : List (Str × V)} {f : Addr} {fd : FuncData} {N ps : List Str} {k : Nat} {W : Wd} {sm : SM}
end
end Fw
end
section
set_option Elab.async false
set_option maxHeartbeats 1000000
namespace FwE
open PySem PySem.Spec PyProof.Rows L2
section
variable {prog : Program} {w : World} {A : Around} {E : Value → Shared → Prop} {s : Shared}
end
end FwE
namespace Fw
open PySem PySem.Spec PyProof.Rows L2 FwE
section
variable {X : Cx} {W : Wd} {wx : WX} {f : TM} {Z ρ : List Addr} {H : Hp} {a : Addr} {vs : List V} {xs : List D}
end
section
variable {X : Cx} {W : Wd} {wx : WX} {a b : Expr} {fa fb : TM}
end
section
variable {X : Cx} {W : Wd} {wx : WX} {tg iter tg1 iter1 elt : Expr} {ifs ifs1 : List Expr} {scope : Scope} {own : List (Str × Nat)} {own1 : List Nat} {pos : Pos} {f : TM} {gb gb1 : BM} {it it1 : It} {src src1 : AM} {g g1 : G}
end
end Fw
end
section
set_option Elab.async false
set_option maxHeartbeats 1000000
namespace Fw
open PySem PySem.Spec PyProof.Rows L2
def CasOk (K : PySem.W.Frag) (W : Wd) : Nat → List Addr → Prop
  | _, [] => True
  | i, a :: as => W.ca i = a ∧ Cls K a ∧ CasOk K W (i + 1) as
theorem CasOk.at_ {K : PySem.W.Frag} {W : Wd} : ∀ {as : List Addr} {i c : Nat} {a : Addr}, CasOk K W i as → as[c]? = some a → W.ca (i + c) = a ∧ Cls K a
  | [], i, c, a, _, h => by simp at h
  | b :: as, i, c, a, hc, h => by
    obtain ⟨h1, h2, h3⟩ := hc
    cases c with
    | zero =>
      simp at h
      subst h
      exact ⟨h1, h2⟩
    | succ c =>
      have := CasOk.at_ (c := c) h3 (by simpa using h)
      rwa [show i + (c + 1) = i + 1 + c by omega]
section
variable {X : Cx} {W : Wd} {wx : WX} {k cls : Nat} {f : Addr} {ps : List Str} {r : List D → Hh → R D} {a b : Expr} {fa fb : TM} {pos : Pos}
end
section
variable {X : Cx} {W : Wd} {wx : WX} {Z ρ : List Addr} {h : Hh} {H : Hp} {pins : List (Addr × Obj)} {σ : L2.St} {s : Shared}
end
section
variable {X : Cx} {W : Wd} {wx : WX}
end
section
variable {X : Cx} {W : Wd} {wx : WX} {k cls : Nat} {f : Addr} {ps : List Str} {r : List D → Hh → R D} {a : Expr} {fa : TM} {p pos : Pos}
end
end Fw
end
section
set_option Elab.async false
set_option maxHeartbeats 1000000
namespace Fw
open PySem PySem.Spec PyProof.Rows L2
section
variable {X : Cx} {W : Wd} {wx : WX} {a b : Expr} {fa fb : TM}
end
section
variable {X : Cx} {W : Wd} {wx : WX} {a b : Expr} {fa fb : TM}
end
section
variable {X : Cx} {W : Wd} {wx : WX} {k cls n n0 : Nat} {f : Addr} {ps : List Str} {r : List D → Hh → R D} {m : Str} {pos apos : Pos} {e o : Expr} {es : List Expr} {fs fk : AM} {fo : TM} {kws : List Keyword} {ks : List Str} {gV : List V → List V → List V} {gD : List D → List D → List D} {pl : Sem Bool}
end
end Fw
end
section
set_option Elab.async false
set_option maxHeartbeats 1000000
namespace Fw
open PySem PySem.Spec PyProof.Rows L2
section
variable {X : Cx} {W : Wd} {wx : WX} {g : Hh → D → Option O}
end
section
variable {X : Cx} {W : Wd} {wx : WX} {g : Hh → D → Option O} {a : Expr} {fa : TM} {x : Str} {id T : String} {p pos : Pos}
end
section
variable {X : Cx} {W : Wd} {wx : WX} {a : Expr} {fa : TM}
end
section
variable {X : Cx} {W : Wd} {wx : WX} {a b : Expr} {fa fb : TM} {p1 p2 q1 q2 : Pos}
end
section
variable {X : Cx} {W : Wd} {wx : WX} {tg a b c : Expr} {f f2 f3 : TM} {p pos : Pos}
end
end Fw
end
section
set_option Elab.async false
set_option maxHeartbeats 1000000
namespace Fw
open PySem PySem.Spec PyProof.Rows L2
section
variable {W : Wd} {Z ρ ρ' : List Addr} {h h1 : Hh} {H H' : Hp} {a : Addr} {od : Obj} {kvs : List (Key × V)} {kds : List (K1 × D)} {n : Nat}
end
section
variable {X : Cx} {W : Wd} {wx : WX} {tg : Expr}
end
section
variable {X : Cx} {W : Wd} {wx : WX} {tg iter elt : Expr} {ifs : List Expr} {scope : Scope} {own : List (Str × Nat)} {pos : Pos} {f : TM} {gb : BM} {it : It} {src : AM} {g : G}
end
end Fw
end
section
set_option Elab.async false
set_option maxHeartbeats 1000000
namespace Fw
open PySem PySem.Spec PyProof.Rows L2
section
variable {X : Cx} {W : Wd}
end
end Fw
end
section
set_option Elab.async false
set_option maxHeartbeats 1000000
namespace Fw
open PySem PySem.Spec PyProof.Rows L2
inductive GA where
  | g (g : G)
  | fl (c : Nat) (a : TM) (k : Nat)
section
variable {X : Cx} {W : Wd} {wx : WX}
end
section
variable {X : Cx} {W : Wd} {wx : WX} {body fs : List Stmt} {f₀ : Stmt} {b f : SM} {pos : Pos}
end
end Fw
end
section
set_option Elab.async false
set_option maxHeartbeats 1000000
namespace Fw
open PySem PySem.Spec PyProof.Rows L2
section
variable {X : Cx} {x x1 x2 x3 x4 : Str} {c c1 c2 c3 c4 cls : Value} {p1 p2 p3 p4 tp : Pos} {kk : Nat}
end
section
variable {X : Cx} {te : Expr} {n m : Str} {i j : Nat} {body rest : List Stmt} {p3 p4 p5 pos pos' : Pos} {tb : WX → TS} {t1 : TS} {ts : Addr → Value → Option Addr → TS}
end
section
variable {X : Cx} {W : Wd} {wx : WX} {te ef : Expr} {b r : SM} {body : List Stmt} {n m : Str} {i j jn : Nat} {cs : List Nat} {f : Exn → Hh → Option D} {v : Bool}
  {p1 p2 p3 p4 p5 pos pos' q1 : Pos}
end
end Fw
end
section
set_option Elab.async false
set_option maxHeartbeats 1000000
namespace Fw
open PySem PySem.Spec PyProof.Rows L2
section
variable {X : Cx} {W : Wd} {wx : WX} {a : Expr} {fa : TM} {x : Str} {pos p : Pos} {tab : List (Tx × List Int)} {d : Addr}
end
end Fw
end
section
set_option Elab.async false
set_option maxHeartbeats 2000000
namespace Fw
open PySem PySem.HandSPX
section
variable {prog : Program} {w : World} {A : Around} {E : Value → Shared → Prop} {R : Result → Shared → Prop} {h : Heap} {g : Array GenState} {d : Drawn} {t : Nat} {os : OsState}
variable {nm q : Str} {C N : Addr} {bs bm bmB bm0 : List Value} {hdct : Bool} {sn : List Str} {sub : List Value} {ab : Bool} {col : Option Bool} {dd : Option Addr} {k0 k1 k2 k3 k5 : Option Value} {B newId initId : String} {kw : List (Str × Value)}
theorem check_new_kw {M : Model} (F : ExcBaseFacts B newId initId bm0) (hB : bmB.contains (.type B) = true) (hA : bmB.contains (.type "AttributeError") = false) (hN : bmB.contains (.type "NameError") = false) (hT : ∀ X : String, bm.contains (.type X) = bmB.contains (.type X)) {rest : List Value} {Q : Unit → Shared → Prop}
    (hC : h.get? C = some (excClassObj nm q C N bs bm hdct sn sub ab col dd k0 k1 k2 k3 k5 newId)) (hq : Q () ⟨h, g, d, t, os⟩) : wpAny M A (checkBuiltinCall newId ⟨.ref C :: rest, kw⟩) Q E ⟨h, g, d, t, os⟩ := by
  have hcont : (Value.ref C :: bm).contains (.type B) = true := by rw [List.contains_cons, hT, hB, Bool.or_true]
  have hstar := F.noStar
  simp only [checkBuiltinCall, F.newKind, F.newSplit, F.newRow]
  repeat (first | refine wpAny_loadPart_at hC ?_ | (refine wpAny_isSubtype_exc hC ?_; rw [hcont]) | refine wpAny_staticBase_exc hC ?_ | refine wpAny_madeBy_exc hC ?_ | simp only [bne_self_eq_false, Bool.false_eq_true, if_false] | wp_step)
  exact hq
theorem new_kw (F : ExcBaseFacts B newId initId bm0) (hB : bmB.contains (.type B) = true) (hA : bmB.contains (.type "AttributeError") = false) (hN : bmB.contains (.type "NameError") = false) (hT : ∀ X : String, bm.contains (.type X) = bmB.contains (.type X)) {rest : List Value}
    (hC : h.get? C = some (excClassObj nm q C N bs bm hdct sn sub ab col dd k0 k1 k2 k3 k5 newId))
    (hq : R (.ok (.ret (.ref (h.objs.size + 1)))) ⟨(h.push { cls := .type "tuple", data := .seq rest.toArray }).push
      { cls := .ref C, data := .fields #[.ref h.objs.size, .none, .none, .none, .bool false, .none] }, g, d, t, os⟩) (hrest : rest.length ≤ sizeLine) :
    codeAny (model prog w) A (.builtin newId ⟨.ref C :: rest, kw⟩) R ⟨h, g, d, t, os⟩ := by
  have hends := F.ends
  have hcB : (Value.ref C :: bm).contains (.type B) = true := by rw [List.contains_cons, hT, hB, Bool.or_true]
  have hcA : (Value.ref C :: bm).contains (.type "AttributeError") = false := by rw [List.contains_cons, hT, hA]; rfl
  have hcN : (Value.ref C :: bm).contains (.type "NameError") = false := by rw [List.contains_cons, hT, hN]; rfl
  refine codeAny_builtinAt F.entry ?_
  unfold Builtin.«BaseException.__new__»
  refine wpAt_bind ?_
  show wpAt _ _ _ (stack >>= _) _ _ _
  refine wpAt_bind (wpAt_stack fun p below => wpAt_of_wpAny ?_)
  wp_walk
  refine wpAt_of_wpAny ?_
  rw [F.owner]
  repeat (first | with_reducible refine wpAny_madeHere_exc F.canon hC ?_ | with_reducible refine wpAny_loadPart_at hC ?_ | (with_reducible refine wpAny_isSubtype_exc hC ?_; first | rw [hcB] | rw [hcA] | rw [hcN]) | wp_step)
  show R _ _
  rw [Heap.size_push]
  exact hq
theorem check_type_kw {M : Model} {rest : List Value} {Q : Unit → Shared → Prop} (hC : h.get? C = some (excClassObj nm q C N bs bm hdct sn sub ab col dd k0 k1 k2 k3 k5 newId))
    (hq : Q () ⟨h, g, d, t, os⟩) : wpAny M A (checkBuiltinCall "type.__call__" ⟨.ref C :: rest, kw⟩) Q E ⟨h, g, d, t, os⟩ := by
  have f3 := tc_sub
  have hT : (⟨h, g, d, t, os⟩ : Shared).TypeIs (.ref C) "type" := ⟨_, hC, rfl⟩
  simp only [checkBuiltinCall, tc_kind, tc_split]
  repeat (any_goals (first | assumption | with_reducible refine wpAny_loadPart_at hC ?_ | with_reducible refine wpAny_onRaise ?_ | with_reducible refine wpAny_map ?_ | wp_step))
theorem type_call_kw (F : ExcBaseFacts B newId initId bm0) (hB : bmB.contains (.type B) = true) (hA : bmB.contains (.type "AttributeError") = false) (hN : bmB.contains (.type "NameError") = false) (hT : ∀ X : String, bm.contains (.type X) = bmB.contains (.type X)) {rest : List Value} {fI : Addr} {Q : Fin → Shared → Prop}
    (hC : h.get? C = some (excClassObj nm q C N bs bm hdct sn sub ab col dd k0 k1 k2 k3 k5 newId))
    (hi : W.Looks (model prog w) h (typeLookup (.ref C) "__init__") (some (.ref fI))) (hb : ∀ self, W.Looks (model prog w) h (bindSpecial (.ref fI) self) (.ref fI, [self])) (hrest : rest.length ≤ sizeLine)
    (hq : codeAny (model prog w) A (.call (.ref fI) ⟨.ref (h.objs.size + 1) :: rest, kw⟩)
      (fun r s' => match r with | .ok (.ret v) => v = .none ∧ Q (.done (.ret (.ref (h.objs.size + 1)))) s' | .ok _ => False | .error e => E e s')
      ⟨(h.push (W.kdv_tup rest)).push (excO C h.objs.size), g, d, t, os⟩) :
    wpAny (model prog w) A (Builtin.«type.__call__» ⟨.ref C :: rest, kw⟩) Q E ⟨h, g, d, t, os⟩ := by
  repeat (first | with_reducible refine wpAny_loadPart_at hC ?_ | with_reducible refine wpAny_madeBy_exc hC ?_ | wp_step)
  refine codeAny_call_builtin_code (Code.quiet_builtin _ F.quiet) (check_new_kw F hB hA hN hT hC ?_)
  refine new_kw F hB hA hN hT hC ?_ hrest
  show wpAny _ _ _ _ _ _
  have k : ∀ b o, h.get? b = some o → ((h.push (W.kdv_tup rest)).push (excO C h.objs.size)).get? b = some o := fun b o e => Heap.get?_push_of_some _ (Heap.get?_push_of_some _ e)
  have hC₁ := k _ _ hC
  have hget : ((h.push (W.kdv_tup rest)).push (excO C h.objs.size)).get? (h.objs.size + 1) = some (excO C h.objs.size) := by heap_get
  have hcC : (Value.ref C :: bm).contains (.ref C) = true := by simp
  have i1 := hi.keeps k
  have b1 := (hb (.ref (h.objs.size + 1))).keeps k
  unfold isInstance
  repeat (first | with_reducible refine wpAny_loadPart_at hget ?_ | (with_reducible refine wpAny_isSubtype_exc hC₁ ?_; rw [hcC]) | wp_step)
  show wpAny _ _ (typeLookup (.ref C) _) _ _ _
  refine i1.at ?_
  refine wpAny_holding (wpAny_bind (b1.at ?_))
  refine wpAny_bind (wpAny_call (codeAny_mono hq fun r s' z => ?_))
  rcases r with e | (v | _ | _ | _) <;> first | exact z | exact z.elim | skip
  obtain ⟨rfl, z⟩ := z
  first
    | exact wpAny_pure (wpAny_pure z)
    | (wp_walk; exact z)
theorem call_kw (F : ExcBaseFacts B newId initId bm0) (hB : bmB.contains (.type B) = true) (hA : bmB.contains (.type "AttributeError") = false) (hN : bmB.contains (.type "NameError") = false) (hT : ∀ X : String, bm.contains (.type X) = bmB.contains (.type X)) {rest : List Value} {fI : Addr}
    (hC : h.get? C = some (excClassObj nm q C N bs bm hdct sn sub ab col dd k0 k1 k2 k3 k5 newId))
    (hi : W.Looks (model prog w) h (typeLookup (.ref C) "__init__") (some (.ref fI))) (hb : ∀ self, W.Looks (model prog w) h (bindSpecial (.ref fI) self) (.ref fI, [self])) (hrest : rest.length ≤ sizeLine)
    (hq : codeAny (model prog w) (A.under (.builtin "type.__call__" ⟨.ref C :: rest, kw⟩)) (.call (.ref fI) ⟨.ref (h.objs.size + 1) :: rest, kw⟩) (W.InitBack (h.objs.size + 1) R)
      ⟨(h.push (W.kdv_tup rest)).push (excO C h.objs.size), g, d, t, os⟩) :
    codeAny (model prog w) A (.call (.ref C) ⟨rest, kw⟩) R ⟨h, g, d, t, os⟩ := by
  have f1 := tc_lookup
  have f2 := tc_bind (.ref C)
  have hTy : (⟨h, g, d, t, os⟩ : Shared).TypeIs (.ref C) "type" := ⟨_, hC, rfl⟩
  refine codeAny_of_tree ?_
  show wpAny _ _ (callAny (.ref C) _) _ _ _
  repeat (any_goals (first | assumption | with_reducible refine wpAny_loadPart_at hC ?_ | wp_step))
  refine ⟨rfl, ?_⟩
  refine codeAny_call_builtin_at (Code.quiet_builtin _ (by decide +kernel)) entry_typeCall (check_type_kw hC (type_call_kw F hB hA hN hT hC hi hb hrest ?_))
  refine codeAny_mono hq fun r s' z => ?_
  rcases r with e | (v | _ | _ | _) <;> exact z
structure IniX (B initId : String) (tl : List Value) : Prop where
  slot : PySem.Slot B "__init__" initId
  entry : entryFor table initId = some Builtin.«BaseException.__init__»
  kind : builtinKind initId = some .slot
  split : splitId initId = some (B, "__init__")
  row : Manifest.signature? initId = some ⟨.positional, "*", B, .self, [⟨"args", .varPos, false⟩]⟩
  star : (B != "*") = true
  has : tl.contains (.type B) = true
theorem check_x {M : Model} (F : IniX B initId bmB) (hT : ∀ X : String, bm.contains (.type X) = bmB.contains (.type X)) {e : Addr} {oe : Obj} {rest : List Value} {Q : Unit → Shared → Prop}
    (hC : h.get? C = some (excClassObj nm q C N bs bm hdct sn sub ab col dd k0 k1 k2 k3 k5 newId)) (he : h.get? e = some oe) (hcls : oe.cls = .ref C) (hq : Q () ⟨h, g, d, t, os⟩) : wpAny M A (checkBuiltinCall initId ⟨.ref e :: rest, []⟩) Q E ⟨h, g, d, t, os⟩ := by
  have hB : (Value.ref C :: bm).contains (.type B) = true := by rw [List.contains_cons, hT, F.has, Bool.or_true]
  have hst := F.star
  simp only [checkBuiltinCall, F.kind, F.split, F.row]
  repeat (first | (with_reducible refine wpAny_loadPart_at he ?_; rw [hcls]) | with_reducible refine wpAny_loadPart_at hC ?_ | (with_reducible refine wpAny_isSubtype_exc hC ?_; rw [hB]) | wp_step)
  refine wpAny_onRaise ?_
  rw [show ∀ (a b : String) (n : Nat), Bind.check ⟨.positional, "*", B, .self, [⟨"args", .varPos, false⟩]⟩ a b n (List.map (fun x => x.1) ({ pos := Value.ref e :: rest } : Args).kw) = pure () from fun a b n => check_star_args _ _ _ _ _ _]
  exact wpAny_pure hq
theorem init_x (F : IniX B initId bmB) (hT : ∀ X : String, bm.contains (.type X) = bmB.contains (.type X)) {e t0 : Addr} {rest : List Value}
    (hC : h.get? C = some (excClassObj nm q C N bs bm hdct sn sub ab col dd k0 k1 k2 k3 k5 newId)) (he : h.get? e = some (excO C t0)) (hrest : rest.length ≤ sizeLine)
    (hq : ∀ h' t1, (∀ b o, b ≠ e → h.get? b = some o → h'.get? b = some o) → h'.get? e = some (excO C t1) → R (.ok (.ret .none)) ⟨h', g, d, t, os⟩) :
    codeAny (model prog w) A (.call (.builtin initId) ⟨.ref e :: rest, []⟩) R ⟨h, g, d, t, os⟩ := by
  refine codeAny_call_builtin F.slot.plain F.entry (check_x F hT hC he rfl ?_)
  wp_walk
  refine hq _ h.objs.size (fun b o hb ho => ?_) ?_
  · exact (Heap.get?_update_other _ _ (Ne.symm hb)).trans (Heap.get?_push_of_some _ ho)
  · exact (Heap.get?_update_self _ (Heap.get?_push_of_some _ he) rfl).trans rfl
def NewX (newId : String) (tl : List Value) : Prop := ∃ (B initId : String) (bm0 : List Value), ExcBaseFacts B newId initId bm0 ∧ tl.contains (.type B) = true ∧ tl.contains (.type "AttributeError") = false ∧ tl.contains (.type "NameError") = false
theorem NewX.of (F : ExcBaseFacts B newId initId bmB) : NewX newId bmB := ⟨B, initId, bmB, F, F.hasB, F.noAttr, F.noName⟩
theorem IniX.of (F : ExcBaseFacts B newId initId bmB) : IniX B initId bmB := ⟨F.init, F.initEntry, F.initKind, F.initSplit, F.initRow, F.noStar, F.hasB⟩
theorem call_x (F : NewX newId bmB) (hT : ∀ X : String, bm.contains (.type X) = bmB.contains (.type X)) {rest : List Value} {fI : Addr}
    (hC : h.get? C = some (excClassObj nm q C N bs bm hdct sn sub ab col dd k0 k1 k2 k3 k5 newId))
    (hi : W.Looks (model prog w) h (typeLookup (.ref C) "__init__") (some (.ref fI))) (hb : ∀ self, W.Looks (model prog w) h (bindSpecial (.ref fI) self) (.ref fI, [self])) (hrest : rest.length ≤ sizeLine)
    (hq : codeAny (model prog w) (A.under (.builtin "type.__call__" ⟨.ref C :: rest, kw⟩)) (.call (.ref fI) ⟨.ref (h.objs.size + 1) :: rest, kw⟩) (W.InitBack (h.objs.size + 1) R)
      ⟨(h.push (W.kdv_tup rest)).push (excO C h.objs.size), g, d, t, os⟩) :
    codeAny (model prog w) A (.call (.ref C) ⟨rest, kw⟩) R ⟨h, g, d, t, os⟩ :=
  let ⟨_, _, _, F, hB, hA, hN⟩ := F
  call_kw F hB hA hN hT hC hi hb hrest hq
end
end Fw
end
section
set_option Elab.async false
set_option maxHeartbeats 1000000
namespace Fw
open PySem PySem.Spec PyProof.Rows L2
section
variable {prog : Program} {w : World} {A : Around} {R : Result → Shared → Prop} {hp : Heap} {g : Array GenState} {d : Drawn} {t : Nat} {os : OsState}
theorem osaG {K : PySem.W.Frag} {B : String} {bmB : List Value} {name : Str} {tk : Tok} {v : Value} {x C t1 : Addr} {cd : ClassData} (SF : StoreFacts B bmB "object.__setattr__" "object")
    (X : K.In hp) (hx : hp.get? x = some (PySem.W.excObj C t1 none .none)) (ho : PySem.W.excOver K C bmB = true) (ht : PySem.W.takerIn K C name = some none) (hcd : PySem.W.clsIn K C = some cd) (hh : cd.hasDict = true)
    (hq : ∀ h' tk' dx, (∀ b o, b ≠ x → hp.get? b = some o → h'.get? b = some o) → hp.objs.size ≤ dx → dx ≠ x → h'.get? x = some (PySem.W.excObj C t1 (some dx) .none) →
      h'.Ns1 dx (fun y => if y = name then some v else none) → R (.ok (.ret .none)) ⟨h', g, d, tk', os⟩) :
    codeAny (model prog w) A (.call (.builtin "object.__setattr__") ⟨[.ref x, .str name tk, v], []⟩) R ⟨hp, g, d, t, os⟩ := by
  have hxs : x ≠ hp.objs.size := Nat.ne_of_lt (Heap.lt_size hx)
  refine PySem.W.osa_openX (s := ⟨hp, g, d, t, os⟩) (od := none) SF X ⟨hx, rfl, rfl, trivial⟩ ho ht fun b => ?_
  refine wpAny_bind (wpAny_pure (wpAny_bind (PySem.W.instanceDict_exc (s := ⟨hp, g, d, t, os⟩) hx (PySem.W.looks_clsIn X hcd) hh ?_)))
  show wpAny _ _ (PySem.Builtin.ObjectAttr.storeInDict hp.objs.size (.str name tk) name v) _ _ _
  refine PySem.HandSPX.store_in_new ⟨_, #[], _, (Heap.get?_update_ne _ _ _ _ hxs.symm).trans (Heap.get?_push_at rfl rfl), rfl, fun e he => absurd he (by simp), fun _ => rfl⟩ fun h' tk' hn' hs => ?_
  refine hq h' tk' hp.objs.size (fun b o hb ho => ?_) (Nat.le_refl _) hxs.symm ?_ hn'
  · exact (hs.2 b (Nat.ne_of_lt (Heap.lt_size ho))).trans ((Heap.get?_update_ne _ _ _ _ hb).trans (Heap.get?_push_of_some _ ho))
  · exact (hs.2 x hxs).trans (Heap.get?_update_self _ (Heap.get?_push_of_some _ hx) rfl)
end
structure BaseX (B newId initId : String) (tl : List Value) : Prop where
  F : NewX newId tl
  I : IniX B initId tl
  st : StoreFacts B tl "object.__setattr__" "object"
  ty : typeOf (.type B) = pure (.type "type")
  stub : Manifest.isStub B = false
structure OexG (K : PySem.W.Frag) (C : Addr) (newId : String) (tl : List Value) : Prop where
  cls : ∃ nm q N bs bm sn sub ab col dd k0 k1 k2 k3 k5, K.lookup C = some (excClassObj nm q C N bs bm true sn sub ab col dd k0 k1 k2 k3 k5 newId) ∧ PySem.W.excTail tl bm = true
  sa : PySem.W.findIn K (.ref C) "__setattr__" = some (some (.builtin "object.__setattr__"))
  exC : PySem.W.subIn K (.ref C) (.type "BaseException") = some true
  tyC : PySem.W.typeIn K (.ref C) = some (.type "type")
  kC : PySem.W.keepIn K (.ref C) = true
section
variable {X : Cx} {pins : List (Addr × Obj)} {σ : L2.St} {H : Hp} {s : Shared} {a C : Addr} {f : Str} {y : V} {u : Value} {A : Around} {E : Value → Shared → Prop} {B newId initId : String} {tl : List Value}
theorem putG {Q : Unit → Shared → Prop} (T : OexG X.K C newId tl) (b : BaseX B newId initId tl) (I : Inv X pins σ H s) (e : H a = some (exo a C none)) (hno : PySem.W.findIn X.K (.ref C) f = some none) (ry : RelV y u)
    (h : ∀ dx s', H dx = none → dx ≠ a → Inv X pins σ (upd (upd H dx (exd dx [(f, y)])) a (exo a C (some dx))) s' → Q () s') : wpAny (model X.prog X.w) A (setAttr (.ref a) f u) Q E s := by
  obtain ⟨nm, q, N, bs, bm, sn, sub, ab, col, dd, k0, k1, k2, k3, k5, hC, hbm⟩ := T.cls
  have hcl : PySem.W.clsIn X.K C = some { name := nm, bases := bs, mro := .ref C :: bm, ns := N, qualname := q, hasDict := true, slotNames := sn, subclasses := sub, abstract := ab, collection := col, hasDel := false } := by unfold PySem.W.clsIn; rw [hC] <;> rfl
  have hov : PySem.W.excOver X.K C tl = true := by
    unfold PySem.W.excOver
    rw [hcl]
    simp [hbm]
  have htk : PySem.W.takerIn X.K C f = some none := by
    unfold PySem.W.takerIn
    rw [hno]
    rfl
  obtain ⟨t1, ho⟩ := exo_at I.hok e
  obtain ⟨hp, g, d, t, os⟩ := s
  refine PySem.W.set_plain I.kIn (ox := PySem.W.excObj C t1 none .none) (od := none) ⟨ho, rfl, rfl, trivial⟩ T.sa ?_
  refine osaG b.st I.kIn ho hov htk hcl rfl fun h' tk' dx k dn dne hx hn => ?_
  have fresh : H dx = none := I.hok.fresh dn
  have old : ∀ {c : Addr} {o : Obj}, hp.get? c = some o → c ≠ dx := fun z => Nat.ne_of_lt (Nat.lt_of_lt_of_le (Heap.lt_size z) dn)
  have away : ∀ {c : Addr}, H c = none → c ≠ a := fun n z => by
    rw [z, e] at n
    cases n
  have keepH : ∀ {c : Addr} {o : HO}, H c = some o → o ≠ exo a C none → upd (upd H dx (exd dx [(f, y)])) a (exo a C (some dx)) c = some o := fun {c o} z ne => by
    have hca : c ≠ a := fun w => ne (by rw [w, e] at z; exact (Option.some.inj z).symm)
    rw [upd_ne hca, upd_ne (ne_of_none z fresh)]
    exact z
  refine h dx _ fresh dne (I.un (t' := tk') (H' := upd (upd H dx (exd dx [(f, y)])) a (exo a C (some dx))) (h' := h') ?_ fun c o z => ?_)
  · exact {
      keep := fun c o z n _ _ => k c o (away n) z
      slot := fun c o z n _ _ => ⟨o.slots, k c o (away n) z⟩
      free := fun c o z n _ => by rw [upd_ne (away n), upd_ne (old z)]; exact n
      there := fun c o z _ => by
        by_cases hc : c = a
        · subst hc
          exact ⟨_, hx⟩
        · exact ⟨o, k c o hc z⟩
      tups := fun c xs z => keepH z (Ne.symm exo_tup)
      frzs := fun c o v z => keepH z (Ne.symm exo_frz)
      tbls := fun c ps z => ⟨#[], by rw [keepH z (Ne.symm exo_tbl)]; simp⟩ }
  · by_cases hc : c = a
    · subst hc
      rw [upd_same] at z
      cases z
      exact exo_ok hx
    · rw [upd_ne hc] at z
      by_cases hd : c = dx
      · subst hd
        rw [upd_same] at z
        cases z
        exact exd_ok hn (relO_put (fs := []) ry fun _ => True.intro)
      · rw [upd_ne hd] at z
        refine (I.hok c o z).stay (fun c2 v hc2 z2 => k c2 v ?_ z2) (fun c2 hc2 => keepH hc2 (Ne.symm exo_own)) fun c2 xs hc2 => keepH hc2 (Ne.symm exo_tup)
        rcases hc2 with hc2 | hc2
        · rw [hc2]
          exact hc
        · exact fun w => exo_own (by rw [w, e] at hc2; exact Option.some.inj hc2)
theorem iniG {us : List Value} {Q : Value → Shared → Prop} (T : OexG X.K C newId tl) (b : BaseX B newId initId tl) (I : Inv X pins σ H s) (e : H a = some (exo a C none)) (hl : us.length ≤ sizeLine) (h : ∀ s', Inv X pins σ H s' → Q .none s') :
    wpAny (model X.prog X.w) A (call (.builtin initId) (.ref a :: us)) Q E s := by
  obtain ⟨nm, q, N, bs, bm, sn, sub, ab, col, dd, k0, k1, k2, k3, k5, hC, hbm⟩ := T.cls
  obtain ⟨t1, ho⟩ := exo_at I.hok e
  obtain ⟨hp, g, d, t, os⟩ := s
  refine wpAny_call (init_x b.I (fun Y => PySem.W.excTail_contains Y bm hbm) (I.kIn _ _ hC) ho hl fun h' t2 k hx => ?_)
  have J := I.write (t' := t) (x := a) (e := a) (o := exo a C none) (by rw [e]; exact True.intro) (.inl rfl) k ⟨_, hx⟩ (exo_ok hx)
  have eu : upd H a (exo a C none) = H := funext fun c => by
    by_cases hc : c = a
    · rw [hc, upd_same, e]
    · rw [upd_ne hc]
  exact h _ (eu ▸ J)
end
def tIni (C : Addr) (ta : TA) : TE := fun σ H Q => ta σ H fun vs H1 => ∃ (a : Addr) (ws : List V), vs = .ref a :: ws ∧ ws.length ≤ 1000 ∧ H1 a = some (exo a C none) ∧ Q .non H1
def tPut (C : Addr) (f : Str) (to te : TE) : TS := fun D σ H => te σ H fun y H1 => to σ H1 fun x H2 => ∃ a : Addr, x = .ref a ∧ H2 a = some (exo a C none) ∧ ∀ dx, H2 dx = none → dx ≠ a → D.nx σ (upd (upd H2 dx (exd dx [(f, y)])) a (exo a C (some dx)))
section
variable {X : Cx} {o e : Expr} {es : List Expr} {to te : TE} {ta : TA} {f x : Str} {p p' p1 p2 pos : Pos} {C : Addr} {B newId initId : String} {tl : List Value}
theorem pe_iniG {pl : Sem Bool} (T : OexG X.K C newId tl) (b : BaseX B newId initId tl) (hg : Gl X x) (hm : X.mg x = none) (hv : bootBuiltins x = some (.type B)) (vV : PySem.W.findCls X.K (.type B) (.type "type") "__init__" = some (.val (.builtin initId))) (ha : PA X (e :: es) ta)
    (hn : x ≠ "__name__" := by decide) (hdb : (x == ("__debug__" : Str)) = false := by decide) (hi : PySem.W.handedIn (.builtin initId) = true := by decide +kernel)
    (hc : eval (.Call (.Attribute (.Name x p1) "__init__" p2) (e :: es) [] pos) X.env = (do
      let ov ← eval (.Name x p1) X.env
      standAt p2.atName
      let (f, first) ← holding [ov] (getMethod ov "__init__" pl)
      callWith pos f first (backTo pos (starEach (e :: es) X.env)) (backToKw pos (keywordEach [] X.env))) := by rfl)
    (he : starEach (e :: es) X.env = (false, eval e X.env) :: starEach es X.env := by rfl) (hpl : (backTo pos (starEach es X.env)).any (·.1) = false := by rfl) :
    PE X (.Call (.Attribute (.Name x p1) "__init__" p2) (e :: es) [] pos) (tIni C ta) := by
  refine ⟨fun pins s σ H Q I h => ?_⟩
  refine PySem.W.methodCall_KW (ld_blt I hg hm hv ?_ hn hdb) hc
  obtain ⟨m, fr⟩ := I.fr
  refine PySem.W.method_type fr I.ok.mod.kin b.ty b.stub vV hi ?_
  show wpAny _ _ (callWith pos (Value.builtin initId) [] (backTo pos (starEach (e :: es) X.env)) []) _ _ _
  refine PyProof.Rows.callWith_method1 (thn (ha.run pos pins _ σ H _ (I.tok _) h) fun us s1 ⟨vs, H1, I1, r1, a, ws, ev, hl, ea, q⟩ => ?_) he hpl
  subst ev
  cases r1 with
  | @cons _ u0 _ ur ra rw' =>
    obtain rfl : u0 = Value.ref a := ra
    exact iniG T b I1 ea (by rw [← Paired.length rw', sizeLine_eq]; omega) fun s' J => ⟨.non, H1, J, rfl, q⟩
theorem ps_putG (T : OexG X.K C newId tl) (b : BaseX B newId initId tl) (hno : PySem.W.findIn X.K (.ref C) f = some none) (ho : PE X o to) (he : PE X e te) (hs : swapsWith e (some (.Attribute o f p')) pos.line X.env = pure false := by rfl) :
    PS X (.Assign [.Attribute o f p'] e pos) (tPut C f to te) := by
  refine ⟨fun pins s σ H D I h => ?_⟩
  refine plainObj_wpAny_Assign_Attribute (thn (he.run pins s σ H _ I h) fun v s1 ⟨y, H1, I1, r1, q1⟩ => thn (ho.run pins s1 σ H1 _ I1 q1) fun u s2 ⟨x, H2, I2, r2, a, ex, ea, q⟩ => ?_) hs
  subst ex
  obtain rfl : u = Value.ref a := r2
  exact putG T b I2 ea hno r1 fun dx s' n ne J => ⟨σ, _, J, q dx n ne⟩
end
end Fw
end
section
set_option Elab.async false
set_option maxHeartbeats 1000000
namespace Fw
open PySem PySem.Spec PyProof.Rows L2
abbrev tl_LookupError : List Value := [.type "LookupError", .type "Exception", .type "BaseException", .type "object"]
abbrev tl_IndexError : List Value := [.type "IndexError", .type "LookupError", .type "Exception", .type "BaseException", .type "object"]
abbrev tl_OverflowError : List Value := [.type "OverflowError", .type "ArithmeticError", .type "Exception", .type "BaseException", .type "object"]
abbrev tl_RuntimeError : List Value := [.type "RuntimeError", .type "Exception", .type "BaseException", .type "object"]
theorem base_LookupError : BaseX "LookupError" "LookupError.__new__" "LookupError.__init__" tl_LookupError := ⟨.of PySem.F.excBase_LookupError, .of PySem.F.excBase_LookupError, PySem.F.store_LookupError, by kernel_rfl, by decide +kernel⟩
theorem base_IndexError : BaseX "IndexError" "IndexError.__new__" "IndexError.__init__" tl_IndexError := ⟨.of PySem.F.excBase_IndexError, .of PySem.F.excBase_IndexError, PySem.F.store_IndexError, by kernel_rfl, by decide +kernel⟩
theorem base_OverflowError : BaseX "OverflowError" "OverflowError.__new__" "OverflowError.__init__" tl_OverflowError := ⟨.of PySem.F.excBase_OverflowError, .of PySem.F.excBase_OverflowError, PySem.F.store_OverflowError, by kernel_rfl, by decide +kernel⟩
theorem bt_LookupError : bootBuiltins "LookupError" = some (.type "LookupError") := by decide +kernel
theorem bt_IndexError : bootBuiltins "IndexError" = some (.type "IndexError") := by decide +kernel
theorem bt_OverflowError : bootBuiltins "OverflowError" = some (.type "OverflowError") := by decide +kernel
structure RaG (K : PySem.W.Frag) (C : Addr) (newId : String) (tl : List Value) : Prop where
  x : PySem.W.excIn K C tl newId = true
  k : PySem.W.keepIn K (.ref C) = true
  b : PySem.W.subIn K (.ref C) (.type "BaseException") = some true
  t : PySem.W.typeIn K (.ref C) = some (.type "type")
theorem raGB_ok {K : PySem.W.Frag} {C : Addr} {newId : String} {tl : List Value} (h : raGB K C tl newId = true) : RaG K C newId tl := by
  simp only [raGB, Bool.and_eq_true, beq_iff_eq] at h
  exact ⟨h.1.1.1, h.1.1.2, h.1.2, h.2⟩
theorem oxGB_ok {K : PySem.W.Frag} {C : Addr} {newId : String} {tl : List Value} (h : oxGB K C tl newId = true) : ∃ nm q N bs bm sn sub ab col dd k0 k1 k2 k3 k5, K.lookup C = some (excClassObj nm q C N bs bm true sn sub ab col dd k0 k1 k2 k3 k5 newId) ∧ PySem.W.excTail tl bm = true := by
  unfold oxGB at h
  split at h
  · rename_i t dd cd sl ho
    split at h
    · rename_i C' bm k0 k1 k2 k3 n k5 hm hs
      simp only [Bool.and_eq_true, beq_iff_eq, Bool.not_eq_true'] at h
      obtain ⟨⟨⟨⟨⟨rfl, rfl⟩, rfl⟩, hdel⟩, hdi⟩, hr⟩ := h
      obtain ⟨nm, bs, mro, ns, qn, hd, sn, sub, ab, col, del⟩ := cd
      dsimp only at hm hdel hdi
      subst hm hdel hdi
      have hsl : sl = #[k0, k1, k2, k3, some (.builtin n), k5] := by
        obtain ⟨l⟩ := sl
        simp only at hs
        rw [hs]
      subst hsl
      exact ⟨nm, qn, ns, bs, bm, sn, sub, ab, col, dd, k0, k1, k2, k3, k5, ho, hr⟩
    · cases h
  · cases h
theorem oexGB_ok {K : PySem.W.Frag} {C : Addr} {newId : String} {tl : List Value} (h : oexGB K C tl newId = true) : OexG K C newId tl := by
  simp only [oexGB, Bool.and_eq_true, beq_iff_eq] at h
  exact ⟨oxGB_ok h.1.1.1.1, h.1.1.1.2, h.1.1.2, h.1.2, h.2⟩
theorem fcTB_ok {K : PySem.W.Frag} {B initId : String} (h : fcTB K B initId = true) : PySem.W.findCls K (.type B) (.type "type") "__init__" = some (.val (.builtin initId)) := by
  unfold fcTB at h
  split at h
  · rename_i v e
    rw [e, eq_of_beq h]
  · cases h
theorem init_finG {X : Cx} {body : List Stmt} {s1 s2 : Stmt} {m f : Str} {C : Addr} {vs : List V} {H : Hp} {Q : VK} {E : XK} {σ0 : List (Option V)} (hb : body = [s1, s2]) (hsp : spI C f vs H Q E) (hσ : σ0 = vs.map some)
    (h1 : PS X s1 (tDrop (tIni C (tCons (tVar 0) (tCons (tC (.str m)) tNil))))) (h2 : PS X s2 (tPut C f (tVar 0) (tVar 1))) :
    ∃ t, PSs X body t ∧ t { nx := fun _ H' => Q .non H', rt := Q } σ0 H := by
  subst hb hσ
  refine ⟨_, pss_cons h1 (pss_cons h2 pss_nil), ?_⟩
  obtain ⟨a, y, rfl, ha, q⟩ := hsp
  exact ⟨.ref a, rfl, a, [.str m], rfl, by show 1 ≤ 1000; decide, ha, y, rfl, .ref a, rfl, a, rfl, ha, fun dx n ne => q dx n ne⟩
section
variable {X : Cx} {W : Wd} {wx : WX} {e : Expr} {fe : TM} {x : Str} {p pos pos' : Pos} {B newId initId : String} {tl : List Value}
end
end Fw
end
section
set_option Elab.async false
set_option maxHeartbeats 2000000
namespace Fw
open PySem PySem.Spec PyProof.Rows L2
def tErr (C : Addr) (sp : Sp) (ta : TA) : TE := fun σ H Q => ta σ H fun vs H1 => vs.length ≤ 1000 ∧ ∀ a, H1 a = none → sp (.ref a :: vs) (upd H1 a (exo a C none)) (fun v H2 => v = .non ∧ Q (.ref a) H2) (fun _ _ _ => False)
section
variable {X : Cx} {o e : Expr} {es : List Expr} {to te : TE} {ta : TA} {f x : Str} {p p' p1 p2 pos : Pos} {C : Addr} {B newId initId : String} {tl : List Value}
theorem pe_G {CX : CXT} {fI : Addr} {k : Nat} {fd : FuncData} {ps : List Str} {sp : Sp} (T : OexG X.K C newId tl) (b : BaseX B newId initId tl) (iC : PySem.W.findIn X.K (.ref C) "__init__" = some (some (.ref fI))) (tI : PySem.W.typeIn X.K (.ref fI) = some (.type "function"))
    (F1 : FnOk X.prog X.w X.K X.mg X.base CX k fI fd ps sp) (hr : Room (k + 1) X.A) (hb : Binds X.K fd ps []) (hx : Passes CX X (fun _ _ _ => False)) (hg : Gl X x) (hm : X.mg x = some (.ref C)) (ha : PA X (e :: es) ta)
    (hdb : (x == ("__debug__" : Str)) = false := by decide) (he : starEach (e :: es) X.env = (false, eval e X.env) :: starEach es X.env := by rfl) (hpl : (backTo pos (starEach es X.env)).any (·.1) = false := by rfl) :
    PE X (.Call (.Name x p) (e :: es) [] pos) (tErr C sp ta) := by
  refine ⟨fun pins s σ H Q I h => ?_⟩
  obtain ⟨nm, q, N, bs, bm, sn, sub, ab, col, dd, k0, k1, k2, k3, k5, hC, hbm⟩ := T.cls
  refine wpAny_Call_Name_kw (ld_glob I hg hm ?_ hdb)
  refine PySem.W.callWith_K (h₀ := X.base) I.ok.mod.kin T.kC (thn (ha.run pos pins s σ H _ I h) fun us s1 ⟨vs, H1, I1, r1, hz, q1⟩ => ⟨I1.kIn, ?_⟩) he hpl
  show wpAny _ _ (call (.ref C) us) _ _ _
  obtain ⟨hp, g, dr, tk, os⟩ := s1
  have top : hp.objs.size ≤ hp.objs.size + 1 := Nat.le_succ _
  have hq := q1 _ (I1.hok.fresh top)
  have kk : ∀ c o, hp.get? c = some o → ((hp.push (PySem.W.kdv_tup us)).push (PySem.HandSPX.excO C hp.objs.size)).get? c = some o := fun c o z => Heap.get?_push_of_some _ (Heap.get?_push_of_some _ z)
  have I2 : Inv X pins σ (upd H1 (hp.objs.size + 1) (exo (hp.objs.size + 1) C none)) ⟨(hp.push (PySem.W.kdv_tup us)).push (PySem.HandSPX.excO C hp.objs.size), g, dr, tk, os⟩ :=
    I1.laid (t' := tk) (a := hp.objs.size + 1) (o := exo (hp.objs.size + 1) C none) kk top (exo_ok (t1 := hp.objs.size) (by heap_get))
  have r2 : Vals (V.ref (hp.objs.size + 1) :: vs) (Value.ref (hp.objs.size + 1) :: us) := .cons rfl r1
  have hl : (Value.ref (hp.objs.size + 1) :: us).length = ps.length := by
    have e := r2.length
    rw [F1.len _ _ _ _ hq] at e
    exact e.symm
  refine wpAny_call (call_x b.F (fun Y => PySem.W.excTail_contains Y bm hbm) (I1.kIn _ _ hC) (PySem.W.looks_findIn I1.kIn iC) (fun self => PySem.W.bind_fn I1.kIn self tI) (by rw [← Paired.length r1, sizeLine_eq]; omega)
    (codeAny_mono (F1.run _ X.stack _ _ ⟨Value.ref (hp.objs.size + 1) :: us, []⟩ (Value.ref (hp.objs.size + 1) :: us) _ _ (fun _ _ _ => False) (hr.make C us []) (I2.env0.make C us []) (by
      have z := hb _ (Value.ref (hp.objs.size + 1) :: us) I2.kIn (by rw [List.append_nil]; exact hl)
      rwa [List.append_nil] at z) r2 hq) fun r s' hq' => ?_))
  cases r with
  | error er => exact hx pins σ _ _ er s' I2 hq'
  | ok fl =>
    cases fl with
    | ret u =>
      obtain ⟨v, H', I4, rv, ev, q3⟩ := I2.after hq'
      subst ev
      exact ⟨rv, .ref (hp.objs.size + 1), H', I4, rfl, q3⟩
    | next => exact False.elim hq'
    | brk => exact False.elim hq'
    | cont => exact False.elim hq'
def BkE (K : PySem.W.Frag) (fd : FuncData) (ps : List Str) (f : Str) : Prop := ∀ (s : Shared) (u w : Value), K.In s.heap → BindsTo s fd ⟨[u], [(f, w)]⟩ (ps.zip [u, w])
def tErrK (C : Addr) (sp : Sp) (tk : TA) : TE := fun σ H Q => tk σ H fun vs H1 => vs.length = 1 ∧ ∀ a, H1 a = none → sp (.ref a :: vs) (upd H1 a (exo a C none)) (fun v H2 => v = .non ∧ Q (.ref a) H2) (fun _ _ _ => False)
theorem pe_GK {CX : CXT} {fI : Addr} {k : Nat} {fd : FuncData} {ps : List Str} {sp : Sp} {tk : TA} {kws : List Keyword} (T : OexG X.K C newId tl) (b : BaseX B newId initId tl) (iC : PySem.W.findIn X.K (.ref C) "__init__" = some (some (.ref fI))) (tI : PySem.W.typeIn X.K (.ref fI) = some (.type "function"))
    (F1 : FnOk X.prog X.w X.K X.mg X.base CX k fI fd ps sp) (hr : Room (k + 1) X.A) (hb : BkE X.K fd ps f) (hx : Passes CX X (fun _ _ _ => False)) (hg : Gl X x) (hm : X.mg x = some (.ref C)) (hkw : PK X kws tk)
    (hall : (backToKw pos (keywordEach kws X.env)).all (·.1.isSome) = true := by rfl) (hks : (backToKw pos (keywordEach kws X.env)).filterMap (·.1) = [f] := by rfl) (hdb : (x == ("__debug__" : Str)) = false := by decide)
    (hpl : ((backTo pos (starEach [] X.env)).any (·.1) || (backToKw pos (keywordEach kws X.env)).any (·.1.isNone)) = false := by rfl) :
    PE X (.Call (.Name x p) [] kws pos) (tErrK C sp tk) := by
  refine ⟨fun pins s σ H Q I h => ?_⟩
  obtain ⟨nm, q, N, bs, bm, sn, sub, ab, col, dd, k0, k1, k2, k3, k5, hC, hbm⟩ := T.cls
  refine wpAny_Call_Name_kw (ld_glob I hg hm ?_ hdb)
  refine PySem.W.callWith_KW0 (h₀ := X.base) I.ok.mod.kin T.kC hall ?_ hpl
  refine thn (hkw.run pos pins s σ H _ I h) fun us s1 ⟨vs, H1, I1, r1, hz, q1⟩ => ⟨I1.kIn, ?_⟩
  rw [hks]
  show wpAny _ _ (call (.ref C) [] ([f].zip us)) _ _ _
  obtain ⟨hp, g, dr, tk', os⟩ := s1
  have top : hp.objs.size ≤ hp.objs.size + 1 := Nat.le_succ _
  have hq := q1 _ (I1.hok.fresh top)
  have kk : ∀ c o, hp.get? c = some o → ((hp.push (PySem.W.kdv_tup [])).push (PySem.HandSPX.excO C hp.objs.size)).get? c = some o := fun c o z => Heap.get?_push_of_some _ (Heap.get?_push_of_some _ z)
  have I2 : Inv X pins σ (upd H1 (hp.objs.size + 1) (exo (hp.objs.size + 1) C none)) ⟨(hp.push (PySem.W.kdv_tup [])).push (PySem.HandSPX.excO C hp.objs.size), g, dr, tk', os⟩ :=
    I1.laid (t' := tk') (a := hp.objs.size + 1) (o := exo (hp.objs.size + 1) C none) kk top (exo_ok (t1 := hp.objs.size) (by heap_get))
  have hu : us.length = 1 := by rw [← r1.length]; exact hz
  obtain ⟨w, rfl⟩ := List.length_eq_one_iff.mp hu
  have r2 : Vals (V.ref (hp.objs.size + 1) :: vs) [Value.ref (hp.objs.size + 1), w] := .cons rfl r1
  refine wpAny_call (call_x b.F (fun Y => PySem.W.excTail_contains Y bm hbm) (I1.kIn _ _ hC) (PySem.W.looks_findIn I1.kIn iC) (fun self => PySem.W.bind_fn I1.kIn self tI) (Nat.zero_le _)
    (codeAny_mono (F1.run _ X.stack _ _ ⟨[Value.ref (hp.objs.size + 1)], [f].zip [w]⟩ [Value.ref (hp.objs.size + 1), w] _ _ (fun _ _ _ => False) (hr.make C [] ([f].zip [w])) (I2.env0.make C [] ([f].zip [w])) (hb _ (Value.ref (hp.objs.size + 1)) w I2.kIn) r2 hq) fun r s' hq' => ?_))
  cases r with
  | error er => exact hx pins σ _ _ er s' I2 hq'
  | ok fl =>
    cases fl with
    | ret u =>
      obtain ⟨v, H', I4, rv, ev, q3⟩ := I2.after hq'
      subst ev
      exact ⟨rv, .ref (hp.objs.size + 1), H', I4, rfl, q3⟩
    | next => exact False.elim hq'
    | brk => exact False.elim hq'
    | cont => exact False.elim hq'
end
end Fw
end
section
set_option Elab.async false
set_option maxHeartbeats 2000000
namespace Fw
open PySem PySem.Spec PyProof.Rows L2
def eErr (c fk : Nat) (e : TM) : TM := fun σ h => (e σ h).bind fun d h => .ok (.obj c [(fk, d)]) h
def eErr0 (c : Nat) (e : TM) : TM := fun σ h => (e σ h).bind fun _ h => .ok (.obj c []) h
def eErrK (c fk : Nat) (e : AM) : TM := fun σ h => (e σ h).bind fun ds h => match ds with
  | [d] => .ok (.obj c [(fk, d)]) h
  | _ => .bad
def isErrD (tab : List (Nat × Bool)) : D → Option D
  | .obj c _ => (tab.lookup c).map .bl
  | _ => none
def eIsE (tab : List (Nat × Bool)) (a : TM) : TM := fun σ h => (a σ h).bind fun d h => opt (isErrD tab d) h
def fldErrD (cs : List Nat) (fk : Nat) : D → Option D
  | .obj c fs => if c ∈ cs then fs.lookup fk else none
  | _ => none
def eFldE (cs : List Nat) (fk : Nat) (a : TM) : TM := fun σ h => (a σ h).bind fun d h => opt (fldErrD cs fk d) h
section
variable {W : Wd} {Z ρ : List Addr} {h : Hh} {H : Hp}
theorem laid2 {a dx : Addr} {o1 o2 o3 : HO} (na : dx ≠ a) : upd (upd (upd H a o1) dx o2) a o3 = upd (upd H dx o2) a o3 := by
  funext b
  by_cases hb : b = a
  · subst hb
    rw [upd_same, upd_same]
  · rw [upd_ne hb, upd_ne hb]
    by_cases hd : b = dx
    · subst hd
      rw [upd_same, upd_same]
    · rw [upd_ne hd, upd_ne hd, upd_ne hb]
theorem err_new (S : Sim W Z ρ h H) {c fk : Nat} (hc : 100 ≤ c) {d : D} {v : V} (rv : RD W Z ρ H d v) {a dx : Addr} (ha : H a = none) (hd : H dx = none) (na : dx ≠ a) :
    Ext ρ H ρ (upd (upd H dx (exd dx [(W.an fk, v)])) a (exo a (W.ca c) (some dx))) ∧ Sim W Z ρ h (upd (upd H dx (exd dx [(W.an fk, v)])) a (exo a (W.ca c) (some dx))) ∧
      RD W Z ρ (upd (upd H dx (exd dx [(W.an fk, v)])) a (exo a (W.ca c) (some dx))) (.obj c [(fk, d)]) (.ref a) := by
  have n1 : upd H dx (exd dx [(W.an fk, v)]) a = none := by rw [upd_ne (Ne.symm na)]; exact ha
  have x1 : Ext ρ H ρ (upd H dx (exd dx [(W.an fk, v)])) := Ext.laid hd
  have x2 : Ext ρ (upd H dx (exd dx [(W.an fk, v)])) ρ (upd (upd H dx (exd dx [(W.an fk, v)])) a (exo a (W.ca c) (some dx))) := Ext.laid n1
  have S1 := S.laid (o := exd dx [(W.an fk, v)]) hd
  have S2 := S1.laid (o := exo a (W.ca c) (some dx)) n1
  refine ⟨x1.trans x2, S2, .obj (S.new ha).1 (S.new ha).2 (.inr (.inr ⟨hc, dx, upd_same, ?_, (S.new hd).1, (S.new hd).2⟩)) (.cons ((rv.mono x1).mono x2) .nil)⟩
  rw [upd_ne na]
  exact upd_same
end
section
variable {X : Cx} {W : Wd} {wx : WX} {e : Expr} {fe : TM} {x : Str} {p pos : Pos} {B newId initId : String} {tl : List Value} {c k fk : Nat} {fI : Addr} {f : Str}
theorem ej_err (J : Js X W wx) (b : BaseX B newId initId tl) (hf : f = W.an fk) (T : OexG X.K (W.ca c) newId tl) (iC : PySem.W.findIn X.K (.ref (W.ca c)) "__init__" = some (some (.ref fI))) (tI : PySem.W.typeIn X.K (.ref fI) = some (.type "function"))
    (F1 : ∃ fd ps, FnOk X.prog X.w X.K X.mg X.base CX0 1 fI fd ps (spI (W.ca c) f) ∧ Binds X.K fd ps []) (hr : RoomG k X.A) (hm : X.mg x = some (.ref (W.ca c))) (he : EJ X W wx e fe) (hc : 100 ≤ c := by decide) (hg : Gl X x := by rfl)
    (hs : starEach [e] X.env = (false, eval e X.env) :: starEach [] X.env := by rfl) (hpl : (backTo pos (starEach [] X.env)).any (·.1) = false := by rfl) (hdb : (x == ("__debug__" : Str)) = false := by decide) :
    EJ X W wx (.Call (.Name x p) [e] [] pos) (eErr c fk fe) :=
  let ⟨fd, ps, F1, hb⟩ := F1
  ⟨fun pins s σ H Q I ⟨Z, ρ, σd, h0, S, rs, q⟩ => (pe_G T b iC tI F1 ⟨hr.hd, by have := hr.dp; omega, by have := hr.un; omega⟩ hb pass0 hg hm (pa_cons he pa_nil hs) hdb hs hpl).run pins s σ H Q I
    ⟨Z, ρ, σd, h0, S, rs, (Post.bind q).imp fun d ρ1 h1 H1 x1 S1 p1 v rv => ⟨by show 1 ≤ 1000; decide, fun a ha => ⟨a, v, rfl, upd_same, fun dx hdx ne => ⟨rfl, by
      have n : H1 dx = none := by rwa [upd_ne ne] at hdx
      rw [laid2 ne, hf]
      obtain ⟨y1, y2, y3⟩ := err_new S1 (fk := fk) hc rv ha n ne
      exact p1 ρ1 _ y1 y2 _ y3⟩⟩⟩⟩⟩
theorem ej_errK {kws : List Keyword} {fk2 : AM} (J : Js X W wx) (b : BaseX B newId initId tl) (hf : f = W.an fk) (T : OexG X.K (W.ca c) newId tl) (iC : PySem.W.findIn X.K (.ref (W.ca c)) "__init__" = some (some (.ref fI))) (tI : PySem.W.typeIn X.K (.ref fI) = some (.type "function"))
    (F1 : ∃ fd ps, FnOk X.prog X.w X.K X.mg X.base CX0 1 fI fd ps (spI (W.ca c) f) ∧ BkE X.K fd ps f) (hr : RoomG k X.A) (hm : X.mg x = some (.ref (W.ca c))) (hkw : KJ X W wx kws fk2) (hl : Len fk2 1) (hc : 100 ≤ c := by decide) (hg : Gl X x := by rfl)
    (hall : (backToKw pos (keywordEach kws X.env)).all (·.1.isSome) = true := by rfl) (hks : (backToKw pos (keywordEach kws X.env)).filterMap (·.1) = [f] := by rfl) (hdb : (x == ("__debug__" : Str)) = false := by decide)
    (hpl : ((backTo pos (starEach [] X.env)).any (·.1) || (backToKw pos (keywordEach kws X.env)).any (·.1.isNone)) = false := by rfl) :
    EJ X W wx (.Call (.Name x p) [] kws pos) (eErrK c fk fk2) :=
  let ⟨fd, ps, F1, hb⟩ := F1
  ⟨fun pins s σ H Q I ⟨Z, ρ, σd, h0, S, rs, q⟩ => (pe_GK T b iC tI F1 ⟨hr.hd, by have := hr.dp; omega, by have := hr.un; omega⟩ hb pass0 hg hm hkw hall hks hdb hpl).run pins s σ H Q I
    ⟨Z, ρ, σd, h0, S, rs, (hl.post (Post.bind q)).imp fun ds ρ1 h1 H1 x1 S1 p1 vs rvs => ⟨by rw [← rvs.length]; exact p1.1, fun a ha => by
      obtain ⟨hl1, p1⟩ := p1
      obtain ⟨d, rfl⟩ := List.length_eq_one_iff.mp hl1
      cases rvs with
      | cons rv t =>
        cases t
        rename_i v
        exact ⟨a, v, rfl, upd_same, fun dx hdx ne => ⟨rfl, by
          have n : H1 dx = none := by rwa [upd_ne ne] at hdx
          rw [laid2 ne, hf]
          obtain ⟨y1, y2, y3⟩ := err_new S1 (fk := fk) hc rv ha n ne
          exact p1 ρ1 _ y1 y2 _ y3⟩⟩⟩⟩⟩
theorem ej_err0 (F : ExcBaseFacts B newId initId tl) (hR : RaG X.K (W.ca c) newId tl) (hm : X.mg x = some (.ref (W.ca c))) (he : EJ X W wx e fe) (hc : 100 ≤ c := by decide) (hg : Gl X x := by rfl) (hs : starEach [e] X.env = (false, eval e X.env) :: starEach [] X.env := by rfl) (hdb : (x == ("__debug__" : Str)) = false := by decide) :
    EJ X W wx (.Call (.Name x p) [e] [] pos) (eErr0 c fe) :=
  ⟨fun pins s σ H Q I ⟨Z, ρ, σd, h0, S, rs, q⟩ => (pe_exc1 F hR.x hm hR.k hg he hs hdb).run pins s σ H Q I
    ⟨Z, ρ, σd, h0, S, rs, (Post.bind q).imp fun d ρ1 h1 H1 x1 S1 p1 v rv => fun a ha => p1 ρ1 _ (Ext.laid ha) (S1.laid ha) _ (.obj (S1.new ha).1 (S1.new ha).2 (.inr (.inl ⟨hc, rfl, upd_same⟩)) .nil)⟩⟩
end
end Fw
end
section
set_option Elab.async false
set_option maxHeartbeats 2000000
namespace Fw
open PySem PySem.Spec PyProof.Rows L2
def ErrAt (H : Hp) (a D : Addr) : Prop := H a = some (ExO (.ref D) a) ∨ ∃ dx gs, H a = some (exo a D (some dx)) ∧ H dx = some (exd dx gs)
section
variable {X : Cx} {W : Wd} {wx : WX} {a b : Expr} {fa : TM} {p pos : Pos} {f : Str}
theorem err_inst {pins : List (Addr × Obj)} {σ : L2.St} {H : Hp} {s : Shared} {x D : Addr} (I : Inv X pins σ H s) (e : ErrAt H x D) : ∃ oe od, PySem.W.InstAt s.heap x oe D od := by
  rcases e with e | ⟨dx, gs, e, e2⟩
  · obtain ⟨⟨oe, vs, h1, h2, h3, _⟩, _⟩ := (show ObjOk X.prog X.w H s.heap x (ExO (.ref D) x) from I.hok x _ e)
    exact ⟨oe, none, h1, h2.1, by unfold PySem.W.notCls; rw [h3] <;> rfl, by rw [h2.2]; trivial⟩
  · obtain ⟨t1, h1⟩ := exo_at I.hok e
    obtain ⟨⟨mA, hns, _⟩, _⟩ := (show ObjOk X.prog X.w H s.heap dx (exd dx gs) from I.hok dx _ e2)
    obtain ⟨od, ho, hl⟩ := lookIn_ns hns
    exact ⟨_, some od, h1, rfl, rfl, ho⟩
theorem call_isV : CallR X (.builtin "isinstance") (fun xs H Q => ∃ (x : Addr) (c : V) (u : Value) (D : Addr) (k : Bool), xs = [.ref x, c] ∧ (∀ w, RelV c w → w = u) ∧ ExcC X.K D ∧ PySem.W.kitOne X.K (.ref D) u = some k ∧ ErrAt H x D ∧ Q (.bl k) H) := by
  intro pins s σ H xs us Q I r h
  obtain ⟨x, c, u, D, k, rfl, hcv, C, e, hx, q⟩ := h
  obtain ⟨u1, u2, rfl, rx, rt⟩ := vals2 r
  cases rx
  have ec := hcv _ rt
  subst ec
  obtain ⟨oe, od, J⟩ := err_inst I hx
  have hcl : (PySem.W.clsIn X.K D).isSome = true := by
    obtain ⟨cd, hc, _⟩ := PySem.W.any_some C.hd
    rw [hc]; rfl
  exact PySem.W.kia_one (PySem.W.kitx_exc hcl C.hg C.hk C.hs C.ha C.hn C.ht C.hm) I.kIn J e (fun z => nomatch z) fun tk => ⟨.bl k, H, I.kept (t' := tk) fun _ _ z => z, rfl, q⟩
def TabOk (K : PySem.W.Frag) (W : Wd) (u : Value) (tab : List (Nat × Bool)) : Prop := ∀ q ∈ tab, 100 ≤ q.1 ∧ ExcC K (W.ca q.1) ∧ PySem.W.kitOne K (.ref (W.ca q.1)) u = some q.2
theorem lk_mem {c : Nat} {k : Bool} : ∀ {tab : List (Nat × Bool)}, tab.lookup c = some k → (c, k) ∈ tab
  | [], h => by cases h
  | q :: t, h => by
    obtain ⟨j, m⟩ := q
    simp only [List.lookup] at h
    split at h
    · rename_i e
      cases h
      cases eq_of_beq e
      exact List.mem_cons_self
    · exact List.mem_cons_of_mem _ (lk_mem h)
theorem obErr {Z ρ : List Addr} {H : Hp} {x : Addr} {c : Nat} {gs : List (Str × V)} (q : ObAt W Z ρ H x c gs) (hc : 100 ≤ c) : ErrAt H x (W.ca c) := by
  rcases q with ⟨g, _⟩ | ⟨_, _, e⟩ | ⟨_, dx, e, e2, _⟩
  · omega
  · exact .inl e
  · exact .inr ⟨dx, gs, e, e2⟩
theorem ej_isE {cv : V} {u : Value} {tab : List (Nat × Bool)} (ha : EJ X W wx a fa) (hb : PE X b (tC cv)) (hcv : ∀ w, RelV cv w → w = u) (hp : TabOk X.K W u tab)
    (hg : Gl X "isinstance" := by rfl) (hm : X.mg "isinstance" = none := by assumption) (hv : bootBuiltins "isinstance" = some (.builtin "isinstance") := by rfl)
    (he : starEach [a, b] X.env = (false, eval a X.env) :: starEach [b] X.env := by rfl) (he2 : starEach [b] X.env = (false, eval b X.env) :: starEach [] X.env := by rfl) (hpl : (backTo pos (starEach [b] X.env)).any (·.1) = false := by rfl) :
    EJ X W wx (.Call (.Name "isinstance" p) [a, b] [] pos) (eIsE tab fa) :=
  ⟨fun pins s σ H Q I ⟨Z, ρ, σd, h0, S, rs, pp⟩ => (pe_callB call_isV hg hm hv (pa_cons ha (pa_cons hb pa_nil he2) he) (by decide) (by decide) he hpl).run pins s σ H Q I
    ⟨Z, ρ, σd, h0, S, rs, (Post.bind pp).imp fun d ρ1 h1 H1 x1 S1 p1 v rv => by
      obtain ⟨r, e, hA⟩ := post_opt p1
      cases d with
      | obj c fs =>
        simp only [isErrD, Option.map_eq_some_iff] at e
        obtain ⟨k, e1, rfl⟩ := e
        obtain ⟨q1, q2, q3⟩ := hp _ (lk_mem e1)
        cases rv with
        | obj z1 z2 z3 z4 => exact ⟨_, cv, u, _, k, rfl, hcv, q2, q3, obErr z3 q1, hA.now S1 (.bl _)⟩
      | _ => simp [isErrD] at e⟩⟩
def tFE (n : Str) (te : TE) : TE := fun σ H Q => te σ H fun v H1 => ∃ (x D dx : Addr) (gs : List (Str × V)) (u : V), v = .ref x ∧ H1 x = some (exo x D (some dx)) ∧ H1 dx = some (exd dx gs) ∧ XfC X.K D ∧ PySem.W.findIn X.K (.ref D) n = some none ∧ gs.lookup n = some u ∧ Q u H1
theorem pe_fldE {e : Expr} {te : TE} {n : Str} (he : PE X e te) (hb : attributeBase e n X.env (eval e X.env) = eval e X.env := by rfl) :
    PE X (.Attribute e n pos) (tFE (X := X) n te) := by
  constructor
  intro pins s σ H Q I h
  refine attr_of hb (thn (he.run pins s σ H _ I h) ?_)
  rintro u s1 ⟨v, G, I1, rx, x, C, d1, fs, w, rfl, ex, ed, T, hno, l, q⟩
  cases (show u = Value.ref x from rx)
  obtain ⟨t1, h1⟩ := exo_at I1.hok ex
  obtain ⟨⟨mA, hns, hr⟩, _⟩ := (show ObjOk X.prog X.w G s1.heap d1 (exd d1 fs) from I1.hok d1 _ ed)
  obtain ⟨od, ho, hl⟩ := lookIn_ns hns
  have hr2 := hr n
  rw [l] at hr2
  obtain ⟨u, hu, ru⟩ := RelO.some_of hr2
  have inst : PySem.W.InstAt s1.heap x _ C (some od) := ⟨h1, rfl, rfl, ho⟩
  exact HandSPX.exc_get I1.kIn inst T.ga T.gg T.exC (PySem.W.findObj_own T.hdC hno rfl (by rw [hl, hu])) (handed_of ru) ⟨w, G, I1.tok _, ru, q⟩
theorem ej_fldE {cs : List Nat} {fk : Nat} (ha : EJ X W wx a fa) (hx : f = W.an fk) (hp : ∀ c ∈ cs, 100 ≤ c ∧ XfC X.K (W.ca c) ∧ PySem.W.findIn X.K (.ref (W.ca c)) f = some none) (hb : attributeBase a f X.env (eval a X.env) = eval a X.env := by rfl) :
    EJ X W wx (.Attribute a f pos) (eFldE cs fk fa) :=
  ⟨fun pins s σ H Q I ⟨Z, ρ, σd, h0, S, rs, pp⟩ => (pe_fldE ha hb).run pins s σ H Q I
    ⟨Z, ρ, σd, h0, S, rs, (Post.bind pp).imp fun d ρ1 h1 H1 x1 S1 p1 v rv => by
      obtain ⟨r, e, hA⟩ := post_opt p1
      cases d with
      | obj c fs =>
        simp only [fldErrD] at e
        split at e
        · rename_i hc
          obtain ⟨q1, q2, q3⟩ := hp _ hc
          cases rv with
          | obj z1 z2 z3 z4 =>
            obtain ⟨u, e5, ru⟩ := rfs_look z4 e
            rcases z3 with ⟨g, _⟩ | ⟨_, g, _⟩ | ⟨_, dx, e1, e2, _⟩
            · omega
            · rw [g] at e5
              cases e5
            · exact ⟨_, _, dx, _, u, rfl, e1, e2, q2, q3, by rw [hx]; exact e5, hA.now S1 ru⟩
        · cases e
      | _ => simp [fldErrD] at e⟩⟩
end
theorem tabE_ok {K : PySem.W.Frag} {W : Wd} {u : Value} {tab : List (Nat × Bool)} {l : List (Addr × Bool)} {l2 : List Addr} (h1 : eTabB K u l = true) (h2 : eExB K l2 = true) (e1 : tab.map (fun q => (W.ca q.1, q.2)) = l := by rfl) (e2 : tab.map (fun q => W.ca q.1) = l2 := by rfl)
    (h3 : tab.all (fun q => decide (100 ≤ q.1)) = true := by decide) : TabOk K W u tab := fun q hq => by
  subst e1 e2
  refine ⟨of_decide_eq_true (List.all_eq_true.mp h3 q hq), isB_ok (List.all_eq_true.mp h2 _ (List.mem_map_of_mem hq)), ?_⟩
  exact eq_of_beq (List.all_eq_true.mp h1 _ (List.mem_map_of_mem (f := fun q : Nat × Bool => (W.ca q.1, q.2)) hq))
theorem fldE_ok {K : PySem.W.Frag} {W : Wd} {f : Str} {cs : List Nat} {l : List Addr} (h1 : eFdB K f l = true) (e1 : cs.map W.ca = l := by rfl) (h3 : cs.all (fun q => decide (100 ≤ q)) = true := by decide) :
    ∀ c ∈ cs, 100 ≤ c ∧ XfC K (W.ca c) ∧ PySem.W.findIn K (.ref (W.ca c)) f = some none := fun c hc => by
  subst e1
  have := List.all_eq_true.mp h1 _ (List.mem_map_of_mem hc)
  rw [Bool.and_eq_true] at this
  exact ⟨of_decide_eq_true (List.all_eq_true.mp h3 c hc), xfB_ok this.1, eq_of_beq this.2⟩
abbrev tl_ValueError : List Value := [.type "ValueError", .type "Exception", .type "BaseException", .type "object"]
abbrev tl_KeyError : List Value := [.type "KeyError", .type "LookupError", .type "Exception", .type "BaseException", .type "object"]
theorem base_ValueError : BaseX "ValueError" "ValueError.__new__" "ValueError.__init__" tl_ValueError := ⟨.of PySem.F.excBase_ValueError, .of PySem.F.excBase_ValueError, PySem.F.store_ValueError, by kernel_rfl, by decide +kernel⟩
theorem ke_new : NewX "LookupError.__new__" tl_KeyError := ⟨_, _, _, PySem.F.excBase_LookupError, by decide +kernel, by decide +kernel, by decide +kernel⟩
theorem ke_ini : IniX "KeyError" "KeyError.__init__" tl_KeyError := ⟨excClass_KeyError.init, excClass_KeyError.initEntry, excClass_KeyError.initKind, excClass_KeyError.initSplit, excClass_KeyError.initSig, excClass_KeyError.notStar, by decide +kernel⟩
theorem ke_store : StoreFacts "KeyError" tl_KeyError "object.__setattr__" "object" :=
  { mro := by kernel_rfl, slot := .of (owner := "object") (n := "__setattr__") (by (rw [typeLookup_type, builtinLookup_eq_fast]; kernel_rfl)) (by decide +kernel) (by decide +kernel) (by decide +kernel) (by first | exact .inl (by decide +kernel) | exact .inr (by decide +kernel)) (by (rw [isSubtype_type]; kernel_rfl)),
    entry := PySem.F.entry_object_sa, kind := by decide +kernel, split := by decide +kernel, hasOwner := by decide +kernel, args := fun a b c => by (unfold argsOk; kernel_rfl), passes := fun self => by kernel_rfl }
theorem base_KeyError : BaseX "KeyError" "LookupError.__new__" "KeyError.__init__" tl_KeyError := ⟨ke_new, ke_ini, ke_store, by kernel_rfl, by decide +kernel⟩
theorem bt_KeyError : bootBuiltins "KeyError" = some (.type "KeyError") := by decide +kernel
theorem FunD.bke {K : PySem.W.Frag} {x qual : Str} {params : Arguments} {body : List Stmt} {scope : Scope} {kws : List (Str × V)} {a : Addr} {fd : FuncData} {ps : List Str} {f : Str} (D : L2.FunD K x qual params body scope [] kws a fd)
    (h : ∀ (kV doc pm : Value) (an : Option Addr) (cdv ct u w : Value), bindArgs (PySem.W.fnOf x qual params body scope .none kV doc pm an cdv ct) ⟨[u], [(f, w)]⟩ = pure (ps.zip [u, w])) : BkE K fd ps f := by
  obtain ⟨oc, od, dV, kV, doc, pm, an, cdv, ct, osl, rfl, _, _, hd, _⟩ := D.ex
  have e : dV = .none := by
    rcases hd with ⟨_, e⟩ | ⟨ne, _⟩
    · exact e
    · exact absurd rfl ne
  subst e
  intro s u w hk M A E Q hq
  rw [h]
  exact wpAny_pure hq
end Fw
end
section
set_option Elab.async false
set_option maxHeartbeats 0
namespace Lw
open PySem PySem.Spec PyProof.Rows L2 Fw
abbrev N0 : List Str := ["_law_one", "_law_found"]
abbrev ps0 : List Str := ["_law_one"]
theorem sc0 : FnScope N0 ps0 (defScope st0) := ⟨rfl, rfl, rfl, by decide +kernel, rfl, by decide +kernel, by decide +kernel⟩
abbrev N1 : List Str := ["_law_e", "_law_found"]
abbrev ps1 : List Str := ["_law_e"]
theorem sc1 : FnScope N1 ps1 (defScope st1) := ⟨rfl, rfl, rfl, by decide +kernel, rfl, by decide +kernel, by decide +kernel⟩
abbrev N2 : List Str := ["_law_e", "_law_found"]
abbrev ps2 : List Str := ["_law_e"]
theorem sc2 : FnScope N2 ps2 (defScope st2) := ⟨rfl, rfl, rfl, by decide +kernel, rfl, by decide +kernel, by decide +kernel⟩
abbrev N3 : List Str := ["_law_at", "_law_due", "_law_k"]
abbrev ps3 : List Str := ["_law_at"]
theorem sc3 : FnScope N3 ps3 (defScope st3) := ⟨rfl, rfl, rfl, by decide +kernel, rfl, by decide +kernel, by decide +kernel⟩
abbrev N4 : List Str := ["_law_some", "_law_found"]
abbrev ps4 : List Str := ["_law_some"]
theorem sc4 : FnScope N4 ps4 (defScope st4) := ⟨rfl, rfl, rfl, by decide +kernel, rfl, by decide +kernel, by decide +kernel⟩
abbrev N5 : List Str := ["_law_script", "_law_k", "_law_cell", "_law_seed"]
abbrev ps5 : List Str := ["_law_script", "_law_k"]
theorem sc5 : FnScope N5 ps5 (defScope st5) := ⟨rfl, rfl, rfl, by decide +kernel, rfl, by decide +kernel, by decide +kernel⟩
abbrev N6 : List Str := ["_law_pool_here", "_law_count", "_law_found"]
abbrev ps6 : List Str := ["_law_pool_here", "_law_count"]
theorem sc6 : FnScope N6 ps6 (defScope st6) := ⟨rfl, rfl, rfl, by decide +kernel, rfl, by decide +kernel, by decide +kernel⟩
abbrev N7 : List Str := ["_law_one", "_law_found"]
abbrev ps7 : List Str := ["_law_one"]
theorem sc7 : FnScope N7 ps7 (defScope st7) := ⟨rfl, rfl, rfl, by decide +kernel, rfl, by decide +kernel, by decide +kernel⟩
abbrev N8 : List Str := ["_law_script", "_law_things", "_law_k", "_law_pool_here", "_law_one", "_law_some", "_law_at", "_law_e"]
abbrev ps8 : List Str := ["_law_script"]
theorem sc8 : FnScope N8 ps8 (defScope st8) := ⟨rfl, rfl, rfl, by decide +kernel, rfl, by decide +kernel, by decide +kernel⟩
abbrev N918 : List Str := ["self", "many"]
abbrev ps918 : List Str := ["self", "many"]
theorem sc918 : FnScope N918 ps918 (defScope st918) := ⟨rfl, rfl, rfl, by decide +kernel, rfl, by decide +kernel, by decide +kernel⟩
abbrev N915 : List Str := ["self", "name"]
abbrev ps915 : List Str := ["self", "name"]
theorem sc915 : FnScope N915 ps915 (defScope st915) := ⟨rfl, rfl, rfl, by decide +kernel, rfl, by decide +kernel, by decide +kernel⟩
abbrev N914 : List Str := ["self", "number"]
abbrev ps914 : List Str := ["self", "number"]
theorem sc914 : FnScope N914 ps914 (defScope st914) := ⟨rfl, rfl, rfl, by decide +kernel, rfl, by decide +kernel, by decide +kernel⟩
abbrev N913 : List Str := ["self", "number"]
abbrev ps913 : List Str := ["self", "number"]
theorem sc913 : FnScope N913 ps913 (defScope st913) := ⟨rfl, rfl, rfl, by decide +kernel, rfl, by decide +kernel, by decide +kernel⟩
abbrev N912 : List Str := ["self", "number"]
abbrev ps912 : List Str := ["self", "number"]
theorem sc912 : FnScope N912 ps912 (defScope st912) := ⟨rfl, rfl, rfl, by decide +kernel, rfl, by decide +kernel, by decide +kernel⟩
abbrev N906 : List Str := ["self", "number"]
abbrev ps906 : List Str := ["self", "number"]
theorem sc906 : FnScope N906 ps906 (defScope st906) := ⟨rfl, rfl, rfl, by decide +kernel, rfl, by decide +kernel, by decide +kernel⟩
abbrev N905 : List Str := ["self", "number"]
abbrev ps905 : List Str := ["self", "number"]
theorem sc905 : FnScope N905 ps905 (defScope st905) := ⟨rfl, rfl, rfl, by decide +kernel, rfl, by decide +kernel, by decide +kernel⟩
abbrev N904 : List Str := ["self", "number"]
abbrev ps904 : List Str := ["self", "number"]
theorem sc904 : FnScope N904 ps904 (defScope st904) := ⟨rfl, rfl, rfl, by decide +kernel, rfl, by decide +kernel, by decide +kernel⟩
abbrev N903 : List Str := ["self", "place"]
abbrev ps903 : List Str := ["self", "place"]
theorem sc903 : FnScope N903 ps903 (defScope st903) := ⟨rfl, rfl, rfl, by decide +kernel, rfl, by decide +kernel, by decide +kernel⟩
abbrev N902 : List Str := ["self", "place"]
abbrev ps902 : List Str := ["self", "place"]
theorem sc902 : FnScope N902 ps902 (defScope st902) := ⟨rfl, rfl, rfl, by decide +kernel, rfl, by decide +kernel, by decide +kernel⟩
abbrev N901 : List Str := ["self", "place"]
abbrev ps901 : List Str := ["self", "place"]
theorem sc901 : FnScope N901 ps901 (defScope st901) := ⟨rfl, rfl, rfl, by decide +kernel, rfl, by decide +kernel, by decide +kernel⟩
abbrev N900 : List Str := ["self", "place"]
abbrev ps900 : List Str := ["self", "place"]
theorem sc900 : FnScope N900 ps900 (defScope st900) := ⟨rfl, rfl, rfl, by decide +kernel, rfl, by decide +kernel, by decide +kernel⟩
abbrev flds : List Str := ["place", "number", "name", "many"]
def Wk (K : PySem.W.Frag) : Wd where
  K := K
  fa := faW K
  ca := fun c => match c with
    | 100 => He.ga K "NoFile"
    | 101 => He.ga K "NoOld"
    | 102 => He.ga K "NoChain"
    | 103 => He.ga K "NoWhole"
    | 104 => He.ga K "NoDeed"
    | 105 => He.ga K "NoPages"
    | 106 => He.ga K "Ring"
    | 107 => He.ga K "NoValue"
    | 108 => He.ga K "NoPiece"
    | 109 => He.ga K "NoTo"
    | 110 => He.ga K "NoSeal"
    | 111 => He.ga K "NoRow"
    | 112 => He.ga K "NoThing"
    | 113 => He.ga K "NoWriting"
    | 114 => He.ga K "NoPage"
    | 115 => He.ga K "NoName"
    | 116 => He.ga K "Bare"
    | 117 => He.ga K "Waiting"
    | 118 => He.ga K "TooMany"
    | _ => 0
  an := anOf flds
  inj := anOf_inj (by decide +kernel) (by decide +kernel)
def b__law_made (c : Nat → List D → Hh → R D) (F : Nat) : SM := (sCons (sSet 1 (eLst (aCons (eErrK 100 0 (aCons (eV 0) aNil)) (aCons (eErr 101 0 (eV 0)) (aCons (eErr 102 0 (eV 0)) (aCons (eErr 103 0 (eV 0)) (aCons (eErrK 104 1 (aCons (eV 0) aNil)) (aCons (eErr 105 1 (eV 0)) (aCons (eErr 106 1 (eV 0)) aNil)))))))))
 (sCons (sSet 1 (eBin .add (eV 1) (eLst (aCons (eErr0 107 (eC (.str [97]))) (aCons (eErr0 108 (eC (.str [97]))) (aCons (eErr0 109 (eC (.str [97]))) (aCons (eErr0 110 (eC (.str [97]))) (aCons (eErr0 111 (eC (.str [97]))) (aCons (eErr 112 1 (eV 0)) (aCons (eErr 113 1 (eV 0)) aNil))))))))))
 (sCons (sRet (eBin .add (eV 1) (eLst (aCons (eErrK 114 1 (aCons (eV 0) aNil)) (aCons (eErrK 115 2 (aCons (eV 0) aNil)) (aCons (eErr0 116 (eC (.str [97]))) (aCons (eErr0 117 (eC (.str [97]))) (aCons (eErr 118 3 (eV 0)) aNil))))))))
 sNil)))
def b__law_classes (c : Nat → List D → Hh → R D) (F : Nat) : SM := (sCons (sSet 1 (eLst (aCons (eIsE [(100, true), (101, false), (102, false), (103, false), (104, false), (105, false), (106, false), (107, false), (108, false), (109, false), (110, false), (111, false), (112, false), (113, false), (114, false), (115, false), (116, false), (117, false), (118, false)] (eV 0)) (aCons (eIsE [(100, false), (101, true), (102, false), (103, false), (104, false), (105, false), (106, false), (107, false), (108, false), (109, false), (110, false), (111, false), (112, false), (113, false), (114, false), (115, false), (116, false), (117, false), (118, false)] (eV 0)) (aCons (eIsE [(100, false), (101, false), (102, true), (103, false), (104, false), (105, false), (106, false), (107, false), (108, false), (109, false), (110, false), (111, false), (112, false), (113, false), (114, false), (115, false), (116, false), (117, false), (118, false)] (eV 0)) (aCons (eIsE [(100, false), (101, false), (102, false), (103, true), (104, false), (105, false), (106, false), (107, false), (108, false), (109, false), (110, false), (111, false), (112, false), (113, false), (114, false), (115, false), (116, false), (117, false), (118, false)] (eV 0)) aNil))))))
 (sCons (sSet 1 (eBin .add (eV 1) (eLst (aCons (eIsE [(100, false), (101, false), (102, false), (103, false), (104, true), (105, false), (106, false), (107, false), (108, false), (109, false), (110, false), (111, false), (112, false), (113, false), (114, false), (115, false), (116, false), (117, false), (118, false)] (eV 0)) (aCons (eIsE [(100, false), (101, false), (102, false), (103, false), (104, false), (105, true), (106, false), (107, false), (108, false), (109, false), (110, false), (111, false), (112, false), (113, false), (114, false), (115, false), (116, false), (117, false), (118, false)] (eV 0)) (aCons (eIsE [(100, false), (101, false), (102, false), (103, false), (104, false), (105, false), (106, true), (107, false), (108, false), (109, false), (110, false), (111, false), (112, false), (113, false), (114, false), (115, false), (116, false), (117, false), (118, false)] (eV 0)) (aCons (eIsE [(100, false), (101, false), (102, false), (103, false), (104, false), (105, false), (106, false), (107, true), (108, false), (109, false), (110, false), (111, false), (112, false), (113, false), (114, false), (115, false), (116, false), (117, false), (118, false)] (eV 0)) aNil)))))))
 (sCons (sSet 1 (eBin .add (eV 1) (eLst (aCons (eIsE [(100, false), (101, false), (102, false), (103, false), (104, false), (105, false), (106, false), (107, false), (108, true), (109, false), (110, false), (111, false), (112, false), (113, false), (114, false), (115, false), (116, false), (117, false), (118, false)] (eV 0)) (aCons (eIsE [(100, false), (101, false), (102, false), (103, false), (104, false), (105, false), (106, false), (107, false), (108, false), (109, true), (110, false), (111, false), (112, false), (113, false), (114, false), (115, false), (116, false), (117, false), (118, false)] (eV 0)) (aCons (eIsE [(100, false), (101, false), (102, false), (103, false), (104, false), (105, false), (106, false), (107, false), (108, false), (109, false), (110, true), (111, false), (112, false), (113, false), (114, false), (115, false), (116, false), (117, false), (118, false)] (eV 0)) (aCons (eIsE [(100, false), (101, false), (102, false), (103, false), (104, false), (105, false), (106, false), (107, false), (108, false), (109, false), (110, false), (111, true), (112, false), (113, false), (114, false), (115, false), (116, false), (117, false), (118, false)] (eV 0)) aNil)))))))
 (sCons (sSet 1 (eBin .add (eV 1) (eLst (aCons (eIsE [(100, false), (101, false), (102, false), (103, false), (104, false), (105, false), (106, false), (107, false), (108, false), (109, false), (110, false), (111, false), (112, true), (113, false), (114, false), (115, false), (116, false), (117, false), (118, false)] (eV 0)) (aCons (eIsE [(100, false), (101, false), (102, false), (103, false), (104, false), (105, false), (106, false), (107, false), (108, false), (109, false), (110, false), (111, false), (112, false), (113, true), (114, false), (115, false), (116, false), (117, false), (118, false)] (eV 0)) (aCons (eIsE [(100, false), (101, false), (102, false), (103, false), (104, false), (105, false), (106, false), (107, false), (108, false), (109, false), (110, false), (111, false), (112, false), (113, false), (114, true), (115, false), (116, false), (117, false), (118, false)] (eV 0)) (aCons (eIsE [(100, false), (101, false), (102, false), (103, false), (104, false), (105, false), (106, false), (107, false), (108, false), (109, false), (110, false), (111, false), (112, false), (113, false), (114, false), (115, true), (116, false), (117, false), (118, false)] (eV 0)) aNil)))))))
 (sCons (sRet (eBin .add (eV 1) (eLst (aCons (eIsE [(100, false), (101, false), (102, false), (103, false), (104, false), (105, false), (106, false), (107, false), (108, false), (109, false), (110, false), (111, false), (112, false), (113, false), (114, false), (115, false), (116, true), (117, false), (118, false)] (eV 0)) (aCons (eIsE [(100, false), (101, false), (102, false), (103, false), (104, false), (105, false), (106, false), (107, false), (108, false), (109, false), (110, false), (111, false), (112, false), (113, false), (114, false), (115, false), (116, false), (117, true), (118, false)] (eV 0)) (aCons (eIsE [(100, false), (101, false), (102, false), (103, false), (104, false), (105, false), (106, false), (107, false), (108, false), (109, false), (110, false), (111, false), (112, false), (113, false), (114, false), (115, false), (116, false), (117, false), (118, true)] (eV 0)) aNil))))))
 sNil)))))
def b__law_bases (c : Nat → List D → Hh → R D) (F : Nat) : SM := (sCons (sSet 1 (eLst (aCons (eIsE [(100, true), (101, true), (102, true), (103, true), (104, true), (105, true), (106, true), (107, true), (108, true), (109, true), (110, true), (111, true), (112, false), (113, false), (114, false), (115, false), (116, false), (117, false), (118, false)] (eV 0)) (aCons (eIsE [(100, true), (101, true), (102, true), (103, true), (104, true), (105, true), (106, true), (107, true), (108, true), (109, true), (110, true), (111, true), (112, false), (113, false), (114, false), (115, false), (116, false), (117, false), (118, false)] (eV 0)) (aCons (eIsE [(100, false), (101, false), (102, false), (103, false), (104, false), (105, false), (106, false), (107, false), (108, false), (109, false), (110, false), (111, false), (112, true), (113, true), (114, true), (115, true), (116, false), (117, false), (118, false)] (eV 0)) (aCons (eIsE [(100, false), (101, false), (102, false), (103, false), (104, false), (105, false), (106, false), (107, false), (108, false), (109, false), (110, false), (111, false), (112, false), (113, true), (114, true), (115, false), (116, false), (117, false), (118, false)] (eV 0)) aNil))))))
 (sCons (sRet (eBin .add (eV 1) (eLst (aCons (eIsE [(100, false), (101, false), (102, false), (103, false), (104, false), (105, false), (106, false), (107, false), (108, false), (109, false), (110, false), (111, false), (112, false), (113, false), (114, false), (115, true), (116, false), (117, false), (118, false)] (eV 0)) (aCons (eIsE [(100, false), (101, false), (102, false), (103, false), (104, false), (105, false), (106, false), (107, false), (108, false), (109, false), (110, false), (111, false), (112, false), (113, false), (114, false), (115, false), (116, true), (117, true), (118, false)] (eV 0)) (aCons (eIsE [(100, false), (101, false), (102, false), (103, false), (104, false), (105, false), (106, false), (107, false), (108, false), (109, false), (110, false), (111, false), (112, false), (113, false), (114, false), (115, false), (116, false), (117, false), (118, true)] (eV 0)) aNil))))))
 sNil))
def b__law_due_bases (c : Nat → List D → Hh → R D) (F : Nat) : SM := (sCons (sIf (bCmp .lt (eV 0) (eC (.int 12))) (sCons (sSet 1 (eLst (aCons (eC (.int 0)) (aCons (eC (.int 1)) aNil))))
 sNil) (sCons (sIf (bCmp .eq (eV 0) (eC (.int 12))) (sCons (sSet 1 (eLst (aCons (eC (.int 2)) aNil)))
 sNil) (sCons (sIf (bCmp .lt (eV 0) (eC (.int 15))) (sCons (sSet 1 (eLst (aCons (eC (.int 2)) (aCons (eC (.int 3)) aNil))))
 sNil) (sCons (sIf (bCmp .eq (eV 0) (eC (.int 15))) (sCons (sSet 1 (eLst (aCons (eC (.int 2)) (aCons (eC (.int 4)) aNil))))
 sNil) (sCons (sSet 1 (eIx (eLst (aCons (eLst (aCons (eC (.int 5)) aNil)) (aCons (eLst (aCons (eC (.int 6)) aNil)) aNil))) (eU intV (eCmp .eq (eV 0) (eC (.int 18))))))
 sNil))
 sNil))
 sNil))
 sNil))
 (sCons (sRet (eLc (eInD (eV 2) (eV 1)) (.nm 2) .range (aCons (eC (.int 7)) aNil) bYes [2]))
 sNil))
def b__law_fields (c : Nat → List D → Hh → R D) (F : Nat) : SM := (sCons (sSet 1 (eNewL (aCons (eFldE [100, 101, 102, 103] 0 (eIx (eV 0) (eC (.int 0)))) (aCons (eFldE [100, 101, 102, 103] 0 (eIx (eV 0) (eC (.int 1)))) (aCons (eFldE [100, 101, 102, 103] 0 (eIx (eV 0) (eC (.int 2)))) (aCons (eFldE [100, 101, 102, 103] 0 (eIx (eV 0) (eC (.int 3)))) (aCons (eFldE [104, 105, 106, 112, 113, 114] 1 (eIx (eV 0) (eC (.int 4)))) (aCons (eFldE [104, 105, 106, 112, 113, 114] 1 (eIx (eV 0) (eC (.int 5)))) aNil))))))))
 (sCons (sEx (eM isLst appD (eV 1) (eFldE [104, 105, 106, 112, 113, 114] 1 (eIx (eV 0) (eC (.int 6))))))
 (sCons (sRet (eBin .add (eV 1) (eLst (aCons (eFldE [104, 105, 106, 112, 113, 114] 1 (eIx (eV 0) (eC (.int 12)))) (aCons (eFldE [104, 105, 106, 112, 113, 114] 1 (eIx (eV 0) (eC (.int 13)))) (aCons (eFldE [104, 105, 106, 112, 113, 114] 1 (eIx (eV 0) (eC (.int 14)))) (aCons (eFldE [115] 2 (eIx (eV 0) (eC (.int 15)))) (aCons (eFldE [118] 3 (eIx (eV 0) (eC (.int 18)))) aNil))))))))
 sNil)))
def b__law_pool (c : Nat → List D → Hh → R D) (F : Nat) : SM := (sCons (sSet 2 (eC (.int 0)))
 (sCons (sIf (bCmp .lt (eV 1) (eU lenD (eV 0))) (sCons (sSet 2 (eIx (eV 0) (eV 1)))
 sNil) sNil)
 (sCons (sSet 3 (eBin .mod (eBin .mul (eBin .add (eBin .add (eBin .mod (eV 2) (eC (.int 2147483629))) (eBin .mul (eBin .mul (eC (.int 7919)) (eV 1)) (eV 1))) (eC (.int 13))) (eC (.int 48271))) (eC (.int 2147483647))))
 (sCons (sIf (bCmp .lt (eV 2) (eBin .pow (eC (.int 10)) (eC (.int 18)))) (sCons (sSet 2 (eC (.int 0)))
 sNil) sNil)
 (sCons (sRet (eNewL (aCons (eV 2) (aCons (eBin .add (eBin .mod (eBin .mul (eV 3) (eV 3)) (eC (.int 2147483587))) (eC (.int 1))) aNil))))
 sNil)))))
def b__law_take (c : Nat → List D → Hh → R D) (F : Nat) : SM := (sCons (sIf (bCmp .gt (eIx (eV 0) (eC (.int 0))) (eC (.int 0))) (sCons (sSet 2 (eBin .mod (eIx (eV 0) (eC (.int 0))) (eV 1)))
 (sCons (sSetI (eV 0) (eC (.int 0)) (eBin .fdiv (eIx (eV 0) (eC (.int 0))) (eV 1)))
 (sCons (sRet (eV 2))
 sNil))) sNil)
 (sCons (sSetI (eV 0) (eC (.int 1)) (eBin .mod (eBin .add (eBin .mul (eIx (eV 0) (eC (.int 1))) (eC (.int 48271))) (eC (.int 11))) (eC (.int 2147483647))))
 (sCons (sRet (eBin .mod (eBin .fdiv (eBin .mod (eBin .mul (eIx (eV 0) (eC (.int 1))) (eIx (eV 0) (eC (.int 1)))) (eC (.int 2147483629))) (eC (.int 64))) (eV 1)))
 sNil)))
def b__law_named (c : Nat → List D → Hh → R D) (F : Nat) : SM := (sCons (sSet 1 (eLst (aCons (eFldE [100, 101, 102, 103] 0 (eErrK 101 0 (aCons (eV 0) aNil))) (aCons (eFldE [100, 101, 102, 103] 0 (eErrK 102 0 (aCons (eV 0) aNil))) (aCons (eFldE [100, 101, 102, 103] 0 (eErrK 103 0 (aCons (eV 0) aNil))) (aCons (eFldE [104, 105, 106, 112, 113, 114] 1 (eErrK 105 1 (aCons (eV 0) aNil))) aNil))))))
 (sCons (sSet 1 (eBin .add (eV 1) (eLst (aCons (eFldE [104, 105, 106, 112, 113, 114] 1 (eErrK 106 1 (aCons (eV 0) aNil))) (aCons (eFldE [104, 105, 106, 112, 113, 114] 1 (eErrK 112 1 (aCons (eV 0) aNil))) (aCons (eFldE [104, 105, 106, 112, 113, 114] 1 (eErrK 113 1 (aCons (eV 0) aNil))) aNil))))))
 (sCons (sRet (eBin .add (eV 1) (eLst (aCons (eFldE [118] 3 (eErrK 118 3 (aCons (eV 0) aNil))) aNil))))
 sNil)))
def b_law (c : Nat → List D → Hh → R D) (F : Nat) : SM := (sCons (sSet 1 (eLst (aCons (eC (.int 0)) (aCons (eC .non) (aCons (eC (.str [97])) (aCons (eNeg (eC (.int 1))) (aCons (eC (.bl true)) (aCons (eTup (aCons (eC (.int 1)) (aCons (eC (.int 2)) aNil))) (aCons (eBin .pow (eC (.int 10)) (eC (.int 20))) (aCons (eC (.str [])) (aCons (eC (.int 30001)) (aCons (eTup (aCons (eC (.str [116, 111])) (aCons (eC (.int 1)) (aCons (eC (.int 0)) aNil)))) aNil))))))))))))
 (sCons (sFor (.nm 2) .range (aCons (eU2 maxD (eC (.int 1)) (eU2 minD (eU lenD (eV 0)) (eC (.int 10)))) aNil) (sCons (sSet 3 (eCall (fun ds h => c ix__law_pool (ds ++ []) h) (aCons (eV 0) (aCons (eV 2) aNil))))
 (sCons (sSet 4 (eIx (eV 1) (eCall (fun ds h => c ix__law_take (ds ++ []) h) (aCons (eV 3) (aCons (eC (.int 10)) aNil)))))
 (sCons (sSet 5 (eCall (fun ds h => c ix__law_made (ds ++ []) h) (aCons (eV 4) aNil)))
 (sCons (sFor (.tp [(.nm 6), (.nm 7)]) .enum (aCons (eV 5) aNil) (sCons (sIf (bOr (bCmp .ne (eCall (fun ds h => c ix__law_classes (ds ++ []) h) (aCons (eV 7) aNil)) (eLc (eCmp .eq (eV 2) (eV 6)) (.nm 2) .range (aCons (eC (.int 19)) aNil) bYes [2])) (bCmp .ne (eCall (fun ds h => c ix__law_bases (ds ++ []) h) (aCons (eV 7) aNil)) (eCall (fun ds h => c ix__law_due_bases (ds ++ []) h) (aCons (eV 6) aNil)))) (sCons (sRet (eC (.bl false)))
 sNil) sNil)
 sNil))
 (sCons (sIf (bOr (bCmp .ne (eU reprV (eCall (fun ds h => c ix__law_fields (ds ++ []) h) (aCons (eV 5) aNil))) (eU reprV (eBin .mul (eLst (aCons (eV 4) aNil)) (eC (.int 12))))) (bCmp .ne (eU reprV (eCall (fun ds h => c ix__law_named (ds ++ []) h) (aCons (eV 4) aNil))) (eU reprV (eBin .mul (eLst (aCons (eV 4) aNil)) (eC (.int 8)))))) (sCons (sRet (eC (.bl false)))
 sNil) sNil)
 sNil))))))
 (sCons (sRet (eC (.bl true)))
 sNil)))
def run (F : Nat) : Nat → Nat → List D → Hh → R D
  | 0 => fun _ _ _ => .bad
  | n + 1 => fun i => match i with
    | 0 => own 1 2 (b__law_made (run F n) F)
    | 1 => own 1 2 (b__law_classes (run F n) F)
    | 2 => own 1 2 (b__law_bases (run F n) F)
    | 3 => own 1 3 (b__law_due_bases (run F n) F)
    | 4 => own 1 2 (b__law_fields (run F n) F)
    | 5 => full 2 4 (b__law_pool (run F n) F)
    | 6 => own 2 3 (b__law_take (run F n) F)
    | 7 => own 1 2 (b__law_named (run F n) F)
    | 8 => full 1 8 (b_law (run F n) F)
    | _ => fun _ _ => .bad
theorem run__law_made (F n : Nat) : run F (n + 1) ix__law_made = own 1 2 (b__law_made (run F n) F) := rfl
theorem run__law_classes (F n : Nat) : run F (n + 1) ix__law_classes = own 1 2 (b__law_classes (run F n) F) := rfl
theorem run__law_bases (F n : Nat) : run F (n + 1) ix__law_bases = own 1 2 (b__law_bases (run F n) F) := rfl
theorem run__law_due_bases (F n : Nat) : run F (n + 1) ix__law_due_bases = own 1 3 (b__law_due_bases (run F n) F) := rfl
theorem run__law_fields (F n : Nat) : run F (n + 1) ix__law_fields = own 1 2 (b__law_fields (run F n) F) := rfl
theorem run__law_pool (F n : Nat) : run F (n + 1) ix__law_pool = full 2 4 (b__law_pool (run F n) F) := rfl
theorem run__law_take (F n : Nat) : run F (n + 1) ix__law_take = own 2 3 (b__law_take (run F n) F) := rfl
theorem run__law_named (F n : Nat) : run F (n + 1) ix__law_named = own 1 2 (b__law_named (run F n) F) := rfl
theorem run_law (F n : Nat) : run F (n + 1) ix_law = full 1 8 (b_law (run F n) F) := rfl
end Lw
end
section
set_option Elab.async false
namespace Fw
open PySem PySem.Spec PyProof.Rows L2
section
variable {X : Cx} {W : Wd} {wx : WX} {pos : Pos} {e : Expr} {f : TM}
theorem v0 {i : Nat} {x : Str} (hN : X.N[i]? = some x := by rfl) (hv : Vis X.env.scope x := by exact .inl rfl) (hd : (x == ("__debug__" : Str)) = false := by decide) (hcd : (x == ("__classdict__" : Str)) = false := by decide) : EJ X W wx (.Name x pos) (eV i) := ej_v hN hv hd hcd
theorem es {x : Str} (t : Tx) {j : Nat} (h : x = toS t := by rfl) : EJ X W wx (.Constant (.str x) j pos) (eC (.str t)) := ej_str h
theorem stv {i : Nat} {x : Str} {pos' : Pos} (J : Js X W wx) (he : EJ X W wx e f) (hi : X.N[i]? = some x := by rfl) (hx : Loc X.env.scope x := by exact .inl rfl) (hs : swapsWith e (some (.Name x pos')) pos.line X.env = pure false := by rfl) (hf : X.fn x = true ∨ X.env.scope.names.lookup x = some .local := by first | exact .inl rfl | exact .inr rfl | assumption) :
    SJ X W wx (.Assign [.Name x pos'] e pos) (sSet i f) := sj_set J hi hx he hs hf
end
abbrev ac := @aj_cons
abbrev an := @aj_nil
abbrev sk := @ss_cons
abbrev sn := @ss_nil
abbrev sr := @sj_ret
abbrev eix := @ej_ix
abbrev ek := @ec_call
abbrev bc := @bj_cmp
abbrev ebn := @ej_bin
abbrev sf := @sj_if
end Fw
end
section
set_option Elab.async false
set_option maxHeartbeats 0
namespace Lw
open PySem PySem.Spec PyProof.Rows L2 Fw
structure Mg (w : World) (K : PySem.W.Frag) (mg : Str → Option Value) : Prop where
  g_Bare : mg "Bare" = some (.ref (He.ga K "Bare"))
  g_BookError : mg "BookError" = some (.ref (He.ga K "BookError"))
  g_NoChain : mg "NoChain" = some (.ref (He.ga K "NoChain"))
  g_NoDeed : mg "NoDeed" = some (.ref (He.ga K "NoDeed"))
  g_NoFile : mg "NoFile" = some (.ref (He.ga K "NoFile"))
  g_NoName : mg "NoName" = some (.ref (He.ga K "NoName"))
  g_NoOld : mg "NoOld" = some (.ref (He.ga K "NoOld"))
  g_NoPage : mg "NoPage" = some (.ref (He.ga K "NoPage"))
  g_NoPages : mg "NoPages" = some (.ref (He.ga K "NoPages"))
  g_NoPiece : mg "NoPiece" = some (.ref (He.ga K "NoPiece"))
  g_NoRow : mg "NoRow" = some (.ref (He.ga K "NoRow"))
  g_NoSeal : mg "NoSeal" = some (.ref (He.ga K "NoSeal"))
  g_NoThing : mg "NoThing" = some (.ref (He.ga K "NoThing"))
  g_NoTo : mg "NoTo" = some (.ref (He.ga K "NoTo"))
  g_NoValue : mg "NoValue" = some (.ref (He.ga K "NoValue"))
  g_NoWhole : mg "NoWhole" = some (.ref (He.ga K "NoWhole"))
  g_NoWriting : mg "NoWriting" = some (.ref (He.ga K "NoWriting"))
  g_Ring : mg "Ring" = some (.ref (He.ga K "Ring"))
  g_TooMany : mg "TooMany" = some (.ref (He.ga K "TooMany"))
  g_Waiting : mg "Waiting" = some (.ref (He.ga K "Waiting"))
  g__law_bases : mg "_law_bases" = some (.ref (He.ga K "_law_bases"))
  g__law_classes : mg "_law_classes" = some (.ref (He.ga K "_law_classes"))
  g__law_due_bases : mg "_law_due_bases" = some (.ref (He.ga K "_law_due_bases"))
  g__law_fields : mg "_law_fields" = some (.ref (He.ga K "_law_fields"))
  g__law_made : mg "_law_made" = some (.ref (He.ga K "_law_made"))
  g__law_named : mg "_law_named" = some (.ref (He.ga K "_law_named"))
  g__law_pool : mg "_law_pool" = some (.ref (He.ga K "_law_pool"))
  g__law_take : mg "_law_take" = some (.ref (He.ga K "_law_take"))
  f_IndexError : mg "IndexError" = none
  f_KeyError : mg "KeyError" = none
  f_LookupError : mg "LookupError" = none
  f_OverflowError : mg "OverflowError" = none
  f_RuntimeError : mg "RuntimeError" = none
  f_ValueError : mg "ValueError" = none
  f_enumerate : mg "enumerate" = none
  f_int : mg "int" = none
  f_isinstance : mg "isinstance" = none
  f_len : mg "len" = none
  f_max : mg "max" = none
  f_min : mg "min" = none
  f_range : mg "range" = none
  f_repr : mg "repr" = none
  fb_BookError : PySem.W.findCls K (.ref (He.ga K "BookError")) (.type "type") "__init__" = some (.val (.builtin "ValueError.__init__"))
  fe_many : eFdB K "many" [(He.ga K "TooMany")] = true
  fe_name : eFdB K "name" [(He.ga K "NoName")] = true
  fe_number : eFdB K "number" [(He.ga K "NoDeed"), (He.ga K "NoPages"), (He.ga K "Ring"), (He.ga K "NoThing"), (He.ga K "NoWriting"), (He.ga K "NoPage")] = true
  fe_place : eFdB K "place" [(He.ga K "NoFile"), (He.ga K "NoOld"), (He.ga K "NoChain"), (He.ga K "NoWhole")] = true
  ft_IndexError : PySem.W.findCls K (.type "IndexError") (.type "type") "__init__" = some (.val (.builtin "IndexError.__init__"))
  ft_KeyError : PySem.W.findCls K (.type "KeyError") (.type "type") "__init__" = some (.val (.builtin "KeyError.__init__"))
  ft_LookupError : PySem.W.findCls K (.type "LookupError") (.type "type") "__init__" = some (.val (.builtin "LookupError.__init__"))
  ft_OverflowError : PySem.W.findCls K (.type "OverflowError") (.type "type") "__init__" = some (.val (.builtin "OverflowError.__init__"))
  ic100 : PySem.W.findIn K (.ref (He.ga K "NoFile")) "__init__" = some (some (.ref (He.fAd K ("NoFile", some "__init__"))))
  ic101 : PySem.W.findIn K (.ref (He.ga K "NoOld")) "__init__" = some (some (.ref (He.fAd K ("NoOld", some "__init__"))))
  ic102 : PySem.W.findIn K (.ref (He.ga K "NoChain")) "__init__" = some (some (.ref (He.fAd K ("NoChain", some "__init__"))))
  ic103 : PySem.W.findIn K (.ref (He.ga K "NoWhole")) "__init__" = some (some (.ref (He.fAd K ("NoWhole", some "__init__"))))
  ic104 : PySem.W.findIn K (.ref (He.ga K "NoDeed")) "__init__" = some (some (.ref (He.fAd K ("NoDeed", some "__init__"))))
  ic105 : PySem.W.findIn K (.ref (He.ga K "NoPages")) "__init__" = some (some (.ref (He.fAd K ("NoPages", some "__init__"))))
  ic106 : PySem.W.findIn K (.ref (He.ga K "Ring")) "__init__" = some (some (.ref (He.fAd K ("Ring", some "__init__"))))
  ic112 : PySem.W.findIn K (.ref (He.ga K "NoThing")) "__init__" = some (some (.ref (He.fAd K ("NoThing", some "__init__"))))
  ic113 : PySem.W.findIn K (.ref (He.ga K "NoWriting")) "__init__" = some (some (.ref (He.fAd K ("NoWriting", some "__init__"))))
  ic114 : PySem.W.findIn K (.ref (He.ga K "NoPage")) "__init__" = some (some (.ref (He.fAd K ("NoPage", some "__init__"))))
  ic115 : PySem.W.findIn K (.ref (He.ga K "NoName")) "__init__" = some (some (.ref (He.fAd K ("NoName", some "__init__"))))
  ic118 : PySem.W.findIn K (.ref (He.ga K "TooMany")) "__init__" = some (some (.ref (He.fAd K ("TooMany", some "__init__"))))
  ke_Bare : eTabB K (.ref (He.ga K "Bare")) [((He.ga K "NoFile"), false), ((He.ga K "NoOld"), false), ((He.ga K "NoChain"), false), ((He.ga K "NoWhole"), false), ((He.ga K "NoDeed"), false), ((He.ga K "NoPages"), false), ((He.ga K "Ring"), false), ((He.ga K "NoValue"), false), ((He.ga K "NoPiece"), false), ((He.ga K "NoTo"), false), ((He.ga K "NoSeal"), false), ((He.ga K "NoRow"), false), ((He.ga K "NoThing"), false), ((He.ga K "NoWriting"), false), ((He.ga K "NoPage"), false), ((He.ga K "NoName"), false), ((He.ga K "Bare"), true), ((He.ga K "Waiting"), false), ((He.ga K "TooMany"), false)] = true
  ke_BookError : eTabB K (.ref (He.ga K "BookError")) [((He.ga K "NoFile"), true), ((He.ga K "NoOld"), true), ((He.ga K "NoChain"), true), ((He.ga K "NoWhole"), true), ((He.ga K "NoDeed"), true), ((He.ga K "NoPages"), true), ((He.ga K "Ring"), true), ((He.ga K "NoValue"), true), ((He.ga K "NoPiece"), true), ((He.ga K "NoTo"), true), ((He.ga K "NoSeal"), true), ((He.ga K "NoRow"), true), ((He.ga K "NoThing"), false), ((He.ga K "NoWriting"), false), ((He.ga K "NoPage"), false), ((He.ga K "NoName"), false), ((He.ga K "Bare"), false), ((He.ga K "Waiting"), false), ((He.ga K "TooMany"), false)] = true
  ke_IndexError : eTabB K (.type "IndexError") [((He.ga K "NoFile"), false), ((He.ga K "NoOld"), false), ((He.ga K "NoChain"), false), ((He.ga K "NoWhole"), false), ((He.ga K "NoDeed"), false), ((He.ga K "NoPages"), false), ((He.ga K "Ring"), false), ((He.ga K "NoValue"), false), ((He.ga K "NoPiece"), false), ((He.ga K "NoTo"), false), ((He.ga K "NoSeal"), false), ((He.ga K "NoRow"), false), ((He.ga K "NoThing"), false), ((He.ga K "NoWriting"), true), ((He.ga K "NoPage"), true), ((He.ga K "NoName"), false), ((He.ga K "Bare"), false), ((He.ga K "Waiting"), false), ((He.ga K "TooMany"), false)] = true
  ke_KeyError : eTabB K (.type "KeyError") [((He.ga K "NoFile"), false), ((He.ga K "NoOld"), false), ((He.ga K "NoChain"), false), ((He.ga K "NoWhole"), false), ((He.ga K "NoDeed"), false), ((He.ga K "NoPages"), false), ((He.ga K "Ring"), false), ((He.ga K "NoValue"), false), ((He.ga K "NoPiece"), false), ((He.ga K "NoTo"), false), ((He.ga K "NoSeal"), false), ((He.ga K "NoRow"), false), ((He.ga K "NoThing"), false), ((He.ga K "NoWriting"), false), ((He.ga K "NoPage"), false), ((He.ga K "NoName"), true), ((He.ga K "Bare"), false), ((He.ga K "Waiting"), false), ((He.ga K "TooMany"), false)] = true
  ke_LookupError : eTabB K (.type "LookupError") [((He.ga K "NoFile"), false), ((He.ga K "NoOld"), false), ((He.ga K "NoChain"), false), ((He.ga K "NoWhole"), false), ((He.ga K "NoDeed"), false), ((He.ga K "NoPages"), false), ((He.ga K "Ring"), false), ((He.ga K "NoValue"), false), ((He.ga K "NoPiece"), false), ((He.ga K "NoTo"), false), ((He.ga K "NoSeal"), false), ((He.ga K "NoRow"), false), ((He.ga K "NoThing"), true), ((He.ga K "NoWriting"), true), ((He.ga K "NoPage"), true), ((He.ga K "NoName"), true), ((He.ga K "Bare"), false), ((He.ga K "Waiting"), false), ((He.ga K "TooMany"), false)] = true
  ke_NoChain : eTabB K (.ref (He.ga K "NoChain")) [((He.ga K "NoFile"), false), ((He.ga K "NoOld"), false), ((He.ga K "NoChain"), true), ((He.ga K "NoWhole"), false), ((He.ga K "NoDeed"), false), ((He.ga K "NoPages"), false), ((He.ga K "Ring"), false), ((He.ga K "NoValue"), false), ((He.ga K "NoPiece"), false), ((He.ga K "NoTo"), false), ((He.ga K "NoSeal"), false), ((He.ga K "NoRow"), false), ((He.ga K "NoThing"), false), ((He.ga K "NoWriting"), false), ((He.ga K "NoPage"), false), ((He.ga K "NoName"), false), ((He.ga K "Bare"), false), ((He.ga K "Waiting"), false), ((He.ga K "TooMany"), false)] = true
  ke_NoDeed : eTabB K (.ref (He.ga K "NoDeed")) [((He.ga K "NoFile"), false), ((He.ga K "NoOld"), false), ((He.ga K "NoChain"), false), ((He.ga K "NoWhole"), false), ((He.ga K "NoDeed"), true), ((He.ga K "NoPages"), false), ((He.ga K "Ring"), false), ((He.ga K "NoValue"), false), ((He.ga K "NoPiece"), false), ((He.ga K "NoTo"), false), ((He.ga K "NoSeal"), false), ((He.ga K "NoRow"), false), ((He.ga K "NoThing"), false), ((He.ga K "NoWriting"), false), ((He.ga K "NoPage"), false), ((He.ga K "NoName"), false), ((He.ga K "Bare"), false), ((He.ga K "Waiting"), false), ((He.ga K "TooMany"), false)] = true
  ke_NoFile : eTabB K (.ref (He.ga K "NoFile")) [((He.ga K "NoFile"), true), ((He.ga K "NoOld"), false), ((He.ga K "NoChain"), false), ((He.ga K "NoWhole"), false), ((He.ga K "NoDeed"), false), ((He.ga K "NoPages"), false), ((He.ga K "Ring"), false), ((He.ga K "NoValue"), false), ((He.ga K "NoPiece"), false), ((He.ga K "NoTo"), false), ((He.ga K "NoSeal"), false), ((He.ga K "NoRow"), false), ((He.ga K "NoThing"), false), ((He.ga K "NoWriting"), false), ((He.ga K "NoPage"), false), ((He.ga K "NoName"), false), ((He.ga K "Bare"), false), ((He.ga K "Waiting"), false), ((He.ga K "TooMany"), false)] = true
  ke_NoName : eTabB K (.ref (He.ga K "NoName")) [((He.ga K "NoFile"), false), ((He.ga K "NoOld"), false), ((He.ga K "NoChain"), false), ((He.ga K "NoWhole"), false), ((He.ga K "NoDeed"), false), ((He.ga K "NoPages"), false), ((He.ga K "Ring"), false), ((He.ga K "NoValue"), false), ((He.ga K "NoPiece"), false), ((He.ga K "NoTo"), false), ((He.ga K "NoSeal"), false), ((He.ga K "NoRow"), false), ((He.ga K "NoThing"), false), ((He.ga K "NoWriting"), false), ((He.ga K "NoPage"), false), ((He.ga K "NoName"), true), ((He.ga K "Bare"), false), ((He.ga K "Waiting"), false), ((He.ga K "TooMany"), false)] = true
  ke_NoOld : eTabB K (.ref (He.ga K "NoOld")) [((He.ga K "NoFile"), false), ((He.ga K "NoOld"), true), ((He.ga K "NoChain"), false), ((He.ga K "NoWhole"), false), ((He.ga K "NoDeed"), false), ((He.ga K "NoPages"), false), ((He.ga K "Ring"), false), ((He.ga K "NoValue"), false), ((He.ga K "NoPiece"), false), ((He.ga K "NoTo"), false), ((He.ga K "NoSeal"), false), ((He.ga K "NoRow"), false), ((He.ga K "NoThing"), false), ((He.ga K "NoWriting"), false), ((He.ga K "NoPage"), false), ((He.ga K "NoName"), false), ((He.ga K "Bare"), false), ((He.ga K "Waiting"), false), ((He.ga K "TooMany"), false)] = true
  ke_NoPage : eTabB K (.ref (He.ga K "NoPage")) [((He.ga K "NoFile"), false), ((He.ga K "NoOld"), false), ((He.ga K "NoChain"), false), ((He.ga K "NoWhole"), false), ((He.ga K "NoDeed"), false), ((He.ga K "NoPages"), false), ((He.ga K "Ring"), false), ((He.ga K "NoValue"), false), ((He.ga K "NoPiece"), false), ((He.ga K "NoTo"), false), ((He.ga K "NoSeal"), false), ((He.ga K "NoRow"), false), ((He.ga K "NoThing"), false), ((He.ga K "NoWriting"), false), ((He.ga K "NoPage"), true), ((He.ga K "NoName"), false), ((He.ga K "Bare"), false), ((He.ga K "Waiting"), false), ((He.ga K "TooMany"), false)] = true
  ke_NoPages : eTabB K (.ref (He.ga K "NoPages")) [((He.ga K "NoFile"), false), ((He.ga K "NoOld"), false), ((He.ga K "NoChain"), false), ((He.ga K "NoWhole"), false), ((He.ga K "NoDeed"), false), ((He.ga K "NoPages"), true), ((He.ga K "Ring"), false), ((He.ga K "NoValue"), false), ((He.ga K "NoPiece"), false), ((He.ga K "NoTo"), false), ((He.ga K "NoSeal"), false), ((He.ga K "NoRow"), false), ((He.ga K "NoThing"), false), ((He.ga K "NoWriting"), false), ((He.ga K "NoPage"), false), ((He.ga K "NoName"), false), ((He.ga K "Bare"), false), ((He.ga K "Waiting"), false), ((He.ga K "TooMany"), false)] = true
  ke_NoPiece : eTabB K (.ref (He.ga K "NoPiece")) [((He.ga K "NoFile"), false), ((He.ga K "NoOld"), false), ((He.ga K "NoChain"), false), ((He.ga K "NoWhole"), false), ((He.ga K "NoDeed"), false), ((He.ga K "NoPages"), false), ((He.ga K "Ring"), false), ((He.ga K "NoValue"), false), ((He.ga K "NoPiece"), true), ((He.ga K "NoTo"), false), ((He.ga K "NoSeal"), false), ((He.ga K "NoRow"), false), ((He.ga K "NoThing"), false), ((He.ga K "NoWriting"), false), ((He.ga K "NoPage"), false), ((He.ga K "NoName"), false), ((He.ga K "Bare"), false), ((He.ga K "Waiting"), false), ((He.ga K "TooMany"), false)] = true
  ke_NoRow : eTabB K (.ref (He.ga K "NoRow")) [((He.ga K "NoFile"), false), ((He.ga K "NoOld"), false), ((He.ga K "NoChain"), false), ((He.ga K "NoWhole"), false), ((He.ga K "NoDeed"), false), ((He.ga K "NoPages"), false), ((He.ga K "Ring"), false), ((He.ga K "NoValue"), false), ((He.ga K "NoPiece"), false), ((He.ga K "NoTo"), false), ((He.ga K "NoSeal"), false), ((He.ga K "NoRow"), true), ((He.ga K "NoThing"), false), ((He.ga K "NoWriting"), false), ((He.ga K "NoPage"), false), ((He.ga K "NoName"), false), ((He.ga K "Bare"), false), ((He.ga K "Waiting"), false), ((He.ga K "TooMany"), false)] = true
  ke_NoSeal : eTabB K (.ref (He.ga K "NoSeal")) [((He.ga K "NoFile"), false), ((He.ga K "NoOld"), false), ((He.ga K "NoChain"), false), ((He.ga K "NoWhole"), false), ((He.ga K "NoDeed"), false), ((He.ga K "NoPages"), false), ((He.ga K "Ring"), false), ((He.ga K "NoValue"), false), ((He.ga K "NoPiece"), false), ((He.ga K "NoTo"), false), ((He.ga K "NoSeal"), true), ((He.ga K "NoRow"), false), ((He.ga K "NoThing"), false), ((He.ga K "NoWriting"), false), ((He.ga K "NoPage"), false), ((He.ga K "NoName"), false), ((He.ga K "Bare"), false), ((He.ga K "Waiting"), false), ((He.ga K "TooMany"), false)] = true
  ke_NoThing : eTabB K (.ref (He.ga K "NoThing")) [((He.ga K "NoFile"), false), ((He.ga K "NoOld"), false), ((He.ga K "NoChain"), false), ((He.ga K "NoWhole"), false), ((He.ga K "NoDeed"), false), ((He.ga K "NoPages"), false), ((He.ga K "Ring"), false), ((He.ga K "NoValue"), false), ((He.ga K "NoPiece"), false), ((He.ga K "NoTo"), false), ((He.ga K "NoSeal"), false), ((He.ga K "NoRow"), false), ((He.ga K "NoThing"), true), ((He.ga K "NoWriting"), false), ((He.ga K "NoPage"), false), ((He.ga K "NoName"), false), ((He.ga K "Bare"), false), ((He.ga K "Waiting"), false), ((He.ga K "TooMany"), false)] = true
  ke_NoTo : eTabB K (.ref (He.ga K "NoTo")) [((He.ga K "NoFile"), false), ((He.ga K "NoOld"), false), ((He.ga K "NoChain"), false), ((He.ga K "NoWhole"), false), ((He.ga K "NoDeed"), false), ((He.ga K "NoPages"), false), ((He.ga K "Ring"), false), ((He.ga K "NoValue"), false), ((He.ga K "NoPiece"), false), ((He.ga K "NoTo"), true), ((He.ga K "NoSeal"), false), ((He.ga K "NoRow"), false), ((He.ga K "NoThing"), false), ((He.ga K "NoWriting"), false), ((He.ga K "NoPage"), false), ((He.ga K "NoName"), false), ((He.ga K "Bare"), false), ((He.ga K "Waiting"), false), ((He.ga K "TooMany"), false)] = true
  ke_NoValue : eTabB K (.ref (He.ga K "NoValue")) [((He.ga K "NoFile"), false), ((He.ga K "NoOld"), false), ((He.ga K "NoChain"), false), ((He.ga K "NoWhole"), false), ((He.ga K "NoDeed"), false), ((He.ga K "NoPages"), false), ((He.ga K "Ring"), false), ((He.ga K "NoValue"), true), ((He.ga K "NoPiece"), false), ((He.ga K "NoTo"), false), ((He.ga K "NoSeal"), false), ((He.ga K "NoRow"), false), ((He.ga K "NoThing"), false), ((He.ga K "NoWriting"), false), ((He.ga K "NoPage"), false), ((He.ga K "NoName"), false), ((He.ga K "Bare"), false), ((He.ga K "Waiting"), false), ((He.ga K "TooMany"), false)] = true
  ke_NoWhole : eTabB K (.ref (He.ga K "NoWhole")) [((He.ga K "NoFile"), false), ((He.ga K "NoOld"), false), ((He.ga K "NoChain"), false), ((He.ga K "NoWhole"), true), ((He.ga K "NoDeed"), false), ((He.ga K "NoPages"), false), ((He.ga K "Ring"), false), ((He.ga K "NoValue"), false), ((He.ga K "NoPiece"), false), ((He.ga K "NoTo"), false), ((He.ga K "NoSeal"), false), ((He.ga K "NoRow"), false), ((He.ga K "NoThing"), false), ((He.ga K "NoWriting"), false), ((He.ga K "NoPage"), false), ((He.ga K "NoName"), false), ((He.ga K "Bare"), false), ((He.ga K "Waiting"), false), ((He.ga K "TooMany"), false)] = true
  ke_NoWriting : eTabB K (.ref (He.ga K "NoWriting")) [((He.ga K "NoFile"), false), ((He.ga K "NoOld"), false), ((He.ga K "NoChain"), false), ((He.ga K "NoWhole"), false), ((He.ga K "NoDeed"), false), ((He.ga K "NoPages"), false), ((He.ga K "Ring"), false), ((He.ga K "NoValue"), false), ((He.ga K "NoPiece"), false), ((He.ga K "NoTo"), false), ((He.ga K "NoSeal"), false), ((He.ga K "NoRow"), false), ((He.ga K "NoThing"), false), ((He.ga K "NoWriting"), true), ((He.ga K "NoPage"), false), ((He.ga K "NoName"), false), ((He.ga K "Bare"), false), ((He.ga K "Waiting"), false), ((He.ga K "TooMany"), false)] = true
  ke_OverflowError : eTabB K (.type "OverflowError") [((He.ga K "NoFile"), false), ((He.ga K "NoOld"), false), ((He.ga K "NoChain"), false), ((He.ga K "NoWhole"), false), ((He.ga K "NoDeed"), false), ((He.ga K "NoPages"), false), ((He.ga K "Ring"), false), ((He.ga K "NoValue"), false), ((He.ga K "NoPiece"), false), ((He.ga K "NoTo"), false), ((He.ga K "NoSeal"), false), ((He.ga K "NoRow"), false), ((He.ga K "NoThing"), false), ((He.ga K "NoWriting"), false), ((He.ga K "NoPage"), false), ((He.ga K "NoName"), false), ((He.ga K "Bare"), false), ((He.ga K "Waiting"), false), ((He.ga K "TooMany"), true)] = true
  ke_Ring : eTabB K (.ref (He.ga K "Ring")) [((He.ga K "NoFile"), false), ((He.ga K "NoOld"), false), ((He.ga K "NoChain"), false), ((He.ga K "NoWhole"), false), ((He.ga K "NoDeed"), false), ((He.ga K "NoPages"), false), ((He.ga K "Ring"), true), ((He.ga K "NoValue"), false), ((He.ga K "NoPiece"), false), ((He.ga K "NoTo"), false), ((He.ga K "NoSeal"), false), ((He.ga K "NoRow"), false), ((He.ga K "NoThing"), false), ((He.ga K "NoWriting"), false), ((He.ga K "NoPage"), false), ((He.ga K "NoName"), false), ((He.ga K "Bare"), false), ((He.ga K "Waiting"), false), ((He.ga K "TooMany"), false)] = true
  ke_RuntimeError : eTabB K (.type "RuntimeError") [((He.ga K "NoFile"), false), ((He.ga K "NoOld"), false), ((He.ga K "NoChain"), false), ((He.ga K "NoWhole"), false), ((He.ga K "NoDeed"), false), ((He.ga K "NoPages"), false), ((He.ga K "Ring"), false), ((He.ga K "NoValue"), false), ((He.ga K "NoPiece"), false), ((He.ga K "NoTo"), false), ((He.ga K "NoSeal"), false), ((He.ga K "NoRow"), false), ((He.ga K "NoThing"), false), ((He.ga K "NoWriting"), false), ((He.ga K "NoPage"), false), ((He.ga K "NoName"), false), ((He.ga K "Bare"), true), ((He.ga K "Waiting"), true), ((He.ga K "TooMany"), false)] = true
  ke_TooMany : eTabB K (.ref (He.ga K "TooMany")) [((He.ga K "NoFile"), false), ((He.ga K "NoOld"), false), ((He.ga K "NoChain"), false), ((He.ga K "NoWhole"), false), ((He.ga K "NoDeed"), false), ((He.ga K "NoPages"), false), ((He.ga K "Ring"), false), ((He.ga K "NoValue"), false), ((He.ga K "NoPiece"), false), ((He.ga K "NoTo"), false), ((He.ga K "NoSeal"), false), ((He.ga K "NoRow"), false), ((He.ga K "NoThing"), false), ((He.ga K "NoWriting"), false), ((He.ga K "NoPage"), false), ((He.ga K "NoName"), false), ((He.ga K "Bare"), false), ((He.ga K "Waiting"), false), ((He.ga K "TooMany"), true)] = true
  ke_ValueError : eTabB K (.type "ValueError") [((He.ga K "NoFile"), true), ((He.ga K "NoOld"), true), ((He.ga K "NoChain"), true), ((He.ga K "NoWhole"), true), ((He.ga K "NoDeed"), true), ((He.ga K "NoPages"), true), ((He.ga K "Ring"), true), ((He.ga K "NoValue"), true), ((He.ga K "NoPiece"), true), ((He.ga K "NoTo"), true), ((He.ga K "NoSeal"), true), ((He.ga K "NoRow"), true), ((He.ga K "NoThing"), false), ((He.ga K "NoWriting"), false), ((He.ga K "NoPage"), false), ((He.ga K "NoName"), false), ((He.ga K "Bare"), false), ((He.ga K "Waiting"), false), ((He.ga K "TooMany"), false)] = true
  ke_Waiting : eTabB K (.ref (He.ga K "Waiting")) [((He.ga K "NoFile"), false), ((He.ga K "NoOld"), false), ((He.ga K "NoChain"), false), ((He.ga K "NoWhole"), false), ((He.ga K "NoDeed"), false), ((He.ga K "NoPages"), false), ((He.ga K "Ring"), false), ((He.ga K "NoValue"), false), ((He.ga K "NoPiece"), false), ((He.ga K "NoTo"), false), ((He.ga K "NoSeal"), false), ((He.ga K "NoRow"), false), ((He.ga K "NoThing"), false), ((He.ga K "NoWriting"), false), ((He.ga K "NoPage"), false), ((He.ga K "NoName"), false), ((He.ga K "Bare"), false), ((He.ga K "Waiting"), true), ((He.ga K "TooMany"), false)] = true
  kx : eExB K [(He.ga K "NoFile"), (He.ga K "NoOld"), (He.ga K "NoChain"), (He.ga K "NoWhole"), (He.ga K "NoDeed"), (He.ga K "NoPages"), (He.ga K "Ring"), (He.ga K "NoValue"), (He.ga K "NoPiece"), (He.ga K "NoTo"), (He.ga K "NoSeal"), (He.ga K "NoRow"), (He.ga K "NoThing"), (He.ga K "NoWriting"), (He.ga K "NoPage"), (He.ga K "NoName"), (He.ga K "Bare"), (He.ga K "Waiting"), (He.ga K "TooMany")] = true
  nf100 : PySem.W.findIn K (.ref (He.ga K "NoFile")) "place" = some none
  nf101 : PySem.W.findIn K (.ref (He.ga K "NoOld")) "place" = some none
  nf102 : PySem.W.findIn K (.ref (He.ga K "NoChain")) "place" = some none
  nf103 : PySem.W.findIn K (.ref (He.ga K "NoWhole")) "place" = some none
  nf104 : PySem.W.findIn K (.ref (He.ga K "NoDeed")) "number" = some none
  nf105 : PySem.W.findIn K (.ref (He.ga K "NoPages")) "number" = some none
  nf106 : PySem.W.findIn K (.ref (He.ga K "Ring")) "number" = some none
  nf112 : PySem.W.findIn K (.ref (He.ga K "NoThing")) "number" = some none
  nf113 : PySem.W.findIn K (.ref (He.ga K "NoWriting")) "number" = some none
  nf114 : PySem.W.findIn K (.ref (He.ga K "NoPage")) "number" = some none
  nf115 : PySem.W.findIn K (.ref (He.ga K "NoName")) "name" = some none
  nf118 : PySem.W.findIn K (.ref (He.ga K "TooMany")) "many" = some none
  og100 : OexG K (He.ga K "NoFile") "ValueError.__new__" tl_ValueError
  og101 : OexG K (He.ga K "NoOld") "ValueError.__new__" tl_ValueError
  og102 : OexG K (He.ga K "NoChain") "ValueError.__new__" tl_ValueError
  og103 : OexG K (He.ga K "NoWhole") "ValueError.__new__" tl_ValueError
  og104 : OexG K (He.ga K "NoDeed") "ValueError.__new__" tl_ValueError
  og105 : OexG K (He.ga K "NoPages") "ValueError.__new__" tl_ValueError
  og106 : OexG K (He.ga K "Ring") "ValueError.__new__" tl_ValueError
  og112 : OexG K (He.ga K "NoThing") "LookupError.__new__" tl_LookupError
  og113 : OexG K (He.ga K "NoWriting") "IndexError.__new__" tl_IndexError
  og114 : OexG K (He.ga K "NoPage") "IndexError.__new__" tl_IndexError
  og115 : OexG K (He.ga K "NoName") "LookupError.__new__" tl_KeyError
  og118 : OexG K (He.ga K "TooMany") "OverflowError.__new__" tl_OverflowError
  ox100 : OexC K (He.ga K "NoFile")
  ox101 : OexC K (He.ga K "NoOld")
  ox102 : OexC K (He.ga K "NoChain")
  ox103 : OexC K (He.ga K "NoWhole")
  ox104 : OexC K (He.ga K "NoDeed")
  ox105 : OexC K (He.ga K "NoPages")
  ox106 : OexC K (He.ga K "Ring")
  ox112 : OexG K (He.ga K "NoThing") "LookupError.__new__" tl_LookupError
  ox113 : OexG K (He.ga K "NoWriting") "IndexError.__new__" tl_IndexError
  ox114 : OexG K (He.ga K "NoPage") "IndexError.__new__" tl_IndexError
  ox115 : OexG K (He.ga K "NoName") "LookupError.__new__" tl_KeyError
  ox118 : OexG K (He.ga K "TooMany") "OverflowError.__new__" tl_OverflowError
  rb_BookError : PySem.W.readsIn K (He.ga K "BookError") (.type "type") = true
  rg107 : RaG K (He.ga K "NoValue") "ValueError.__new__" tl_ValueError
  rg108 : RaG K (He.ga K "NoPiece") "ValueError.__new__" tl_ValueError
  rg109 : RaG K (He.ga K "NoTo") "ValueError.__new__" tl_ValueError
  rg110 : RaG K (He.ga K "NoSeal") "ValueError.__new__" tl_ValueError
  rg111 : RaG K (He.ga K "NoRow") "ValueError.__new__" tl_ValueError
  rg116 : RaG K (He.ga K "Bare") "RuntimeError.__new__" tl_RuntimeError
  rg117 : RaG K (He.ga K "Waiting") "RuntimeError.__new__" tl_RuntimeError
  sb_BookError : PySem.W.specialIn K (.ref (He.ga K "BookError")) "__getattribute__" = some (some (.builtin "type.__getattribute__"))
  ti100 : PySem.W.typeIn K (.ref (He.fAd K ("NoFile", some "__init__"))) = some (.type "function")
  ti101 : PySem.W.typeIn K (.ref (He.fAd K ("NoOld", some "__init__"))) = some (.type "function")
  ti102 : PySem.W.typeIn K (.ref (He.fAd K ("NoChain", some "__init__"))) = some (.type "function")
  ti103 : PySem.W.typeIn K (.ref (He.fAd K ("NoWhole", some "__init__"))) = some (.type "function")
  ti104 : PySem.W.typeIn K (.ref (He.fAd K ("NoDeed", some "__init__"))) = some (.type "function")
  ti105 : PySem.W.typeIn K (.ref (He.fAd K ("NoPages", some "__init__"))) = some (.type "function")
  ti106 : PySem.W.typeIn K (.ref (He.fAd K ("Ring", some "__init__"))) = some (.type "function")
  ti112 : PySem.W.typeIn K (.ref (He.fAd K ("NoThing", some "__init__"))) = some (.type "function")
  ti113 : PySem.W.typeIn K (.ref (He.fAd K ("NoWriting", some "__init__"))) = some (.type "function")
  ti114 : PySem.W.typeIn K (.ref (He.fAd K ("NoPage", some "__init__"))) = some (.type "function")
  ti115 : PySem.W.typeIn K (.ref (He.fAd K ("NoName", some "__init__"))) = some (.type "function")
  ti118 : PySem.W.typeIn K (.ref (He.fAd K ("TooMany", some "__init__"))) = some (.type "function")
structure Ok (P : Program) (w : World) (K : PySem.W.Frag) (mg : Str → Option Value) (base : Heap) (F n : Nat) : Prop where
  c0 : CalleeB P w K mg base (Wk K) (2 * n) (He.fAd K d0.at_) ps0 [] (run F n ix__law_made)
  c1 : CalleeB P w K mg base (Wk K) (2 * n) (He.fAd K d1.at_) ps1 [] (run F n ix__law_classes)
  c2 : CalleeB P w K mg base (Wk K) (2 * n) (He.fAd K d2.at_) ps2 [] (run F n ix__law_bases)
  c3 : CalleeB P w K mg base (Wk K) (2 * n) (He.fAd K d3.at_) ps3 [] (run F n ix__law_due_bases)
  c4 : CalleeB P w K mg base (Wk K) (2 * n) (He.fAd K d4.at_) ps4 [] (run F n ix__law_fields)
  c5 : CalleeB P w K mg base (Wk K) (2 * n) (He.fAd K d5.at_) ps5 [] (run F n ix__law_pool)
  c6 : CalleeB P w K mg base (Wk K) (2 * n) (He.fAd K d6.at_) ps6 [] (run F n ix__law_take)
  c7 : CalleeB P w K mg base (Wk K) (2 * n) (He.fAd K d7.at_) ps7 [] (run F n ix__law_named)
  c8 : CalleeB P w K mg base (Wk K) (2 * n) (He.fAd K d8.at_) ps8 [] (run F n ix_law)
  i918 : ∃ fd ps, FnOk P w K mg base CX0 1 (He.fAd K d918.at_) fd ps (spI (He.ga K "TooMany") "many") ∧ Binds K fd ps []
  i915 : ∃ fd ps, FnOk P w K mg base CX0 1 (He.fAd K d915.at_) fd ps (spI (He.ga K "NoName") "name") ∧ Binds K fd ps []
  i914 : ∃ fd ps, FnOk P w K mg base CX0 1 (He.fAd K d914.at_) fd ps (spI (He.ga K "NoPage") "number") ∧ Binds K fd ps []
  i913 : ∃ fd ps, FnOk P w K mg base CX0 1 (He.fAd K d913.at_) fd ps (spI (He.ga K "NoWriting") "number") ∧ Binds K fd ps []
  i912 : ∃ fd ps, FnOk P w K mg base CX0 1 (He.fAd K d912.at_) fd ps (spI (He.ga K "NoThing") "number") ∧ Binds K fd ps []
  i906 : ∃ fd ps, FnOk P w K mg base CX0 1 (He.fAd K d906.at_) fd ps (spI (He.ga K "Ring") "number") ∧ Binds K fd ps []
  i905 : ∃ fd ps, FnOk P w K mg base CX0 1 (He.fAd K d905.at_) fd ps (spI (He.ga K "NoPages") "number") ∧ Binds K fd ps []
  i904 : ∃ fd ps, FnOk P w K mg base CX0 1 (He.fAd K d904.at_) fd ps (spI (He.ga K "NoDeed") "number") ∧ Binds K fd ps []
  i903 : ∃ fd ps, FnOk P w K mg base CX0 1 (He.fAd K d903.at_) fd ps (spI (He.ga K "NoWhole") "place") ∧ Binds K fd ps []
  i902 : ∃ fd ps, FnOk P w K mg base CX0 1 (He.fAd K d902.at_) fd ps (spI (He.ga K "NoChain") "place") ∧ Binds K fd ps []
  i901 : ∃ fd ps, FnOk P w K mg base CX0 1 (He.fAd K d901.at_) fd ps (spI (He.ga K "NoOld") "place") ∧ Binds K fd ps []
  i900 : ∃ fd ps, FnOk P w K mg base CX0 1 (He.fAd K d900.at_) fd ps (spI (He.ga K "NoFile") "place") ∧ Binds K fd ps []
  j915 : ∃ fd ps, FnOk P w K mg base CX0 1 (He.fAd K d915.at_) fd ps (spI (He.ga K "NoName") "name") ∧ BkE K fd ps "name"
  j914 : ∃ fd ps, FnOk P w K mg base CX0 1 (He.fAd K d914.at_) fd ps (spI (He.ga K "NoPage") "number") ∧ BkE K fd ps "number"
  j904 : ∃ fd ps, FnOk P w K mg base CX0 1 (He.fAd K d904.at_) fd ps (spI (He.ga K "NoDeed") "number") ∧ BkE K fd ps "number"
  j900 : ∃ fd ps, FnOk P w K mg base CX0 1 (He.fAd K d900.at_) fd ps (spI (He.ga K "NoFile") "place") ∧ BkE K fd ps "place"
  j918 : ∃ fd ps, FnOk P w K mg base CX0 1 (He.fAd K d918.at_) fd ps (spI (He.ga K "TooMany") "many") ∧ BkE K fd ps "many"
  j913 : ∃ fd ps, FnOk P w K mg base CX0 1 (He.fAd K d913.at_) fd ps (spI (He.ga K "NoWriting") "number") ∧ BkE K fd ps "number"
  j912 : ∃ fd ps, FnOk P w K mg base CX0 1 (He.fAd K d912.at_) fd ps (spI (He.ga K "NoThing") "number") ∧ BkE K fd ps "number"
  j906 : ∃ fd ps, FnOk P w K mg base CX0 1 (He.fAd K d906.at_) fd ps (spI (He.ga K "Ring") "number") ∧ BkE K fd ps "number"
  j905 : ∃ fd ps, FnOk P w K mg base CX0 1 (He.fAd K d905.at_) fd ps (spI (He.ga K "NoPages") "number") ∧ BkE K fd ps "number"
  j903 : ∃ fd ps, FnOk P w K mg base CX0 1 (He.fAd K d903.at_) fd ps (spI (He.ga K "NoWhole") "place") ∧ BkE K fd ps "place"
  j902 : ∃ fd ps, FnOk P w K mg base CX0 1 (He.fAd K d902.at_) fd ps (spI (He.ga K "NoChain") "place") ∧ BkE K fd ps "place"
  j901 : ∃ fd ps, FnOk P w K mg base CX0 1 (He.fAd K d901.at_) fd ps (spI (He.ga K "NoOld") "place") ∧ BkE K fd ps "place"
abbrev ArD (K : PySem.W.Frag) (d : He.DefD) (st : Stmt) (cdv : Value) (A : Around) (s : Shared) : Around := A.deeper (envOfC d.qual (defScope st) s.heap.objs.size (He.fAd K d.at_) cdv)
structure SjD (N : List Str) (d : He.DefD) (st : Stmt) (b : (Nat → List D → Hh → R D) → Nat → SM) : Prop where
  h : ∀ {P : Program} {w : World} {K : PySem.W.Frag} {mg : Str → Option Value} {base : Heap} {F n : Nat} {cdv : Value} {A : Around} {outer : List Env} {s : Shared} {H : Hp} {E : XK}, Ok P w K mg base F n → Mg w K mg → RoomG (2 * n + 1) (ArD K d st cdv A s) →
  SsJ (cxOf (L2.CX P w) P w K mg base N d.qual (defScope st) (He.fAd K d.at_) cdv A outer s H E) (Wk K) (fun cls d _ H => E cls d H) (defBody st) (b (run F n) F)
theorem sj_i {N ps : List Str} {d : He.DefD} {st : Stmt} {b : (Nat → List D → Hh → R D) → Nat → SM} (S : FnScope N ps (defScope st))
    (h : ∀ {P : Program} {w : World} {K : PySem.W.Frag} {mg : Str → Option Value} {base : Heap} {F n : Nat} {cdv : Value} {A : Around} {outer : List Env} {s : Shared} {H : Hp} {E : XK}, Js (cxOf (L2.CX P w) P w K mg base N d.qual (defScope st) (He.fAd K d.at_) cdv A outer s H E) (Wk K) (fun cls d _ H => E cls d H) → Jc (cxOf (L2.CX P w) P w K mg base N d.qual (defScope st) (He.fAd K d.at_) cdv A outer s H E) (Wk K) (fun cls d _ H => E cls d H) →
      Ok P w K mg base F n → Mg w K mg → RoomG (2 * n) (ArD K d st cdv A s) → RoomG (2 * n + 1) (ArD K d st cdv A s) → SsJ (cxOf (L2.CX P w) P w K mg base N d.qual (defScope st) (He.fAd K d.at_) cdv A outer s H E) (Wk K) (fun cls d _ H => E cls d H) (defBody st) (b (run F n) F)) : SjD N d st b :=
  ⟨fun {P w K mg base F n cdv A outer s H E} O M hr => have J : Js (cxOf (L2.CX P w) P w K mg base N d.qual (defScope st) (He.fAd K d.at_) cdv A outer s H E) (Wk K) (fun cls d _ H => E cls d H) := js_of rfl S.nd hr
  h J J.toJc O M (hr.mono' (Nat.le_succ (2 * n))) hr⟩
def BdD (K : PySem.W.Frag) (d : He.DefD) (ps : List Str) (dvs : List V) : Prop := ∀ {fd : FuncData}, FnD K d fd → ∃ ds, Vals dvs ds ∧ Binds K fd ps ds
section
variable {P : Program} {w : World} {K : PySem.W.Frag} {mg : Str → Option Value} {base : Heap} {F n c : Nat} {N ps : List Str} {d : He.DefD} {dvs : List V} {r : List D → Hh → R D} {st : Stmt} {b : (Nat → List D → Hh → R D) → Nat → SM} {f : Addr}
theorem rz {F i : Nat} : run F 0 i = fun _ _ => .bad := rfl
theorem co_z {k : Nat} (hD : ∃ fd, FnD K d fd) (hb : BdD K d ps dvs) (hr : r = fun _ _ => .bad) : CalleeB P w K mg base (Wk K) k (He.fAd K d.at_) ps dvs r := by
  subst hr
  obtain ⟨fd, D⟩ := hD
  obtain ⟨ds, v, b⟩ := hb D
  exact ⟨fd, ds, fn_bad, D.kp, b, v⟩
theorem co_full {a : Str × Option Str} {x q : Str} {dv : List He.Dv} {kw : List (Str × He.Dv)} (hd : d = ⟨a, x, q, defArgs st, defBody st, defScope st, dv, kw⟩) (O : Ok P w K mg base F n) (M : Mg w K mg) (hD : ∃ fd, FnD K d fd) (hb : BdD K d ps dvs) (S : FnScope N ps (defScope st)) (s : SjD N d st b) (hr : r = full ps.length N.length (b (run F n) F)) : CalleeB P w K mg base (Wk K) (2 * (n + 1)) (He.fAd K d.at_) ps dvs r := by
  subst hr
  subst hd
  obtain ⟨fd, D⟩ := hD
  obtain ⟨ds, v, b⟩ := hb D
  exact ⟨fd, ds, fn_full D S rfl (fun cdv A outer s' H E h => s.h O M h), D.kp, b, v⟩
theorem co_own {a : Str × Option Str} {x q : Str} {dv : List He.Dv} {kw : List (Str × He.Dv)} (hd : d = ⟨a, x, q, defArgs st, defBody st, defScope st, dv, kw⟩) (O : Ok P w K mg base F n) (M : Mg w K mg) (hD : ∃ fd, FnD K d fd) (hb : BdD K d ps dvs) (S : FnScope N ps (defScope st)) (s : SjD N d st b) (hr : r = own ps.length N.length (b (run F n) F)) : CalleeB P w K mg base (Wk K) (2 * (n + 1)) (He.fAd K d.at_) ps dvs r := by
  subst hr
  subst hd
  obtain ⟨fd, D⟩ := hD
  obtain ⟨ds, v, b⟩ := hb D
  exact ⟨fd, ds, fn_own D S rfl (fun cdv A outer s' H E h => s.h O M h), D.kp, b, v⟩
end
end Lw
end
section
set_option Elab.async false
set_option maxHeartbeats 0
namespace Lw
open PySem PySem.Spec PyProof.Rows L2 Fw
theorem s0 : SjD N0 d0 st0 b__law_made := sj_i sc0 fun {_ _ K _ _ F} => fun J j O M hr0 hr => (sk (stv J (ej_lst (ac (ej_errK (c := 100) (fk := 0) (fI := He.fAd K d900.at_) (f := "place") J base_ValueError rfl M.og100 M.ic100 M.ti100 O.j900 hr0 M.g_NoFile (kj_cons v0 kj_nil) (len_cons len_nil)) (ac (ej_err (c := 101) (fk := 0) (fI := He.fAd K d901.at_) (f := "place") J base_ValueError rfl M.og101 M.ic101 M.ti101 O.i901 hr0 M.g_NoOld v0) (ac (ej_err (c := 102) (fk := 0) (fI := He.fAd K d902.at_) (f := "place") J base_ValueError rfl M.og102 M.ic102 M.ti102 O.i902 hr0 M.g_NoChain v0) (ac (ej_err (c := 103) (fk := 0) (fI := He.fAd K d903.at_) (f := "place") J base_ValueError rfl M.og103 M.ic103 M.ti103 O.i903 hr0 M.g_NoWhole v0) (ac (ej_errK (c := 104) (fk := 1) (fI := He.fAd K d904.at_) (f := "number") J base_ValueError rfl M.og104 M.ic104 M.ti104 O.j904 hr0 M.g_NoDeed (kj_cons v0 kj_nil) (len_cons len_nil)) (ac (ej_err (c := 105) (fk := 1) (fI := He.fAd K d905.at_) (f := "number") J base_ValueError rfl M.og105 M.ic105 M.ti105 O.i905 hr0 M.g_NoPages v0) (ac (ej_err (c := 106) (fk := 1) (fI := He.fAd K d906.at_) (f := "number") J base_ValueError rfl M.og106 M.ic106 M.ti106 O.i906 hr0 M.g_Ring v0) an)))))))))
 (sk (stv J (ebn j (op := .add) rfl v0 (ej_lst (ac (ej_err0 (c := 107) PySem.F.excBase_ValueError M.rg107 M.g_NoValue (es [97])) (ac (ej_err0 (c := 108) PySem.F.excBase_ValueError M.rg108 M.g_NoPiece (es [97])) (ac (ej_err0 (c := 109) PySem.F.excBase_ValueError M.rg109 M.g_NoTo (es [97])) (ac (ej_err0 (c := 110) PySem.F.excBase_ValueError M.rg110 M.g_NoSeal (es [97])) (ac (ej_err0 (c := 111) PySem.F.excBase_ValueError M.rg111 M.g_NoRow (es [97])) (ac (ej_err (c := 112) (fk := 1) (fI := He.fAd K d912.at_) (f := "number") J base_LookupError rfl M.og112 M.ic112 M.ti112 O.i912 hr0 M.g_NoThing v0) (ac (ej_err (c := 113) (fk := 1) (fI := He.fAd K d913.at_) (f := "number") J base_IndexError rfl M.og113 M.ic113 M.ti113 O.i913 hr0 M.g_NoWriting v0) an))))))))))
 (sk (sr (ebn j (op := .add) rfl v0 (ej_lst (ac (ej_errK (c := 114) (fk := 1) (fI := He.fAd K d914.at_) (f := "number") J base_IndexError rfl M.og114 M.ic114 M.ti114 O.j914 hr0 M.g_NoPage (kj_cons v0 kj_nil) (len_cons len_nil)) (ac (ej_errK (c := 115) (fk := 2) (fI := He.fAd K d915.at_) (f := "name") J base_KeyError rfl M.og115 M.ic115 M.ti115 O.j915 hr0 M.g_NoName (kj_cons v0 kj_nil) (len_cons len_nil)) (ac (ej_err0 (c := 116) PySem.F.excBase_RuntimeError M.rg116 M.g_Bare (es [97])) (ac (ej_err0 (c := 117) PySem.F.excBase_RuntimeError M.rg117 M.g_Waiting (es [97])) (ac (ej_err (c := 118) (fk := 3) (fI := He.fAd K d918.at_) (f := "many") J base_OverflowError rfl M.og118 M.ic118 M.ti118 O.i918 hr0 M.g_TooMany v0) an))))))))
 sn)))
end Lw
end
section
set_option Elab.async false
set_option maxHeartbeats 0
namespace Lw
open PySem PySem.Spec PyProof.Rows L2 Fw
theorem s1 : SjD N1 d1 st1 b__law_classes := sj_i sc1 fun {_ _ K _ _ F} => fun J j O M hr0 hr => (sk (stv J (ej_lst (ac (ej_isE (cv := .ref (He.ga K "NoFile")) v0 (pe_glob (v := .ref _) rfl M.g_NoFile rfl (by decide)) (fun w r => r) (tabE_ok M.ke_NoFile M.kx) rfl M.f_isinstance) (ac (ej_isE (cv := .ref (He.ga K "NoOld")) v0 (pe_glob (v := .ref _) rfl M.g_NoOld rfl (by decide)) (fun w r => r) (tabE_ok M.ke_NoOld M.kx) rfl M.f_isinstance) (ac (ej_isE (cv := .ref (He.ga K "NoChain")) v0 (pe_glob (v := .ref _) rfl M.g_NoChain rfl (by decide)) (fun w r => r) (tabE_ok M.ke_NoChain M.kx) rfl M.f_isinstance) (ac (ej_isE (cv := .ref (He.ga K "NoWhole")) v0 (pe_glob (v := .ref _) rfl M.g_NoWhole rfl (by decide)) (fun w r => r) (tabE_ok M.ke_NoWhole M.kx) rfl M.f_isinstance) an))))))
 (sk (stv J (ebn j (op := .add) rfl v0 (ej_lst (ac (ej_isE (cv := .ref (He.ga K "NoDeed")) v0 (pe_glob (v := .ref _) rfl M.g_NoDeed rfl (by decide)) (fun w r => r) (tabE_ok M.ke_NoDeed M.kx) rfl M.f_isinstance) (ac (ej_isE (cv := .ref (He.ga K "NoPages")) v0 (pe_glob (v := .ref _) rfl M.g_NoPages rfl (by decide)) (fun w r => r) (tabE_ok M.ke_NoPages M.kx) rfl M.f_isinstance) (ac (ej_isE (cv := .ref (He.ga K "Ring")) v0 (pe_glob (v := .ref _) rfl M.g_Ring rfl (by decide)) (fun w r => r) (tabE_ok M.ke_Ring M.kx) rfl M.f_isinstance) (ac (ej_isE (cv := .ref (He.ga K "NoValue")) v0 (pe_glob (v := .ref _) rfl M.g_NoValue rfl (by decide)) (fun w r => r) (tabE_ok M.ke_NoValue M.kx) rfl M.f_isinstance) an)))))))
 (sk (stv J (ebn j (op := .add) rfl v0 (ej_lst (ac (ej_isE (cv := .ref (He.ga K "NoPiece")) v0 (pe_glob (v := .ref _) rfl M.g_NoPiece rfl (by decide)) (fun w r => r) (tabE_ok M.ke_NoPiece M.kx) rfl M.f_isinstance) (ac (ej_isE (cv := .ref (He.ga K "NoTo")) v0 (pe_glob (v := .ref _) rfl M.g_NoTo rfl (by decide)) (fun w r => r) (tabE_ok M.ke_NoTo M.kx) rfl M.f_isinstance) (ac (ej_isE (cv := .ref (He.ga K "NoSeal")) v0 (pe_glob (v := .ref _) rfl M.g_NoSeal rfl (by decide)) (fun w r => r) (tabE_ok M.ke_NoSeal M.kx) rfl M.f_isinstance) (ac (ej_isE (cv := .ref (He.ga K "NoRow")) v0 (pe_glob (v := .ref _) rfl M.g_NoRow rfl (by decide)) (fun w r => r) (tabE_ok M.ke_NoRow M.kx) rfl M.f_isinstance) an)))))))
 (sk (stv J (ebn j (op := .add) rfl v0 (ej_lst (ac (ej_isE (cv := .ref (He.ga K "NoThing")) v0 (pe_glob (v := .ref _) rfl M.g_NoThing rfl (by decide)) (fun w r => r) (tabE_ok M.ke_NoThing M.kx) rfl M.f_isinstance) (ac (ej_isE (cv := .ref (He.ga K "NoWriting")) v0 (pe_glob (v := .ref _) rfl M.g_NoWriting rfl (by decide)) (fun w r => r) (tabE_ok M.ke_NoWriting M.kx) rfl M.f_isinstance) (ac (ej_isE (cv := .ref (He.ga K "NoPage")) v0 (pe_glob (v := .ref _) rfl M.g_NoPage rfl (by decide)) (fun w r => r) (tabE_ok M.ke_NoPage M.kx) rfl M.f_isinstance) (ac (ej_isE (cv := .ref (He.ga K "NoName")) v0 (pe_glob (v := .ref _) rfl M.g_NoName rfl (by decide)) (fun w r => r) (tabE_ok M.ke_NoName M.kx) rfl M.f_isinstance) an)))))))
 (sk (sr (ebn j (op := .add) rfl v0 (ej_lst (ac (ej_isE (cv := .ref (He.ga K "Bare")) v0 (pe_glob (v := .ref _) rfl M.g_Bare rfl (by decide)) (fun w r => r) (tabE_ok M.ke_Bare M.kx) rfl M.f_isinstance) (ac (ej_isE (cv := .ref (He.ga K "Waiting")) v0 (pe_glob (v := .ref _) rfl M.g_Waiting rfl (by decide)) (fun w r => r) (tabE_ok M.ke_Waiting M.kx) rfl M.f_isinstance) (ac (ej_isE (cv := .ref (He.ga K "TooMany")) v0 (pe_glob (v := .ref _) rfl M.g_TooMany rfl (by decide)) (fun w r => r) (tabE_ok M.ke_TooMany M.kx) rfl M.f_isinstance) an))))))
 sn)))))
end Lw
end
section
set_option Elab.async false
set_option maxHeartbeats 0
namespace Lw
open PySem PySem.Spec PyProof.Rows L2 Fw
theorem s2 : SjD N2 d2 st2 b__law_bases := sj_i sc2 fun {_ _ K _ _ F} => fun J j O M hr0 hr => (sk (stv J (ej_lst (ac (ej_isE (cv := .ref (He.ga K "BookError")) v0 (pe_glob (v := .ref _) rfl M.g_BookError rfl (by decide)) (fun w r => r) (tabE_ok M.ke_BookError M.kx) rfl M.f_isinstance) (ac (ej_isE (cv := .ty "ValueError") v0 (pe_bltn rfl M.f_ValueError (by rfl) (v := .ty "ValueError") rfl) (fun w r => r) (tabE_ok M.ke_ValueError M.kx) rfl M.f_isinstance) (ac (ej_isE (cv := .ty "LookupError") v0 (pe_bltn rfl M.f_LookupError (by rfl) (v := .ty "LookupError") rfl) (fun w r => r) (tabE_ok M.ke_LookupError M.kx) rfl M.f_isinstance) (ac (ej_isE (cv := .ty "IndexError") v0 (pe_bltn rfl M.f_IndexError (by rfl) (v := .ty "IndexError") rfl) (fun w r => r) (tabE_ok M.ke_IndexError M.kx) rfl M.f_isinstance) an))))))
 (sk (sr (ebn j (op := .add) rfl v0 (ej_lst (ac (ej_isE (cv := .ty "KeyError") v0 (pe_bltn rfl M.f_KeyError (by rfl) (v := .ty "KeyError") rfl) (fun w r => r) (tabE_ok M.ke_KeyError M.kx) rfl M.f_isinstance) (ac (ej_isE (cv := .ty "RuntimeError") v0 (pe_bltn rfl M.f_RuntimeError (by rfl) (v := .ty "RuntimeError") rfl) (fun w r => r) (tabE_ok M.ke_RuntimeError M.kx) rfl M.f_isinstance) (ac (ej_isE (cv := .ty "OverflowError") v0 (pe_bltn rfl M.f_OverflowError (by rfl) (v := .ty "OverflowError") rfl) (fun w r => r) (tabE_ok M.ke_OverflowError M.kx) rfl M.f_isinstance) an))))))
 sn))
end Lw
end
section
set_option Elab.async false
set_option maxHeartbeats 0
namespace Lw
open PySem PySem.Spec PyProof.Rows L2 Fw
theorem s3 : SjD N3 d3 st3 b__law_due_bases := sj_i sc3 fun J j O M hr0 hr => (sk (sf (bc j (op := .lt) rfl v0 ej_int) (sk (sj_set J rfl (.inr rfl) (ej_lst (ac ej_int (ac ej_int an))))
 sn) (sk (sf (bc j (op := .eq) rfl v0 ej_int) (sk (sj_set J rfl (.inr rfl) (ej_lst (ac ej_int an)))
 sn) (sk (sf (bc j (op := .lt) rfl v0 ej_int) (sk (sj_set J rfl (.inr rfl) (ej_lst (ac ej_int (ac ej_int an))))
 sn) (sk (sf (bc j (op := .eq) rfl v0 ej_int) (sk (sj_set J rfl (.inr rfl) (ej_lst (ac ej_int (ac ej_int an))))
 sn) (sk (sj_set J rfl (.inr rfl) (eix j (ej_lst (ac (ej_lst (ac ej_int an)) (ac (ej_lst (ac ej_int an)) an))) (ej_t1 (cl_intV) (ej_cmp j (op := .eq) rfl v0 ej_int) (by decide +kernel) rfl M.f_int)))
 sn))
 sn))
 sn))
 sn))
 (sk (sr (ej_lc J (ij_range1 ej_int rfl M.f_range) (own := [("_law_k", 2)]) (blkOk_by (N := N3) (sc := defScope st3) (by decide +kernel)) (by decide) (fun s1 H1 C1 cl1 fp1 => (gj_nm (jc_blk J s1 H1 _ _ fp1).hN rfl (.inl rfl) (.inr rfl))) (fun s1 H1 C1 cl1 fp1 => cj_nil) (fun s1 H1 C1 cl1 fp1 => (ej_inD (jc_blk J s1 H1 _ _ fp1).toJc v0 (ej_v rfl (.inr (.inl rfl)))))))
 sn))
end Lw
end
section
set_option Elab.async false
set_option maxHeartbeats 0
namespace Lw
open PySem PySem.Spec PyProof.Rows L2 Fw
theorem s4 : SjD N4 d4 st4 b__law_fields := sj_i sc4 fun J j O M hr0 hr => (sk (stv J (ej_newL (ac (ej_fldE (eix j v0 ej_int) rfl (fldE_ok M.fe_place)) (ac (ej_fldE (eix j v0 ej_int) rfl (fldE_ok M.fe_place)) (ac (ej_fldE (eix j v0 ej_int) rfl (fldE_ok M.fe_place)) (ac (ej_fldE (eix j v0 ej_int) rfl (fldE_ok M.fe_place)) (ac (ej_fldE (eix j v0 ej_int) rfl (fldE_ok M.fe_number)) (ac (ej_fldE (eix j v0 ej_int) rfl (fldE_ok M.fe_number)) an))))))))
 (sk (sj_ex (ej_app v0 (ej_fldE (eix j v0 ej_int) rfl (fldE_ok M.fe_number))))
 (sk (sr (ebn j (op := .add) rfl v0 (ej_lst (ac (ej_fldE (eix j v0 ej_int) rfl (fldE_ok M.fe_number)) (ac (ej_fldE (eix j v0 ej_int) rfl (fldE_ok M.fe_number)) (ac (ej_fldE (eix j v0 ej_int) rfl (fldE_ok M.fe_number)) (ac (ej_fldE (eix j v0 ej_int) rfl (fldE_ok M.fe_name)) (ac (ej_fldE (eix j v0 ej_int) rfl (fldE_ok M.fe_many)) an))))))))
 sn)))
theorem s5 : SjD N5 d5 st5 b__law_pool := sj_i sc5 fun J j O M hr0 hr => (sk (stv J ej_int)
 (sk (sf (bc j (op := .lt) rfl v0 (ej_b1 (cl_len j.hK) v0 (by decide +kernel) rfl M.f_len)) (sk (stv J (eix j v0 v0))
 sn) sn)
 (sk (stv J (ebn j (op := .mod) rfl (ebn j (op := .mul) rfl (ebn j (op := .add) rfl (ebn j (op := .add) rfl (ebn j (op := .mod) rfl v0 ej_int) (ebn j (op := .mul) rfl (ebn j (op := .mul) rfl ej_int v0) v0)) ej_int) ej_int) ej_int))
 (sk (sf (bc j (op := .lt) rfl v0 (ebn j (op := .pow) rfl ej_int ej_int)) (sk (stv J ej_int)
 sn) sn)
 (sk (sr (ej_newL (ac v0 (ac (ebn j (op := .add) rfl (ebn j (op := .mod) rfl (ebn j (op := .mul) rfl v0 v0) ej_int) ej_int) an))))
 sn)))))
theorem s6 : SjD N6 d6 st6 b__law_take := sj_i sc6 fun J j O M hr0 hr => (sk (sf (bc j (op := .gt) rfl (eix j v0 ej_int) ej_int) (sk (stv J (ebn j (op := .mod) rfl (eix j v0 ej_int) v0))
 (sk (sj_setI J v0 ej_int (ebn j (op := .fdiv) rfl (eix j v0 ej_int) v0))
 (sk (sr v0)
 sn))) sn)
 (sk (sj_setI J v0 ej_int (ebn j (op := .mod) rfl (ebn j (op := .add) rfl (ebn j (op := .mul) rfl (eix j v0 ej_int) ej_int) ej_int) ej_int))
 (sk (sr (ebn j (op := .mod) rfl (ebn j (op := .fdiv) rfl (ebn j (op := .mod) rfl (ebn j (op := .mul) rfl (eix j v0 ej_int) (eix j v0 ej_int)) ej_int) ej_int) v0))
 sn)))
end Lw
end
section
set_option Elab.async false
set_option maxHeartbeats 0
namespace Lw
open PySem PySem.Spec PyProof.Rows L2 Fw
theorem s7 : SjD N7 d7 st7 b__law_named := sj_i sc7 fun {_ _ K _ _ F} => fun J j O M hr0 hr => (sk (stv J (ej_lst (ac (ej_fldE (ej_errK (c := 101) (fk := 0) (fI := He.fAd K d901.at_) (f := "place") J base_ValueError rfl M.og101 M.ic101 M.ti101 O.j901 hr0 M.g_NoOld (kj_cons v0 kj_nil) (len_cons len_nil)) rfl (fldE_ok M.fe_place)) (ac (ej_fldE (ej_errK (c := 102) (fk := 0) (fI := He.fAd K d902.at_) (f := "place") J base_ValueError rfl M.og102 M.ic102 M.ti102 O.j902 hr0 M.g_NoChain (kj_cons v0 kj_nil) (len_cons len_nil)) rfl (fldE_ok M.fe_place)) (ac (ej_fldE (ej_errK (c := 103) (fk := 0) (fI := He.fAd K d903.at_) (f := "place") J base_ValueError rfl M.og103 M.ic103 M.ti103 O.j903 hr0 M.g_NoWhole (kj_cons v0 kj_nil) (len_cons len_nil)) rfl (fldE_ok M.fe_place)) (ac (ej_fldE (ej_errK (c := 105) (fk := 1) (fI := He.fAd K d905.at_) (f := "number") J base_ValueError rfl M.og105 M.ic105 M.ti105 O.j905 hr0 M.g_NoPages (kj_cons v0 kj_nil) (len_cons len_nil)) rfl (fldE_ok M.fe_number)) an))))))
 (sk (stv J (ebn j (op := .add) rfl v0 (ej_lst (ac (ej_fldE (ej_errK (c := 106) (fk := 1) (fI := He.fAd K d906.at_) (f := "number") J base_ValueError rfl M.og106 M.ic106 M.ti106 O.j906 hr0 M.g_Ring (kj_cons v0 kj_nil) (len_cons len_nil)) rfl (fldE_ok M.fe_number)) (ac (ej_fldE (ej_errK (c := 112) (fk := 1) (fI := He.fAd K d912.at_) (f := "number") J base_LookupError rfl M.og112 M.ic112 M.ti112 O.j912 hr0 M.g_NoThing (kj_cons v0 kj_nil) (len_cons len_nil)) rfl (fldE_ok M.fe_number)) (ac (ej_fldE (ej_errK (c := 113) (fk := 1) (fI := He.fAd K d913.at_) (f := "number") J base_IndexError rfl M.og113 M.ic113 M.ti113 O.j913 hr0 M.g_NoWriting (kj_cons v0 kj_nil) (len_cons len_nil)) rfl (fldE_ok M.fe_number)) an))))))
 (sk (sr (ebn j (op := .add) rfl v0 (ej_lst (ac (ej_fldE (ej_errK (c := 118) (fk := 3) (fI := He.fAd K d918.at_) (f := "many") J base_OverflowError rfl M.og118 M.ic118 M.ti118 O.j918 hr0 M.g_TooMany (kj_cons v0 kj_nil) (len_cons len_nil)) rfl (fldE_ok M.fe_many)) an))))
 sn)))
theorem s8 : SjD N8 d8 st8 b_law := sj_i sc8 fun J j O M hr0 hr => (sk (stv J (ej_lst (ac ej_int (ac ej_non (ac (es [97]) (ac (ej_neg ej_int) (ac ej_bl (ac (ej_tup (ac ej_int (ac ej_int an))) (ac (ebn j (op := .pow) rfl ej_int ej_int) (ac (es []) (ac ej_int (ac (ej_tup (ac (es [116, 111]) (ac ej_int (ac ej_int an)))) an))))))))))))
 (sk (sj_for J (ij_range1 (ej_b2 (cl_max J.hc) ej_int (ej_b2 (cl_min J.hc) (ej_b1 (cl_len j.hK) v0 (by decide +kernel) rfl M.f_len) ej_int (by decide +kernel) rfl M.f_min) (by decide +kernel) rfl M.f_max) rfl M.f_range) (gj_nm J.hN rfl (.inl rfl) (.inl rfl)) (sk (stv J (ek j O.c5 hr0 dfl_nil M.g__law_pool (ac v0 (ac v0 an))))
 (sk (stv J (eix j v0 (ek j O.c6 hr0 dfl_nil M.g__law_take (ac v0 (ac ej_int an)))))
 (sk (stv J (ek j O.c0 hr0 dfl_nil M.g__law_made (ac v0 an)))
 (sk (sj_for J (ij_enum v0 rfl M.f_enumerate) (gj_tp J.hc (gsj_cons (gj_nm J.hN rfl (.inr rfl) (.inl rfl)) (gsj_cons (gj_nm J.hN rfl (.inl rfl) (.inl rfl)) gsj_nil))) (sk (sf (bj_w (wj_or (bc j (op := .ne) rfl (ek j O.c1 hr0 dfl_nil M.g__law_classes (ac v0 an)) (ej_lc J (ij_range1 ej_int rfl M.f_range) (own := [("_law_k", 2)]) (blkOk_by (N := N8) (sc := defScope st8) (by decide +kernel)) (by decide) (fun s1 H1 C1 cl1 fp1 => (gj_nm (jc_blk J s1 H1 _ _ fp1).hN rfl (.inl rfl) (.inr rfl))) (fun s1 H1 C1 cl1 fp1 => cj_nil) (fun s1 H1 C1 cl1 fp1 => (ej_cmp (jc_blk J s1 H1 _ _ fp1).toJc (op := .eq) rfl v0 (ej_v rfl (.inr (.inl rfl))))))) (wj_or1 (bc j (op := .ne) rfl (ek j O.c2 hr0 dfl_nil M.g__law_bases (ac v0 an)) (ek j O.c3 hr0 dfl_nil M.g__law_due_bases (ac (ej_v rfl (.inr (.inl rfl))) an)))))) (sk (sr ej_bl)
 sn) sn)
 sn))
 (sk (sf (bj_w (wj_or (bc j (op := .ne) rfl (ej_b1 (cl_repr j.hK j.hu2 j.gd) (ek j O.c4 hr0 dfl_nil M.g__law_fields (ac v0 an)) (by decide +kernel) rfl M.f_repr) (ej_b1 (cl_repr j.hK j.hu2 j.gd) (ebn j (op := .mul) rfl (ej_lst (ac v0 an)) ej_int) (by decide +kernel) rfl M.f_repr)) (wj_or1 (bc j (op := .ne) rfl (ej_b1 (cl_repr j.hK j.hu2 j.gd) (ek j O.c7 hr0 dfl_nil M.g__law_named (ac v0 an)) (by decide +kernel) rfl M.f_repr) (ej_b1 (cl_repr j.hK j.hu2 j.gd) (ebn j (op := .mul) rfl (ej_lst (ac v0 an)) ej_int) (by decide +kernel) rfl M.f_repr))))) (sk (sr ej_bl)
 sn) sn)
 sn))))))
 (sk (sr ej_bl)
 sn)))
end Lw
end
section
set_option Elab.async false
set_option maxHeartbeats 0
namespace Lw
open PySem PySem.Spec PyProof.Rows L2 Fw
end Lw
end
section
set_option Elab.async false
set_option maxHeartbeats 0
namespace Lw
open PySem PySem.Spec PyProof.Rows L2 Fw
structure Fd (K : PySem.W.Frag) : Prop where
  D0 : ∃ fd, FnD K d0 fd
  D1 : ∃ fd, FnD K d1 fd
  D2 : ∃ fd, FnD K d2 fd
  D3 : ∃ fd, FnD K d3 fd
  D4 : ∃ fd, FnD K d4 fd
  D5 : ∃ fd, FnD K d5 fd
  D6 : ∃ fd, FnD K d6 fd
  D7 : ∃ fd, FnD K d7 fd
  D8 : ∃ fd, FnD K d8 fd
  D918 : ∃ fd, FnD K d918 fd
  D915 : ∃ fd, FnD K d915 fd
  D914 : ∃ fd, FnD K d914 fd
  D913 : ∃ fd, FnD K d913 fd
  D912 : ∃ fd, FnD K d912 fd
  D906 : ∃ fd, FnD K d906 fd
  D905 : ∃ fd, FnD K d905 fd
  D904 : ∃ fd, FnD K d904 fd
  D903 : ∃ fd, FnD K d903 fd
  D902 : ∃ fd, FnD K d902 fd
  D901 : ∃ fd, FnD K d901 fd
  D900 : ∃ fd, FnD K d900 fd
section
variable {P : Program} {w : World} {K : PySem.W.Frag} {mg : Str → Option Value} {base : Heap} {F n : Nat}
theorem bd0 : BdD K d0 ps0 [] := fun D => ⟨[], .nil, FunD.bindsN D fun _ _ _ _ _ _ us hl => match us, hl with | [_], _ => rfl⟩
theorem bd1 : BdD K d1 ps1 [] := fun D => ⟨[], .nil, FunD.bindsN D fun _ _ _ _ _ _ us hl => match us, hl with | [_], _ => rfl⟩
theorem bd2 : BdD K d2 ps2 [] := fun D => ⟨[], .nil, FunD.bindsN D fun _ _ _ _ _ _ us hl => match us, hl with | [_], _ => rfl⟩
theorem bd3 : BdD K d3 ps3 [] := fun D => ⟨[], .nil, FunD.bindsN D fun _ _ _ _ _ _ us hl => match us, hl with | [_], _ => rfl⟩
theorem bd4 : BdD K d4 ps4 [] := fun D => ⟨[], .nil, FunD.bindsN D fun _ _ _ _ _ _ us hl => match us, hl with | [_], _ => rfl⟩
theorem bd5 : BdD K d5 ps5 [] := fun D => ⟨[], .nil, FunD.bindsN D fun _ _ _ _ _ _ us hl => match us, hl with | [_, _], _ => rfl⟩
theorem bd6 : BdD K d6 ps6 [] := fun D => ⟨[], .nil, FunD.bindsN D fun _ _ _ _ _ _ us hl => match us, hl with | [_, _], _ => rfl⟩
theorem bd7 : BdD K d7 ps7 [] := fun D => ⟨[], .nil, FunD.bindsN D fun _ _ _ _ _ _ us hl => match us, hl with | [_], _ => rfl⟩
theorem bd8 : BdD K d8 ps8 [] := fun D => ⟨[], .nil, FunD.bindsN D fun _ _ _ _ _ _ us hl => match us, hl with | [_], _ => rfl⟩
theorem bd918 : BdD K d918 ps918 [] := fun D => ⟨[], .nil, FunD.bindsN D fun _ _ _ _ _ _ us hl => match us, hl with | [_, _], _ => rfl⟩
theorem init918 (D : Fd K) (M : Mg w K mg) : ∃ fd ps, FnOk P w K mg base CX0 1 (He.fAd K d918.at_) fd ps (spI (He.ga K "TooMany") "many") ∧ Binds K fd ps [] := by
  obtain ⟨fd, D⟩ := D.D918
  obtain ⟨ds, v, b⟩ := bd918 D
  cases v
  refine ⟨fd, ps918, FunD.ok (N := N918) D sc918 spI_len ?_, b⟩
  intro cdv A outer s H vs Q E hr hsp
  refine init_finG (C := He.ga K "TooMany") (f := "many") (s1 := (defBody st918)[0]'(by decide +kernel)) (s2 := (defBody st918)[1]'(by decide +kernel)) rfl hsp ?_
    (ps_expr (pe_iniG (x := "OverflowError") M.ox118 base_OverflowError rfl M.f_OverflowError bt_OverflowError M.ft_OverflowError (pa_cons (pe_var (i := 0) rfl (.inl rfl)) (pa_cons pe_str pa_nil)))) (ps_putG M.ox118 base_OverflowError M.nf118 (pe_var (i := 0) rfl (.inl rfl)) (pe_var (i := 1) rfl (.inl rfl)))
  have := spI_len _ _ _ _ hsp
  simp [L2.start, this]
theorem bd915 : BdD K d915 ps915 [] := fun D => ⟨[], .nil, FunD.bindsN D fun _ _ _ _ _ _ us hl => match us, hl with | [_, _], _ => rfl⟩
theorem init915 (D : Fd K) (M : Mg w K mg) : ∃ fd ps, FnOk P w K mg base CX0 1 (He.fAd K d915.at_) fd ps (spI (He.ga K "NoName") "name") ∧ Binds K fd ps [] := by
  obtain ⟨fd, D⟩ := D.D915
  obtain ⟨ds, v, b⟩ := bd915 D
  cases v
  refine ⟨fd, ps915, FunD.ok (N := N915) D sc915 spI_len ?_, b⟩
  intro cdv A outer s H vs Q E hr hsp
  refine init_finG (C := He.ga K "NoName") (f := "name") (s1 := (defBody st915)[0]'(by decide +kernel)) (s2 := (defBody st915)[1]'(by decide +kernel)) rfl hsp ?_
    (ps_expr (pe_iniG (x := "KeyError") M.ox115 base_KeyError rfl M.f_KeyError bt_KeyError M.ft_KeyError (pa_cons (pe_var (i := 0) rfl (.inl rfl)) (pa_cons pe_str pa_nil)))) (ps_putG M.ox115 base_KeyError M.nf115 (pe_var (i := 0) rfl (.inl rfl)) (pe_var (i := 1) rfl (.inl rfl)))
  have := spI_len _ _ _ _ hsp
  simp [L2.start, this]
theorem bd914 : BdD K d914 ps914 [] := fun D => ⟨[], .nil, FunD.bindsN D fun _ _ _ _ _ _ us hl => match us, hl with | [_, _], _ => rfl⟩
theorem init914 (D : Fd K) (M : Mg w K mg) : ∃ fd ps, FnOk P w K mg base CX0 1 (He.fAd K d914.at_) fd ps (spI (He.ga K "NoPage") "number") ∧ Binds K fd ps [] := by
  obtain ⟨fd, D⟩ := D.D914
  obtain ⟨ds, v, b⟩ := bd914 D
  cases v
  refine ⟨fd, ps914, FunD.ok (N := N914) D sc914 spI_len ?_, b⟩
  intro cdv A outer s H vs Q E hr hsp
  refine init_finG (C := He.ga K "NoPage") (f := "number") (s1 := (defBody st914)[0]'(by decide +kernel)) (s2 := (defBody st914)[1]'(by decide +kernel)) rfl hsp ?_
    (ps_expr (pe_iniG (x := "IndexError") M.ox114 base_IndexError rfl M.f_IndexError bt_IndexError M.ft_IndexError (pa_cons (pe_var (i := 0) rfl (.inl rfl)) (pa_cons pe_str pa_nil)))) (ps_putG M.ox114 base_IndexError M.nf114 (pe_var (i := 0) rfl (.inl rfl)) (pe_var (i := 1) rfl (.inl rfl)))
  have := spI_len _ _ _ _ hsp
  simp [L2.start, this]
theorem bd913 : BdD K d913 ps913 [] := fun D => ⟨[], .nil, FunD.bindsN D fun _ _ _ _ _ _ us hl => match us, hl with | [_, _], _ => rfl⟩
theorem init913 (D : Fd K) (M : Mg w K mg) : ∃ fd ps, FnOk P w K mg base CX0 1 (He.fAd K d913.at_) fd ps (spI (He.ga K "NoWriting") "number") ∧ Binds K fd ps [] := by
  obtain ⟨fd, D⟩ := D.D913
  obtain ⟨ds, v, b⟩ := bd913 D
  cases v
  refine ⟨fd, ps913, FunD.ok (N := N913) D sc913 spI_len ?_, b⟩
  intro cdv A outer s H vs Q E hr hsp
  refine init_finG (C := He.ga K "NoWriting") (f := "number") (s1 := (defBody st913)[0]'(by decide +kernel)) (s2 := (defBody st913)[1]'(by decide +kernel)) rfl hsp ?_
    (ps_expr (pe_iniG (x := "IndexError") M.ox113 base_IndexError rfl M.f_IndexError bt_IndexError M.ft_IndexError (pa_cons (pe_var (i := 0) rfl (.inl rfl)) (pa_cons pe_str pa_nil)))) (ps_putG M.ox113 base_IndexError M.nf113 (pe_var (i := 0) rfl (.inl rfl)) (pe_var (i := 1) rfl (.inl rfl)))
  have := spI_len _ _ _ _ hsp
  simp [L2.start, this]
theorem bd912 : BdD K d912 ps912 [] := fun D => ⟨[], .nil, FunD.bindsN D fun _ _ _ _ _ _ us hl => match us, hl with | [_, _], _ => rfl⟩
theorem init912 (D : Fd K) (M : Mg w K mg) : ∃ fd ps, FnOk P w K mg base CX0 1 (He.fAd K d912.at_) fd ps (spI (He.ga K "NoThing") "number") ∧ Binds K fd ps [] := by
  obtain ⟨fd, D⟩ := D.D912
  obtain ⟨ds, v, b⟩ := bd912 D
  cases v
  refine ⟨fd, ps912, FunD.ok (N := N912) D sc912 spI_len ?_, b⟩
  intro cdv A outer s H vs Q E hr hsp
  refine init_finG (C := He.ga K "NoThing") (f := "number") (s1 := (defBody st912)[0]'(by decide +kernel)) (s2 := (defBody st912)[1]'(by decide +kernel)) rfl hsp ?_
    (ps_expr (pe_iniG (x := "LookupError") M.ox112 base_LookupError rfl M.f_LookupError bt_LookupError M.ft_LookupError (pa_cons (pe_var (i := 0) rfl (.inl rfl)) (pa_cons pe_str pa_nil)))) (ps_putG M.ox112 base_LookupError M.nf112 (pe_var (i := 0) rfl (.inl rfl)) (pe_var (i := 1) rfl (.inl rfl)))
  have := spI_len _ _ _ _ hsp
  simp [L2.start, this]
theorem bd906 : BdD K d906 ps906 [] := fun D => ⟨[], .nil, FunD.bindsN D fun _ _ _ _ _ _ us hl => match us, hl with | [_, _], _ => rfl⟩
theorem init906 (D : Fd K) (M : Mg w K mg) : ∃ fd ps, FnOk P w K mg base CX0 1 (He.fAd K d906.at_) fd ps (spI (He.ga K "Ring") "number") ∧ Binds K fd ps [] := by
  obtain ⟨fd, D⟩ := D.D906
  obtain ⟨ds, v, b⟩ := bd906 D
  cases v
  refine ⟨fd, ps906, FunD.ok (N := N906) D sc906 spI_len ?_, b⟩
  intro cdv A outer s H vs Q E hr hsp
  refine init_fin (s1 := (defBody st906)[0]'(by decide +kernel)) (s2 := (defBody st906)[1]'(by decide +kernel)) rfl hsp ?_ M.ox106 M.nf106
    (ps_expr (pe_binit (x := "BookError") rfl M.g_BookError M.rb_BookError M.sb_BookError M.fb_BookError (pa_cons (pe_var (i := 0) rfl (.inl rfl)) (pa_cons pe_str pa_nil)))) (ps_ost (pe_var (i := 0) rfl (.inl rfl)) (pe_var (i := 1) rfl (.inl rfl)))
  have := spI_len _ _ _ _ hsp
  simp [L2.start, this]
theorem bd905 : BdD K d905 ps905 [] := fun D => ⟨[], .nil, FunD.bindsN D fun _ _ _ _ _ _ us hl => match us, hl with | [_, _], _ => rfl⟩
theorem init905 (D : Fd K) (M : Mg w K mg) : ∃ fd ps, FnOk P w K mg base CX0 1 (He.fAd K d905.at_) fd ps (spI (He.ga K "NoPages") "number") ∧ Binds K fd ps [] := by
  obtain ⟨fd, D⟩ := D.D905
  obtain ⟨ds, v, b⟩ := bd905 D
  cases v
  refine ⟨fd, ps905, FunD.ok (N := N905) D sc905 spI_len ?_, b⟩
  intro cdv A outer s H vs Q E hr hsp
  refine init_fin (s1 := (defBody st905)[0]'(by decide +kernel)) (s2 := (defBody st905)[1]'(by decide +kernel)) rfl hsp ?_ M.ox105 M.nf105
    (ps_expr (pe_binit (x := "BookError") rfl M.g_BookError M.rb_BookError M.sb_BookError M.fb_BookError (pa_cons (pe_var (i := 0) rfl (.inl rfl)) (pa_cons pe_str pa_nil)))) (ps_ost (pe_var (i := 0) rfl (.inl rfl)) (pe_var (i := 1) rfl (.inl rfl)))
  have := spI_len _ _ _ _ hsp
  simp [L2.start, this]
theorem bd904 : BdD K d904 ps904 [] := fun D => ⟨[], .nil, FunD.bindsN D fun _ _ _ _ _ _ us hl => match us, hl with | [_, _], _ => rfl⟩
theorem init904 (D : Fd K) (M : Mg w K mg) : ∃ fd ps, FnOk P w K mg base CX0 1 (He.fAd K d904.at_) fd ps (spI (He.ga K "NoDeed") "number") ∧ Binds K fd ps [] := by
  obtain ⟨fd, D⟩ := D.D904
  obtain ⟨ds, v, b⟩ := bd904 D
  cases v
  refine ⟨fd, ps904, FunD.ok (N := N904) D sc904 spI_len ?_, b⟩
  intro cdv A outer s H vs Q E hr hsp
  refine init_fin (s1 := (defBody st904)[0]'(by decide +kernel)) (s2 := (defBody st904)[1]'(by decide +kernel)) rfl hsp ?_ M.ox104 M.nf104
    (ps_expr (pe_binit (x := "BookError") rfl M.g_BookError M.rb_BookError M.sb_BookError M.fb_BookError (pa_cons (pe_var (i := 0) rfl (.inl rfl)) (pa_cons pe_str pa_nil)))) (ps_ost (pe_var (i := 0) rfl (.inl rfl)) (pe_var (i := 1) rfl (.inl rfl)))
  have := spI_len _ _ _ _ hsp
  simp [L2.start, this]
theorem bd903 : BdD K d903 ps903 [] := fun D => ⟨[], .nil, FunD.bindsN D fun _ _ _ _ _ _ us hl => match us, hl with | [_, _], _ => rfl⟩
theorem init903 (D : Fd K) (M : Mg w K mg) : ∃ fd ps, FnOk P w K mg base CX0 1 (He.fAd K d903.at_) fd ps (spI (He.ga K "NoWhole") "place") ∧ Binds K fd ps [] := by
  obtain ⟨fd, D⟩ := D.D903
  obtain ⟨ds, v, b⟩ := bd903 D
  cases v
  refine ⟨fd, ps903, FunD.ok (N := N903) D sc903 spI_len ?_, b⟩
  intro cdv A outer s H vs Q E hr hsp
  refine init_fin (s1 := (defBody st903)[0]'(by decide +kernel)) (s2 := (defBody st903)[1]'(by decide +kernel)) rfl hsp ?_ M.ox103 M.nf103
    (ps_expr (pe_binit (x := "BookError") rfl M.g_BookError M.rb_BookError M.sb_BookError M.fb_BookError (pa_cons (pe_var (i := 0) rfl (.inl rfl)) (pa_cons pe_str pa_nil)))) (ps_ost (pe_var (i := 0) rfl (.inl rfl)) (pe_var (i := 1) rfl (.inl rfl)))
  have := spI_len _ _ _ _ hsp
  simp [L2.start, this]
theorem bd902 : BdD K d902 ps902 [] := fun D => ⟨[], .nil, FunD.bindsN D fun _ _ _ _ _ _ us hl => match us, hl with | [_, _], _ => rfl⟩
theorem init902 (D : Fd K) (M : Mg w K mg) : ∃ fd ps, FnOk P w K mg base CX0 1 (He.fAd K d902.at_) fd ps (spI (He.ga K "NoChain") "place") ∧ Binds K fd ps [] := by
  obtain ⟨fd, D⟩ := D.D902
  obtain ⟨ds, v, b⟩ := bd902 D
  cases v
  refine ⟨fd, ps902, FunD.ok (N := N902) D sc902 spI_len ?_, b⟩
  intro cdv A outer s H vs Q E hr hsp
  refine init_fin (s1 := (defBody st902)[0]'(by decide +kernel)) (s2 := (defBody st902)[1]'(by decide +kernel)) rfl hsp ?_ M.ox102 M.nf102
    (ps_expr (pe_binit (x := "BookError") rfl M.g_BookError M.rb_BookError M.sb_BookError M.fb_BookError (pa_cons (pe_var (i := 0) rfl (.inl rfl)) (pa_cons pe_str pa_nil)))) (ps_ost (pe_var (i := 0) rfl (.inl rfl)) (pe_var (i := 1) rfl (.inl rfl)))
  have := spI_len _ _ _ _ hsp
  simp [L2.start, this]
theorem bd901 : BdD K d901 ps901 [] := fun D => ⟨[], .nil, FunD.bindsN D fun _ _ _ _ _ _ us hl => match us, hl with | [_, _], _ => rfl⟩
theorem init901 (D : Fd K) (M : Mg w K mg) : ∃ fd ps, FnOk P w K mg base CX0 1 (He.fAd K d901.at_) fd ps (spI (He.ga K "NoOld") "place") ∧ Binds K fd ps [] := by
  obtain ⟨fd, D⟩ := D.D901
  obtain ⟨ds, v, b⟩ := bd901 D
  cases v
  refine ⟨fd, ps901, FunD.ok (N := N901) D sc901 spI_len ?_, b⟩
  intro cdv A outer s H vs Q E hr hsp
  refine init_fin (s1 := (defBody st901)[0]'(by decide +kernel)) (s2 := (defBody st901)[1]'(by decide +kernel)) rfl hsp ?_ M.ox101 M.nf101
    (ps_expr (pe_binit (x := "BookError") rfl M.g_BookError M.rb_BookError M.sb_BookError M.fb_BookError (pa_cons (pe_var (i := 0) rfl (.inl rfl)) (pa_cons pe_str pa_nil)))) (ps_ost (pe_var (i := 0) rfl (.inl rfl)) (pe_var (i := 1) rfl (.inl rfl)))
  have := spI_len _ _ _ _ hsp
  simp [L2.start, this]
theorem bd900 : BdD K d900 ps900 [] := fun D => ⟨[], .nil, FunD.bindsN D fun _ _ _ _ _ _ us hl => match us, hl with | [_, _], _ => rfl⟩
theorem init900 (D : Fd K) (M : Mg w K mg) : ∃ fd ps, FnOk P w K mg base CX0 1 (He.fAd K d900.at_) fd ps (spI (He.ga K "NoFile") "place") ∧ Binds K fd ps [] := by
  obtain ⟨fd, D⟩ := D.D900
  obtain ⟨ds, v, b⟩ := bd900 D
  cases v
  refine ⟨fd, ps900, FunD.ok (N := N900) D sc900 spI_len ?_, b⟩
  intro cdv A outer s H vs Q E hr hsp
  refine init_fin (s1 := (defBody st900)[0]'(by decide +kernel)) (s2 := (defBody st900)[1]'(by decide +kernel)) rfl hsp ?_ M.ox100 M.nf100
    (ps_expr (pe_binit (x := "BookError") rfl M.g_BookError M.rb_BookError M.sb_BookError M.fb_BookError (pa_cons (pe_var (i := 0) rfl (.inl rfl)) (pa_cons pe_str pa_nil)))) (ps_ost (pe_var (i := 0) rfl (.inl rfl)) (pe_var (i := 1) rfl (.inl rfl)))
  have := spI_len _ _ _ _ hsp
  simp [L2.start, this]
theorem initk915 (D : Fd K) (M : Mg w K mg) : ∃ fd ps, FnOk P w K mg base CX0 1 (He.fAd K d915.at_) fd ps (spI (He.ga K "NoName") "name") ∧ BkE K fd ps "name" := by
  obtain ⟨fd, D⟩ := D.D915
  refine ⟨fd, ps915, FunD.ok (N := N915) D sc915 spI_len ?_, FunD.bke D fun _ _ _ _ _ _ _ _ => rfl⟩
  intro cdv A outer s H vs Q E hr hsp
  refine init_finG (C := He.ga K "NoName") (f := "name") (s1 := (defBody st915)[0]'(by decide +kernel)) (s2 := (defBody st915)[1]'(by decide +kernel)) rfl hsp ?_
    (ps_expr (pe_iniG (x := "KeyError") M.ox115 base_KeyError rfl M.f_KeyError bt_KeyError M.ft_KeyError (pa_cons (pe_var (i := 0) rfl (.inl rfl)) (pa_cons pe_str pa_nil)))) (ps_putG M.ox115 base_KeyError M.nf115 (pe_var (i := 0) rfl (.inl rfl)) (pe_var (i := 1) rfl (.inl rfl)))
  have := spI_len _ _ _ _ hsp
  simp [L2.start, this]
theorem initk914 (D : Fd K) (M : Mg w K mg) : ∃ fd ps, FnOk P w K mg base CX0 1 (He.fAd K d914.at_) fd ps (spI (He.ga K "NoPage") "number") ∧ BkE K fd ps "number" := by
  obtain ⟨fd, D⟩ := D.D914
  refine ⟨fd, ps914, FunD.ok (N := N914) D sc914 spI_len ?_, FunD.bke D fun _ _ _ _ _ _ _ _ => rfl⟩
  intro cdv A outer s H vs Q E hr hsp
  refine init_finG (C := He.ga K "NoPage") (f := "number") (s1 := (defBody st914)[0]'(by decide +kernel)) (s2 := (defBody st914)[1]'(by decide +kernel)) rfl hsp ?_
    (ps_expr (pe_iniG (x := "IndexError") M.ox114 base_IndexError rfl M.f_IndexError bt_IndexError M.ft_IndexError (pa_cons (pe_var (i := 0) rfl (.inl rfl)) (pa_cons pe_str pa_nil)))) (ps_putG M.ox114 base_IndexError M.nf114 (pe_var (i := 0) rfl (.inl rfl)) (pe_var (i := 1) rfl (.inl rfl)))
  have := spI_len _ _ _ _ hsp
  simp [L2.start, this]
theorem initk904 (D : Fd K) (M : Mg w K mg) : ∃ fd ps, FnOk P w K mg base CX0 1 (He.fAd K d904.at_) fd ps (spI (He.ga K "NoDeed") "number") ∧ BkE K fd ps "number" := by
  obtain ⟨fd, D⟩ := D.D904
  refine ⟨fd, ps904, FunD.ok (N := N904) D sc904 spI_len ?_, FunD.bke D fun _ _ _ _ _ _ _ _ => rfl⟩
  intro cdv A outer s H vs Q E hr hsp
  refine init_fin (s1 := (defBody st904)[0]'(by decide +kernel)) (s2 := (defBody st904)[1]'(by decide +kernel)) rfl hsp ?_ M.ox104 M.nf104
    (ps_expr (pe_binit (x := "BookError") rfl M.g_BookError M.rb_BookError M.sb_BookError M.fb_BookError (pa_cons (pe_var (i := 0) rfl (.inl rfl)) (pa_cons pe_str pa_nil)))) (ps_ost (pe_var (i := 0) rfl (.inl rfl)) (pe_var (i := 1) rfl (.inl rfl)))
  have := spI_len _ _ _ _ hsp
  simp [L2.start, this]
theorem initk900 (D : Fd K) (M : Mg w K mg) : ∃ fd ps, FnOk P w K mg base CX0 1 (He.fAd K d900.at_) fd ps (spI (He.ga K "NoFile") "place") ∧ BkE K fd ps "place" := by
  obtain ⟨fd, D⟩ := D.D900
  refine ⟨fd, ps900, FunD.ok (N := N900) D sc900 spI_len ?_, FunD.bke D fun _ _ _ _ _ _ _ _ => rfl⟩
  intro cdv A outer s H vs Q E hr hsp
  refine init_fin (s1 := (defBody st900)[0]'(by decide +kernel)) (s2 := (defBody st900)[1]'(by decide +kernel)) rfl hsp ?_ M.ox100 M.nf100
    (ps_expr (pe_binit (x := "BookError") rfl M.g_BookError M.rb_BookError M.sb_BookError M.fb_BookError (pa_cons (pe_var (i := 0) rfl (.inl rfl)) (pa_cons pe_str pa_nil)))) (ps_ost (pe_var (i := 0) rfl (.inl rfl)) (pe_var (i := 1) rfl (.inl rfl)))
  have := spI_len _ _ _ _ hsp
  simp [L2.start, this]
theorem initk918 (D : Fd K) (M : Mg w K mg) : ∃ fd ps, FnOk P w K mg base CX0 1 (He.fAd K d918.at_) fd ps (spI (He.ga K "TooMany") "many") ∧ BkE K fd ps "many" := by
  obtain ⟨fd, D⟩ := D.D918
  refine ⟨fd, ps918, FunD.ok (N := N918) D sc918 spI_len ?_, FunD.bke D fun _ _ _ _ _ _ _ _ => rfl⟩
  intro cdv A outer s H vs Q E hr hsp
  refine init_finG (C := He.ga K "TooMany") (f := "many") (s1 := (defBody st918)[0]'(by decide +kernel)) (s2 := (defBody st918)[1]'(by decide +kernel)) rfl hsp ?_
    (ps_expr (pe_iniG (x := "OverflowError") M.ox118 base_OverflowError rfl M.f_OverflowError bt_OverflowError M.ft_OverflowError (pa_cons (pe_var (i := 0) rfl (.inl rfl)) (pa_cons pe_str pa_nil)))) (ps_putG M.ox118 base_OverflowError M.nf118 (pe_var (i := 0) rfl (.inl rfl)) (pe_var (i := 1) rfl (.inl rfl)))
  have := spI_len _ _ _ _ hsp
  simp [L2.start, this]
theorem initk913 (D : Fd K) (M : Mg w K mg) : ∃ fd ps, FnOk P w K mg base CX0 1 (He.fAd K d913.at_) fd ps (spI (He.ga K "NoWriting") "number") ∧ BkE K fd ps "number" := by
  obtain ⟨fd, D⟩ := D.D913
  refine ⟨fd, ps913, FunD.ok (N := N913) D sc913 spI_len ?_, FunD.bke D fun _ _ _ _ _ _ _ _ => rfl⟩
  intro cdv A outer s H vs Q E hr hsp
  refine init_finG (C := He.ga K "NoWriting") (f := "number") (s1 := (defBody st913)[0]'(by decide +kernel)) (s2 := (defBody st913)[1]'(by decide +kernel)) rfl hsp ?_
    (ps_expr (pe_iniG (x := "IndexError") M.ox113 base_IndexError rfl M.f_IndexError bt_IndexError M.ft_IndexError (pa_cons (pe_var (i := 0) rfl (.inl rfl)) (pa_cons pe_str pa_nil)))) (ps_putG M.ox113 base_IndexError M.nf113 (pe_var (i := 0) rfl (.inl rfl)) (pe_var (i := 1) rfl (.inl rfl)))
  have := spI_len _ _ _ _ hsp
  simp [L2.start, this]
theorem initk912 (D : Fd K) (M : Mg w K mg) : ∃ fd ps, FnOk P w K mg base CX0 1 (He.fAd K d912.at_) fd ps (spI (He.ga K "NoThing") "number") ∧ BkE K fd ps "number" := by
  obtain ⟨fd, D⟩ := D.D912
  refine ⟨fd, ps912, FunD.ok (N := N912) D sc912 spI_len ?_, FunD.bke D fun _ _ _ _ _ _ _ _ => rfl⟩
  intro cdv A outer s H vs Q E hr hsp
  refine init_finG (C := He.ga K "NoThing") (f := "number") (s1 := (defBody st912)[0]'(by decide +kernel)) (s2 := (defBody st912)[1]'(by decide +kernel)) rfl hsp ?_
    (ps_expr (pe_iniG (x := "LookupError") M.ox112 base_LookupError rfl M.f_LookupError bt_LookupError M.ft_LookupError (pa_cons (pe_var (i := 0) rfl (.inl rfl)) (pa_cons pe_str pa_nil)))) (ps_putG M.ox112 base_LookupError M.nf112 (pe_var (i := 0) rfl (.inl rfl)) (pe_var (i := 1) rfl (.inl rfl)))
  have := spI_len _ _ _ _ hsp
  simp [L2.start, this]
theorem initk906 (D : Fd K) (M : Mg w K mg) : ∃ fd ps, FnOk P w K mg base CX0 1 (He.fAd K d906.at_) fd ps (spI (He.ga K "Ring") "number") ∧ BkE K fd ps "number" := by
  obtain ⟨fd, D⟩ := D.D906
  refine ⟨fd, ps906, FunD.ok (N := N906) D sc906 spI_len ?_, FunD.bke D fun _ _ _ _ _ _ _ _ => rfl⟩
  intro cdv A outer s H vs Q E hr hsp
  refine init_fin (s1 := (defBody st906)[0]'(by decide +kernel)) (s2 := (defBody st906)[1]'(by decide +kernel)) rfl hsp ?_ M.ox106 M.nf106
    (ps_expr (pe_binit (x := "BookError") rfl M.g_BookError M.rb_BookError M.sb_BookError M.fb_BookError (pa_cons (pe_var (i := 0) rfl (.inl rfl)) (pa_cons pe_str pa_nil)))) (ps_ost (pe_var (i := 0) rfl (.inl rfl)) (pe_var (i := 1) rfl (.inl rfl)))
  have := spI_len _ _ _ _ hsp
  simp [L2.start, this]
theorem initk905 (D : Fd K) (M : Mg w K mg) : ∃ fd ps, FnOk P w K mg base CX0 1 (He.fAd K d905.at_) fd ps (spI (He.ga K "NoPages") "number") ∧ BkE K fd ps "number" := by
  obtain ⟨fd, D⟩ := D.D905
  refine ⟨fd, ps905, FunD.ok (N := N905) D sc905 spI_len ?_, FunD.bke D fun _ _ _ _ _ _ _ _ => rfl⟩
  intro cdv A outer s H vs Q E hr hsp
  refine init_fin (s1 := (defBody st905)[0]'(by decide +kernel)) (s2 := (defBody st905)[1]'(by decide +kernel)) rfl hsp ?_ M.ox105 M.nf105
    (ps_expr (pe_binit (x := "BookError") rfl M.g_BookError M.rb_BookError M.sb_BookError M.fb_BookError (pa_cons (pe_var (i := 0) rfl (.inl rfl)) (pa_cons pe_str pa_nil)))) (ps_ost (pe_var (i := 0) rfl (.inl rfl)) (pe_var (i := 1) rfl (.inl rfl)))
  have := spI_len _ _ _ _ hsp
  simp [L2.start, this]
theorem initk903 (D : Fd K) (M : Mg w K mg) : ∃ fd ps, FnOk P w K mg base CX0 1 (He.fAd K d903.at_) fd ps (spI (He.ga K "NoWhole") "place") ∧ BkE K fd ps "place" := by
  obtain ⟨fd, D⟩ := D.D903
  refine ⟨fd, ps903, FunD.ok (N := N903) D sc903 spI_len ?_, FunD.bke D fun _ _ _ _ _ _ _ _ => rfl⟩
  intro cdv A outer s H vs Q E hr hsp
  refine init_fin (s1 := (defBody st903)[0]'(by decide +kernel)) (s2 := (defBody st903)[1]'(by decide +kernel)) rfl hsp ?_ M.ox103 M.nf103
    (ps_expr (pe_binit (x := "BookError") rfl M.g_BookError M.rb_BookError M.sb_BookError M.fb_BookError (pa_cons (pe_var (i := 0) rfl (.inl rfl)) (pa_cons pe_str pa_nil)))) (ps_ost (pe_var (i := 0) rfl (.inl rfl)) (pe_var (i := 1) rfl (.inl rfl)))
  have := spI_len _ _ _ _ hsp
  simp [L2.start, this]
theorem initk902 (D : Fd K) (M : Mg w K mg) : ∃ fd ps, FnOk P w K mg base CX0 1 (He.fAd K d902.at_) fd ps (spI (He.ga K "NoChain") "place") ∧ BkE K fd ps "place" := by
  obtain ⟨fd, D⟩ := D.D902
  refine ⟨fd, ps902, FunD.ok (N := N902) D sc902 spI_len ?_, FunD.bke D fun _ _ _ _ _ _ _ _ => rfl⟩
  intro cdv A outer s H vs Q E hr hsp
  refine init_fin (s1 := (defBody st902)[0]'(by decide +kernel)) (s2 := (defBody st902)[1]'(by decide +kernel)) rfl hsp ?_ M.ox102 M.nf102
    (ps_expr (pe_binit (x := "BookError") rfl M.g_BookError M.rb_BookError M.sb_BookError M.fb_BookError (pa_cons (pe_var (i := 0) rfl (.inl rfl)) (pa_cons pe_str pa_nil)))) (ps_ost (pe_var (i := 0) rfl (.inl rfl)) (pe_var (i := 1) rfl (.inl rfl)))
  have := spI_len _ _ _ _ hsp
  simp [L2.start, this]
theorem initk901 (D : Fd K) (M : Mg w K mg) : ∃ fd ps, FnOk P w K mg base CX0 1 (He.fAd K d901.at_) fd ps (spI (He.ga K "NoOld") "place") ∧ BkE K fd ps "place" := by
  obtain ⟨fd, D⟩ := D.D901
  refine ⟨fd, ps901, FunD.ok (N := N901) D sc901 spI_len ?_, FunD.bke D fun _ _ _ _ _ _ _ _ => rfl⟩
  intro cdv A outer s H vs Q E hr hsp
  refine init_fin (s1 := (defBody st901)[0]'(by decide +kernel)) (s2 := (defBody st901)[1]'(by decide +kernel)) rfl hsp ?_ M.ox101 M.nf101
    (ps_expr (pe_binit (x := "BookError") rfl M.g_BookError M.rb_BookError M.sb_BookError M.fb_BookError (pa_cons (pe_var (i := 0) rfl (.inl rfl)) (pa_cons pe_str pa_nil)))) (ps_ost (pe_var (i := 0) rfl (.inl rfl)) (pe_var (i := 1) rfl (.inl rfl)))
  have := spI_len _ _ _ _ hsp
  simp [L2.start, this]
theorem ok_zero (D : Fd K) (M : Mg w K mg) : Ok P w K mg base F 0 where
  i918 := init918 D M
  i915 := init915 D M
  i914 := init914 D M
  i913 := init913 D M
  i912 := init912 D M
  i906 := init906 D M
  i905 := init905 D M
  i904 := init904 D M
  i903 := init903 D M
  i902 := init902 D M
  i901 := init901 D M
  i900 := init900 D M
  j915 := initk915 D M
  j914 := initk914 D M
  j904 := initk904 D M
  j900 := initk900 D M
  j918 := initk918 D M
  j913 := initk913 D M
  j912 := initk912 D M
  j906 := initk906 D M
  j905 := initk905 D M
  j903 := initk903 D M
  j902 := initk902 D M
  j901 := initk901 D M
  c0 := co_z D.D0 bd0 rz
  c1 := co_z D.D1 bd1 rz
  c2 := co_z D.D2 bd2 rz
  c3 := co_z D.D3 bd3 rz
  c4 := co_z D.D4 bd4 rz
  c5 := co_z D.D5 bd5 rz
  c6 := co_z D.D6 bd6 rz
  c7 := co_z D.D7 bd7 rz
  c8 := co_z D.D8 bd8 rz
theorem ok_succ (O : Ok P w K mg base F n) (M : Mg w K mg) (D : Fd K) : Ok P w K mg base F (n + 1) where
  i918 := init918 D M
  i915 := init915 D M
  i914 := init914 D M
  i913 := init913 D M
  i912 := init912 D M
  i906 := init906 D M
  i905 := init905 D M
  i904 := init904 D M
  i903 := init903 D M
  i902 := init902 D M
  i901 := init901 D M
  i900 := init900 D M
  j915 := initk915 D M
  j914 := initk914 D M
  j904 := initk904 D M
  j900 := initk900 D M
  j918 := initk918 D M
  j913 := initk913 D M
  j912 := initk912 D M
  j906 := initk906 D M
  j905 := initk905 D M
  j903 := initk903 D M
  j902 := initk902 D M
  j901 := initk901 D M
  c0 := co_own rfl O M D.D0 bd0 sc0 s0 (run__law_made F n)
  c1 := co_own rfl O M D.D1 bd1 sc1 s1 (run__law_classes F n)
  c2 := co_own rfl O M D.D2 bd2 sc2 s2 (run__law_bases F n)
  c3 := co_own rfl O M D.D3 bd3 sc3 s3 (run__law_due_bases F n)
  c4 := co_own rfl O M D.D4 bd4 sc4 s4 (run__law_fields F n)
  c5 := co_full rfl O M D.D5 bd5 sc5 s5 (run__law_pool F n)
  c6 := co_own rfl O M D.D6 bd6 sc6 s6 (run__law_take F n)
  c7 := co_own rfl O M D.D7 bd7 sc7 s7 (run__law_named F n)
  c8 := co_full rfl O M D.D8 bd8 sc8 s8 (run_law F n)
theorem ok_all (M : Mg w K mg) (D : Fd K) : ∀ n, Ok P w K mg base F n
  | 0 => ok_zero D M
  | n + 1 => ok_succ (ok_all M D n) M D
end
end Lw
end
section
set_option autoImplicit true
set_option Elab.async false
set_option maxHeartbeats 0
namespace Lw
open PySem PySem.Spec PyProof.Rows L2 Fw
section
variable {K : PySem.W.Frag} {h : Heap} {mg : Str → Option Value} {w : World}
theorem mg_ok (X : K.In h) (G : h.Ns mainGlobals mg) (t : He.SaysT fas fns tbs w K) (e : exB K = true) : Mg w K mg where
  g_Bare := He.glo_ok X G (t.d.fact 0 rfl)
  g_BookError := He.glo_ok X G (t.d.fact 1 rfl)
  g_NoChain := He.glo_ok X G (t.d.fact 2 rfl)
  g_NoDeed := He.glo_ok X G (t.d.fact 3 rfl)
  g_NoFile := He.glo_ok X G (t.d.fact 4 rfl)
  g_NoName := He.glo_ok X G (t.d.fact 5 rfl)
  g_NoOld := He.glo_ok X G (t.d.fact 6 rfl)
  g_NoPage := He.glo_ok X G (t.d.fact 7 rfl)
  g_NoPages := He.glo_ok X G (t.d.fact 8 rfl)
  g_NoPiece := He.glo_ok X G (t.d.fact 9 rfl)
  g_NoRow := He.glo_ok X G (t.d.fact 10 rfl)
  g_NoSeal := He.glo_ok X G (t.d.fact 11 rfl)
  g_NoThing := He.glo_ok X G (t.d.fact 12 rfl)
  g_NoTo := He.glo_ok X G (t.d.fact 13 rfl)
  g_NoValue := He.glo_ok X G (t.d.fact 14 rfl)
  g_NoWhole := He.glo_ok X G (t.d.fact 15 rfl)
  g_NoWriting := He.glo_ok X G (t.d.fact 16 rfl)
  g_Ring := He.glo_ok X G (t.d.fact 17 rfl)
  g_TooMany := He.glo_ok X G (t.d.fact 18 rfl)
  g_Waiting := He.glo_ok X G (t.d.fact 19 rfl)
  g__law_bases := He.glo_ok X G (t.d.fact 20 rfl)
  g__law_classes := He.glo_ok X G (t.d.fact 21 rfl)
  g__law_due_bases := He.glo_ok X G (t.d.fact 22 rfl)
  g__law_fields := He.glo_ok X G (t.d.fact 23 rfl)
  g__law_made := He.glo_ok X G (t.d.fact 24 rfl)
  g__law_named := He.glo_ok X G (t.d.fact 25 rfl)
  g__law_pool := He.glo_ok X G (t.d.fact 26 rfl)
  g__law_take := He.glo_ok X G (t.d.fact 27 rfl)
  f_IndexError := He.free_ok X G (t.d.fact 29 rfl)
  f_KeyError := He.free_ok X G (t.d.fact 30 rfl)
  f_LookupError := He.free_ok X G (t.d.fact 31 rfl)
  f_OverflowError := He.free_ok X G (t.d.fact 32 rfl)
  f_RuntimeError := He.free_ok X G (t.d.fact 33 rfl)
  f_ValueError := He.free_ok X G (t.d.fact 34 rfl)
  f_enumerate := He.free_ok X G (t.d.fact 35 rfl)
  f_int := He.free_ok X G (t.d.fact 36 rfl)
  f_isinstance := He.free_ok X G (t.d.fact 37 rfl)
  f_len := He.free_ok X G (t.d.fact 38 rfl)
  f_max := He.free_ok X G (t.d.fact 39 rfl)
  f_min := He.free_ok X G (t.d.fact 40 rfl)
  f_range := He.free_ok X G (t.d.fact 41 rfl)
  f_repr := He.free_ok X G (t.d.fact 42 rfl)
  fb_BookError := fcB_ok (and1 (and1 (and1 (and1 (and1 (and1 (and1 (and1 (and1 (and1 (and1 (and1 (and1 (and1 (and1 (and1 (and1 (and1 (and1 (and1 (and1 (and1 (and1 (and1 (and1 (and1 (and1 (and1 (and1 (and1 (and1 (and1 (and1 (and1 (and1 (and1 (and1 (and1 (and1 (and1 (and1 (and1 (and1 (and1 (and1 (and1 (and1 (and1 (and1 (and1 (and1 (and1 (and1 (and1 (and1 (and1 (and1 (and1 (and1 (and1 (and1 (and1 (and1 (and1 (and1 (and1 (and1 (and1 (and1 (and1 (and1 (and1 (and1 (and1 (and1 (and1 (and1 (and1 (and1 (and1 (and1 (and1 (and1 (and1 (and1 (and1 (and1 (and1 (and1 (and1 (and1 (and1 (and1 (and1 (and1 (and1 (and1 (and1 (and1 (and1 (and1 (and1 (and1 (and1 (and1 e)))))))))))))))))))))))))))))))))))))))))))))))))))))))))))))))))))))))))))))))))))))))))))))))))))))))))
  fe_many := (and2 (and1 (and1 (and1 (and1 (and1 (and1 (and1 (and1 (and1 (and1 (and1 (and1 (and1 (and1 (and1 (and1 (and1 (and1 (and1 (and1 (and1 (and1 (and1 (and1 (and1 (and1 (and1 (and1 (and1 (and1 (and1 (and1 (and1 (and1 (and1 (and1 (and1 (and1 (and1 (and1 (and1 (and1 (and1 (and1 (and1 (and1 (and1 (and1 (and1 (and1 (and1 (and1 (and1 (and1 (and1 (and1 (and1 (and1 (and1 (and1 (and1 (and1 (and1 (and1 (and1 (and1 (and1 (and1 (and1 (and1 (and1 (and1 (and1 (and1 (and1 (and1 (and1 (and1 (and1 (and1 (and1 (and1 (and1 (and1 (and1 (and1 (and1 (and1 (and1 (and1 (and1 (and1 (and1 (and1 (and1 (and1 (and1 (and1 (and1 (and1 (and1 (and1 (and1 (and1 e)))))))))))))))))))))))))))))))))))))))))))))))))))))))))))))))))))))))))))))))))))))))))))))))))))))))))
  fe_name := (and2 (and1 (and1 (and1 (and1 (and1 (and1 (and1 (and1 (and1 (and1 (and1 (and1 (and1 (and1 (and1 (and1 (and1 (and1 (and1 (and1 (and1 (and1 (and1 (and1 (and1 (and1 (and1 (and1 (and1 (and1 (and1 (and1 (and1 (and1 (and1 (and1 (and1 (and1 (and1 (and1 (and1 (and1 (and1 (and1 (and1 (and1 (and1 (and1 (and1 (and1 (and1 (and1 (and1 (and1 (and1 (and1 (and1 (and1 (and1 (and1 (and1 (and1 (and1 (and1 (and1 (and1 (and1 (and1 (and1 (and1 (and1 (and1 (and1 (and1 (and1 (and1 (and1 (and1 (and1 (and1 (and1 (and1 (and1 (and1 (and1 (and1 (and1 (and1 (and1 (and1 (and1 (and1 (and1 (and1 (and1 (and1 (and1 (and1 (and1 (and1 (and1 (and1 (and1 e))))))))))))))))))))))))))))))))))))))))))))))))))))))))))))))))))))))))))))))))))))))))))))))))))))))))
  fe_number := (and2 (and1 (and1 (and1 (and1 (and1 (and1 (and1 (and1 (and1 (and1 (and1 (and1 (and1 (and1 (and1 (and1 (and1 (and1 (and1 (and1 (and1 (and1 (and1 (and1 (and1 (and1 (and1 (and1 (and1 (and1 (and1 (and1 (and1 (and1 (and1 (and1 (and1 (and1 (and1 (and1 (and1 (and1 (and1 (and1 (and1 (and1 (and1 (and1 (and1 (and1 (and1 (and1 (and1 (and1 (and1 (and1 (and1 (and1 (and1 (and1 (and1 (and1 (and1 (and1 (and1 (and1 (and1 (and1 (and1 (and1 (and1 (and1 (and1 (and1 (and1 (and1 (and1 (and1 (and1 (and1 (and1 (and1 (and1 (and1 (and1 (and1 (and1 (and1 (and1 (and1 (and1 (and1 (and1 (and1 (and1 (and1 (and1 (and1 (and1 (and1 (and1 (and1 e)))))))))))))))))))))))))))))))))))))))))))))))))))))))))))))))))))))))))))))))))))))))))))))))))))))))
  fe_place := (and2 (and1 (and1 (and1 (and1 (and1 (and1 (and1 (and1 (and1 (and1 (and1 (and1 (and1 (and1 (and1 (and1 (and1 (and1 (and1 (and1 (and1 (and1 (and1 (and1 (and1 (and1 (and1 (and1 (and1 (and1 (and1 (and1 (and1 (and1 (and1 (and1 (and1 (and1 (and1 (and1 (and1 (and1 (and1 (and1 (and1 (and1 (and1 (and1 (and1 (and1 (and1 (and1 (and1 (and1 (and1 (and1 (and1 (and1 (and1 (and1 (and1 (and1 (and1 (and1 (and1 (and1 (and1 (and1 (and1 (and1 (and1 (and1 (and1 (and1 (and1 (and1 (and1 (and1 (and1 (and1 (and1 (and1 (and1 (and1 (and1 (and1 (and1 (and1 (and1 (and1 (and1 (and1 (and1 (and1 (and1 (and1 (and1 (and1 (and1 (and1 (and1 e))))))))))))))))))))))))))))))))))))))))))))))))))))))))))))))))))))))))))))))))))))))))))))))))))))))
  ft_IndexError := fcTB_ok (and2 (and1 (and1 (and1 (and1 (and1 (and1 (and1 (and1 (and1 (and1 (and1 (and1 (and1 (and1 (and1 (and1 (and1 (and1 (and1 (and1 (and1 (and1 (and1 (and1 (and1 (and1 (and1 (and1 (and1 (and1 (and1 (and1 (and1 (and1 (and1 (and1 (and1 (and1 (and1 (and1 (and1 (and1 (and1 (and1 (and1 (and1 (and1 (and1 (and1 (and1 (and1 (and1 (and1 (and1 (and1 (and1 (and1 (and1 (and1 (and1 (and1 (and1 (and1 (and1 (and1 (and1 (and1 (and1 (and1 (and1 (and1 (and1 (and1 (and1 (and1 (and1 (and1 (and1 (and1 (and1 (and1 (and1 (and1 (and1 (and1 (and1 (and1 (and1 (and1 (and1 (and1 (and1 (and1 (and1 (and1 (and1 (and1 (and1 (and1 (and1 e)))))))))))))))))))))))))))))))))))))))))))))))))))))))))))))))))))))))))))))))))))))))))))))))))))))
  ft_KeyError := fcTB_ok (and2 (and1 (and1 (and1 (and1 (and1 (and1 (and1 (and1 (and1 (and1 (and1 (and1 (and1 (and1 (and1 (and1 (and1 (and1 (and1 (and1 (and1 (and1 (and1 (and1 (and1 (and1 (and1 (and1 (and1 (and1 (and1 (and1 (and1 (and1 (and1 (and1 (and1 (and1 (and1 (and1 (and1 (and1 (and1 (and1 (and1 (and1 (and1 (and1 (and1 (and1 (and1 (and1 (and1 (and1 (and1 (and1 (and1 (and1 (and1 (and1 (and1 (and1 (and1 (and1 (and1 (and1 (and1 (and1 (and1 (and1 (and1 (and1 (and1 (and1 (and1 (and1 (and1 (and1 (and1 (and1 (and1 (and1 (and1 (and1 (and1 (and1 (and1 (and1 (and1 (and1 (and1 (and1 (and1 (and1 (and1 (and1 (and1 (and1 (and1 e))))))))))))))))))))))))))))))))))))))))))))))))))))))))))))))))))))))))))))))))))))))))))))))))))))
  ft_LookupError := fcTB_ok (and2 (and1 (and1 (and1 (and1 (and1 (and1 (and1 (and1 (and1 (and1 (and1 (and1 (and1 (and1 (and1 (and1 (and1 (and1 (and1 (and1 (and1 (and1 (and1 (and1 (and1 (and1 (and1 (and1 (and1 (and1 (and1 (and1 (and1 (and1 (and1 (and1 (and1 (and1 (and1 (and1 (and1 (and1 (and1 (and1 (and1 (and1 (and1 (and1 (and1 (and1 (and1 (and1 (and1 (and1 (and1 (and1 (and1 (and1 (and1 (and1 (and1 (and1 (and1 (and1 (and1 (and1 (and1 (and1 (and1 (and1 (and1 (and1 (and1 (and1 (and1 (and1 (and1 (and1 (and1 (and1 (and1 (and1 (and1 (and1 (and1 (and1 (and1 (and1 (and1 (and1 (and1 (and1 (and1 (and1 (and1 (and1 (and1 (and1 e)))))))))))))))))))))))))))))))))))))))))))))))))))))))))))))))))))))))))))))))))))))))))))))))))))
  ft_OverflowError := fcTB_ok (and2 (and1 (and1 (and1 (and1 (and1 (and1 (and1 (and1 (and1 (and1 (and1 (and1 (and1 (and1 (and1 (and1 (and1 (and1 (and1 (and1 (and1 (and1 (and1 (and1 (and1 (and1 (and1 (and1 (and1 (and1 (and1 (and1 (and1 (and1 (and1 (and1 (and1 (and1 (and1 (and1 (and1 (and1 (and1 (and1 (and1 (and1 (and1 (and1 (and1 (and1 (and1 (and1 (and1 (and1 (and1 (and1 (and1 (and1 (and1 (and1 (and1 (and1 (and1 (and1 (and1 (and1 (and1 (and1 (and1 (and1 (and1 (and1 (and1 (and1 (and1 (and1 (and1 (and1 (and1 (and1 (and1 (and1 (and1 (and1 (and1 (and1 (and1 (and1 (and1 (and1 (and1 (and1 (and1 (and1 (and1 (and1 (and1 e))))))))))))))))))))))))))))))))))))))))))))))))))))))))))))))))))))))))))))))))))))))))))))))))))
  ic100 := eq_of_beq (and2 (and1 (and1 (and1 (and1 (and1 (and1 (and1 (and1 (and1 (and1 (and1 (and1 (and1 (and1 (and1 (and1 (and1 (and1 (and1 (and1 (and1 (and1 (and1 (and1 (and1 (and1 (and1 (and1 (and1 (and1 (and1 (and1 (and1 (and1 (and1 (and1 (and1 (and1 (and1 (and1 (and1 (and1 (and1 (and1 (and1 (and1 (and1 (and1 (and1 (and1 (and1 (and1 (and1 (and1 (and1 (and1 (and1 (and1 (and1 (and1 (and1 (and1 (and1 (and1 (and1 (and1 (and1 (and1 (and1 (and1 (and1 (and1 (and1 (and1 (and1 (and1 (and1 (and1 (and1 (and1 (and1 (and1 (and1 (and1 (and1 (and1 (and1 (and1 (and1 (and1 (and1 (and1 (and1 (and1 (and1 (and1 e)))))))))))))))))))))))))))))))))))))))))))))))))))))))))))))))))))))))))))))))))))))))))))))))))
  ic101 := eq_of_beq (and2 (and1 (and1 (and1 (and1 (and1 (and1 (and1 (and1 (and1 (and1 (and1 (and1 (and1 (and1 (and1 (and1 (and1 (and1 (and1 (and1 (and1 (and1 (and1 (and1 (and1 (and1 (and1 (and1 (and1 (and1 (and1 (and1 (and1 (and1 (and1 (and1 (and1 (and1 (and1 (and1 (and1 (and1 (and1 (and1 (and1 (and1 (and1 (and1 (and1 (and1 (and1 (and1 (and1 (and1 (and1 (and1 (and1 (and1 (and1 (and1 (and1 (and1 (and1 (and1 (and1 (and1 (and1 (and1 (and1 (and1 (and1 (and1 (and1 (and1 (and1 (and1 (and1 (and1 (and1 (and1 (and1 (and1 (and1 (and1 (and1 (and1 (and1 (and1 (and1 (and1 (and1 (and1 (and1 (and1 (and1 e))))))))))))))))))))))))))))))))))))))))))))))))))))))))))))))))))))))))))))))))))))))))))))))))
  ic102 := eq_of_beq (and2 (and1 (and1 (and1 (and1 (and1 (and1 (and1 (and1 (and1 (and1 (and1 (and1 (and1 (and1 (and1 (and1 (and1 (and1 (and1 (and1 (and1 (and1 (and1 (and1 (and1 (and1 (and1 (and1 (and1 (and1 (and1 (and1 (and1 (and1 (and1 (and1 (and1 (and1 (and1 (and1 (and1 (and1 (and1 (and1 (and1 (and1 (and1 (and1 (and1 (and1 (and1 (and1 (and1 (and1 (and1 (and1 (and1 (and1 (and1 (and1 (and1 (and1 (and1 (and1 (and1 (and1 (and1 (and1 (and1 (and1 (and1 (and1 (and1 (and1 (and1 (and1 (and1 (and1 (and1 (and1 (and1 (and1 (and1 (and1 (and1 (and1 (and1 (and1 (and1 (and1 (and1 (and1 (and1 (and1 e)))))))))))))))))))))))))))))))))))))))))))))))))))))))))))))))))))))))))))))))))))))))))))))))
  ic103 := eq_of_beq (and2 (and1 (and1 (and1 (and1 (and1 (and1 (and1 (and1 (and1 (and1 (and1 (and1 (and1 (and1 (and1 (and1 (and1 (and1 (and1 (and1 (and1 (and1 (and1 (and1 (and1 (and1 (and1 (and1 (and1 (and1 (and1 (and1 (and1 (and1 (and1 (and1 (and1 (and1 (and1 (and1 (and1 (and1 (and1 (and1 (and1 (and1 (and1 (and1 (and1 (and1 (and1 (and1 (and1 (and1 (and1 (and1 (and1 (and1 (and1 (and1 (and1 (and1 (and1 (and1 (and1 (and1 (and1 (and1 (and1 (and1 (and1 (and1 (and1 (and1 (and1 (and1 (and1 (and1 (and1 (and1 (and1 (and1 (and1 (and1 (and1 (and1 (and1 (and1 (and1 (and1 (and1 (and1 (and1 e))))))))))))))))))))))))))))))))))))))))))))))))))))))))))))))))))))))))))))))))))))))))))))))
  ic104 := eq_of_beq (and2 (and1 (and1 (and1 (and1 (and1 (and1 (and1 (and1 (and1 (and1 (and1 (and1 (and1 (and1 (and1 (and1 (and1 (and1 (and1 (and1 (and1 (and1 (and1 (and1 (and1 (and1 (and1 (and1 (and1 (and1 (and1 (and1 (and1 (and1 (and1 (and1 (and1 (and1 (and1 (and1 (and1 (and1 (and1 (and1 (and1 (and1 (and1 (and1 (and1 (and1 (and1 (and1 (and1 (and1 (and1 (and1 (and1 (and1 (and1 (and1 (and1 (and1 (and1 (and1 (and1 (and1 (and1 (and1 (and1 (and1 (and1 (and1 (and1 (and1 (and1 (and1 (and1 (and1 (and1 (and1 (and1 (and1 (and1 (and1 (and1 (and1 (and1 (and1 (and1 (and1 (and1 (and1 e)))))))))))))))))))))))))))))))))))))))))))))))))))))))))))))))))))))))))))))))))))))))))))))
  ic105 := eq_of_beq (and2 (and1 (and1 (and1 (and1 (and1 (and1 (and1 (and1 (and1 (and1 (and1 (and1 (and1 (and1 (and1 (and1 (and1 (and1 (and1 (and1 (and1 (and1 (and1 (and1 (and1 (and1 (and1 (and1 (and1 (and1 (and1 (and1 (and1 (and1 (and1 (and1 (and1 (and1 (and1 (and1 (and1 (and1 (and1 (and1 (and1 (and1 (and1 (and1 (and1 (and1 (and1 (and1 (and1 (and1 (and1 (and1 (and1 (and1 (and1 (and1 (and1 (and1 (and1 (and1 (and1 (and1 (and1 (and1 (and1 (and1 (and1 (and1 (and1 (and1 (and1 (and1 (and1 (and1 (and1 (and1 (and1 (and1 (and1 (and1 (and1 (and1 (and1 (and1 (and1 (and1 (and1 e))))))))))))))))))))))))))))))))))))))))))))))))))))))))))))))))))))))))))))))))))))))))))))
  ic106 := eq_of_beq (and2 (and1 (and1 (and1 (and1 (and1 (and1 (and1 (and1 (and1 (and1 (and1 (and1 (and1 (and1 (and1 (and1 (and1 (and1 (and1 (and1 (and1 (and1 (and1 (and1 (and1 (and1 (and1 (and1 (and1 (and1 (and1 (and1 (and1 (and1 (and1 (and1 (and1 (and1 (and1 (and1 (and1 (and1 (and1 (and1 (and1 (and1 (and1 (and1 (and1 (and1 (and1 (and1 (and1 (and1 (and1 (and1 (and1 (and1 (and1 (and1 (and1 (and1 (and1 (and1 (and1 (and1 (and1 (and1 (and1 (and1 (and1 (and1 (and1 (and1 (and1 (and1 (and1 (and1 (and1 (and1 (and1 (and1 (and1 (and1 (and1 (and1 (and1 (and1 (and1 (and1 e)))))))))))))))))))))))))))))))))))))))))))))))))))))))))))))))))))))))))))))))))))))))))))
  ic112 := eq_of_beq (and2 (and1 (and1 (and1 (and1 (and1 (and1 (and1 (and1 (and1 (and1 (and1 (and1 (and1 (and1 (and1 (and1 (and1 (and1 (and1 (and1 (and1 (and1 (and1 (and1 (and1 (and1 (and1 (and1 (and1 (and1 (and1 (and1 (and1 (and1 (and1 (and1 (and1 (and1 (and1 (and1 (and1 (and1 (and1 (and1 (and1 (and1 (and1 (and1 (and1 (and1 (and1 (and1 (and1 (and1 (and1 (and1 (and1 (and1 (and1 (and1 (and1 (and1 (and1 (and1 (and1 (and1 (and1 (and1 (and1 (and1 (and1 (and1 (and1 (and1 (and1 (and1 (and1 (and1 (and1 (and1 (and1 (and1 (and1 (and1 (and1 (and1 (and1 (and1 (and1 e))))))))))))))))))))))))))))))))))))))))))))))))))))))))))))))))))))))))))))))))))))))))))
  ic113 := eq_of_beq (and2 (and1 (and1 (and1 (and1 (and1 (and1 (and1 (and1 (and1 (and1 (and1 (and1 (and1 (and1 (and1 (and1 (and1 (and1 (and1 (and1 (and1 (and1 (and1 (and1 (and1 (and1 (and1 (and1 (and1 (and1 (and1 (and1 (and1 (and1 (and1 (and1 (and1 (and1 (and1 (and1 (and1 (and1 (and1 (and1 (and1 (and1 (and1 (and1 (and1 (and1 (and1 (and1 (and1 (and1 (and1 (and1 (and1 (and1 (and1 (and1 (and1 (and1 (and1 (and1 (and1 (and1 (and1 (and1 (and1 (and1 (and1 (and1 (and1 (and1 (and1 (and1 (and1 (and1 (and1 (and1 (and1 (and1 (and1 (and1 (and1 (and1 (and1 (and1 e)))))))))))))))))))))))))))))))))))))))))))))))))))))))))))))))))))))))))))))))))))))))))
  ic114 := eq_of_beq (and2 (and1 (and1 (and1 (and1 (and1 (and1 (and1 (and1 (and1 (and1 (and1 (and1 (and1 (and1 (and1 (and1 (and1 (and1 (and1 (and1 (and1 (and1 (and1 (and1 (and1 (and1 (and1 (and1 (and1 (and1 (and1 (and1 (and1 (and1 (and1 (and1 (and1 (and1 (and1 (and1 (and1 (and1 (and1 (and1 (and1 (and1 (and1 (and1 (and1 (and1 (and1 (and1 (and1 (and1 (and1 (and1 (and1 (and1 (and1 (and1 (and1 (and1 (and1 (and1 (and1 (and1 (and1 (and1 (and1 (and1 (and1 (and1 (and1 (and1 (and1 (and1 (and1 (and1 (and1 (and1 (and1 (and1 (and1 (and1 (and1 (and1 (and1 e))))))))))))))))))))))))))))))))))))))))))))))))))))))))))))))))))))))))))))))))))))))))
  ic115 := eq_of_beq (and2 (and1 (and1 (and1 (and1 (and1 (and1 (and1 (and1 (and1 (and1 (and1 (and1 (and1 (and1 (and1 (and1 (and1 (and1 (and1 (and1 (and1 (and1 (and1 (and1 (and1 (and1 (and1 (and1 (and1 (and1 (and1 (and1 (and1 (and1 (and1 (and1 (and1 (and1 (and1 (and1 (and1 (and1 (and1 (and1 (and1 (and1 (and1 (and1 (and1 (and1 (and1 (and1 (and1 (and1 (and1 (and1 (and1 (and1 (and1 (and1 (and1 (and1 (and1 (and1 (and1 (and1 (and1 (and1 (and1 (and1 (and1 (and1 (and1 (and1 (and1 (and1 (and1 (and1 (and1 (and1 (and1 (and1 (and1 (and1 (and1 (and1 e)))))))))))))))))))))))))))))))))))))))))))))))))))))))))))))))))))))))))))))))))))))))
  ic118 := eq_of_beq (and2 (and1 (and1 (and1 (and1 (and1 (and1 (and1 (and1 (and1 (and1 (and1 (and1 (and1 (and1 (and1 (and1 (and1 (and1 (and1 (and1 (and1 (and1 (and1 (and1 (and1 (and1 (and1 (and1 (and1 (and1 (and1 (and1 (and1 (and1 (and1 (and1 (and1 (and1 (and1 (and1 (and1 (and1 (and1 (and1 (and1 (and1 (and1 (and1 (and1 (and1 (and1 (and1 (and1 (and1 (and1 (and1 (and1 (and1 (and1 (and1 (and1 (and1 (and1 (and1 (and1 (and1 (and1 (and1 (and1 (and1 (and1 (and1 (and1 (and1 (and1 (and1 (and1 (and1 (and1 (and1 (and1 (and1 (and1 (and1 (and1 e))))))))))))))))))))))))))))))))))))))))))))))))))))))))))))))))))))))))))))))))))))))
  ke_Bare := (and2 (and1 (and1 (and1 (and1 (and1 (and1 (and1 (and1 (and1 (and1 (and1 (and1 (and1 (and1 (and1 (and1 (and1 (and1 (and1 (and1 (and1 (and1 (and1 (and1 (and1 (and1 (and1 (and1 (and1 (and1 (and1 (and1 (and1 (and1 (and1 (and1 (and1 (and1 (and1 (and1 (and1 (and1 (and1 (and1 (and1 (and1 (and1 (and1 (and1 (and1 (and1 (and1 (and1 (and1 (and1 (and1 (and1 (and1 (and1 (and1 (and1 (and1 (and1 (and1 (and1 (and1 (and1 (and1 (and1 (and1 (and1 (and1 (and1 (and1 (and1 (and1 (and1 (and1 (and1 (and1 (and1 (and1 (and1 (and1 e)))))))))))))))))))))))))))))))))))))))))))))))))))))))))))))))))))))))))))))))))))))
  ke_BookError := (and2 (and1 (and1 (and1 (and1 (and1 (and1 (and1 (and1 (and1 (and1 (and1 (and1 (and1 (and1 (and1 (and1 (and1 (and1 (and1 (and1 (and1 (and1 (and1 (and1 (and1 (and1 (and1 (and1 (and1 (and1 (and1 (and1 (and1 (and1 (and1 (and1 (and1 (and1 (and1 (and1 (and1 (and1 (and1 (and1 (and1 (and1 (and1 (and1 (and1 (and1 (and1 (and1 (and1 (and1 (and1 (and1 (and1 (and1 (and1 (and1 (and1 (and1 (and1 (and1 (and1 (and1 (and1 (and1 (and1 (and1 (and1 (and1 (and1 (and1 (and1 (and1 (and1 (and1 (and1 (and1 (and1 (and1 (and1 e))))))))))))))))))))))))))))))))))))))))))))))))))))))))))))))))))))))))))))))))))))
  ke_IndexError := (and2 (and1 (and1 (and1 (and1 (and1 (and1 (and1 (and1 (and1 (and1 (and1 (and1 (and1 (and1 (and1 (and1 (and1 (and1 (and1 (and1 (and1 (and1 (and1 (and1 (and1 (and1 (and1 (and1 (and1 (and1 (and1 (and1 (and1 (and1 (and1 (and1 (and1 (and1 (and1 (and1 (and1 (and1 (and1 (and1 (and1 (and1 (and1 (and1 (and1 (and1 (and1 (and1 (and1 (and1 (and1 (and1 (and1 (and1 (and1 (and1 (and1 (and1 (and1 (and1 (and1 (and1 (and1 (and1 (and1 (and1 (and1 (and1 (and1 (and1 (and1 (and1 (and1 (and1 (and1 (and1 (and1 (and1 e)))))))))))))))))))))))))))))))))))))))))))))))))))))))))))))))))))))))))))))))))))
  ke_KeyError := (and2 (and1 (and1 (and1 (and1 (and1 (and1 (and1 (and1 (and1 (and1 (and1 (and1 (and1 (and1 (and1 (and1 (and1 (and1 (and1 (and1 (and1 (and1 (and1 (and1 (and1 (and1 (and1 (and1 (and1 (and1 (and1 (and1 (and1 (and1 (and1 (and1 (and1 (and1 (and1 (and1 (and1 (and1 (and1 (and1 (and1 (and1 (and1 (and1 (and1 (and1 (and1 (and1 (and1 (and1 (and1 (and1 (and1 (and1 (and1 (and1 (and1 (and1 (and1 (and1 (and1 (and1 (and1 (and1 (and1 (and1 (and1 (and1 (and1 (and1 (and1 (and1 (and1 (and1 (and1 (and1 (and1 e))))))))))))))))))))))))))))))))))))))))))))))))))))))))))))))))))))))))))))))))))
  ke_LookupError := (and2 (and1 (and1 (and1 (and1 (and1 (and1 (and1 (and1 (and1 (and1 (and1 (and1 (and1 (and1 (and1 (and1 (and1 (and1 (and1 (and1 (and1 (and1 (and1 (and1 (and1 (and1 (and1 (and1 (and1 (and1 (and1 (and1 (and1 (and1 (and1 (and1 (and1 (and1 (and1 (and1 (and1 (and1 (and1 (and1 (and1 (and1 (and1 (and1 (and1 (and1 (and1 (and1 (and1 (and1 (and1 (and1 (and1 (and1 (and1 (and1 (and1 (and1 (and1 (and1 (and1 (and1 (and1 (and1 (and1 (and1 (and1 (and1 (and1 (and1 (and1 (and1 (and1 (and1 (and1 (and1 e)))))))))))))))))))))))))))))))))))))))))))))))))))))))))))))))))))))))))))))))))
  ke_NoChain := (and2 (and1 (and1 (and1 (and1 (and1 (and1 (and1 (and1 (and1 (and1 (and1 (and1 (and1 (and1 (and1 (and1 (and1 (and1 (and1 (and1 (and1 (and1 (and1 (and1 (and1 (and1 (and1 (and1 (and1 (and1 (and1 (and1 (and1 (and1 (and1 (and1 (and1 (and1 (and1 (and1 (and1 (and1 (and1 (and1 (and1 (and1 (and1 (and1 (and1 (and1 (and1 (and1 (and1 (and1 (and1 (and1 (and1 (and1 (and1 (and1 (and1 (and1 (and1 (and1 (and1 (and1 (and1 (and1 (and1 (and1 (and1 (and1 (and1 (and1 (and1 (and1 (and1 (and1 (and1 e))))))))))))))))))))))))))))))))))))))))))))))))))))))))))))))))))))))))))))))))
  ke_NoDeed := (and2 (and1 (and1 (and1 (and1 (and1 (and1 (and1 (and1 (and1 (and1 (and1 (and1 (and1 (and1 (and1 (and1 (and1 (and1 (and1 (and1 (and1 (and1 (and1 (and1 (and1 (and1 (and1 (and1 (and1 (and1 (and1 (and1 (and1 (and1 (and1 (and1 (and1 (and1 (and1 (and1 (and1 (and1 (and1 (and1 (and1 (and1 (and1 (and1 (and1 (and1 (and1 (and1 (and1 (and1 (and1 (and1 (and1 (and1 (and1 (and1 (and1 (and1 (and1 (and1 (and1 (and1 (and1 (and1 (and1 (and1 (and1 (and1 (and1 (and1 (and1 (and1 (and1 (and1 e)))))))))))))))))))))))))))))))))))))))))))))))))))))))))))))))))))))))))))))))
  ke_NoFile := (and2 (and1 (and1 (and1 (and1 (and1 (and1 (and1 (and1 (and1 (and1 (and1 (and1 (and1 (and1 (and1 (and1 (and1 (and1 (and1 (and1 (and1 (and1 (and1 (and1 (and1 (and1 (and1 (and1 (and1 (and1 (and1 (and1 (and1 (and1 (and1 (and1 (and1 (and1 (and1 (and1 (and1 (and1 (and1 (and1 (and1 (and1 (and1 (and1 (and1 (and1 (and1 (and1 (and1 (and1 (and1 (and1 (and1 (and1 (and1 (and1 (and1 (and1 (and1 (and1 (and1 (and1 (and1 (and1 (and1 (and1 (and1 (and1 (and1 (and1 (and1 (and1 (and1 e))))))))))))))))))))))))))))))))))))))))))))))))))))))))))))))))))))))))))))))
  ke_NoName := (and2 (and1 (and1 (and1 (and1 (and1 (and1 (and1 (and1 (and1 (and1 (and1 (and1 (and1 (and1 (and1 (and1 (and1 (and1 (and1 (and1 (and1 (and1 (and1 (and1 (and1 (and1 (and1 (and1 (and1 (and1 (and1 (and1 (and1 (and1 (and1 (and1 (and1 (and1 (and1 (and1 (and1 (and1 (and1 (and1 (and1 (and1 (and1 (and1 (and1 (and1 (and1 (and1 (and1 (and1 (and1 (and1 (and1 (and1 (and1 (and1 (and1 (and1 (and1 (and1 (and1 (and1 (and1 (and1 (and1 (and1 (and1 (and1 (and1 (and1 (and1 (and1 e)))))))))))))))))))))))))))))))))))))))))))))))))))))))))))))))))))))))))))))
  ke_NoOld := (and2 (and1 (and1 (and1 (and1 (and1 (and1 (and1 (and1 (and1 (and1 (and1 (and1 (and1 (and1 (and1 (and1 (and1 (and1 (and1 (and1 (and1 (and1 (and1 (and1 (and1 (and1 (and1 (and1 (and1 (and1 (and1 (and1 (and1 (and1 (and1 (and1 (and1 (and1 (and1 (and1 (and1 (and1 (and1 (and1 (and1 (and1 (and1 (and1 (and1 (and1 (and1 (and1 (and1 (and1 (and1 (and1 (and1 (and1 (and1 (and1 (and1 (and1 (and1 (and1 (and1 (and1 (and1 (and1 (and1 (and1 (and1 (and1 (and1 (and1 (and1 e))))))))))))))))))))))))))))))))))))))))))))))))))))))))))))))))))))))))))))
  ke_NoPage := (and2 (and1 (and1 (and1 (and1 (and1 (and1 (and1 (and1 (and1 (and1 (and1 (and1 (and1 (and1 (and1 (and1 (and1 (and1 (and1 (and1 (and1 (and1 (and1 (and1 (and1 (and1 (and1 (and1 (and1 (and1 (and1 (and1 (and1 (and1 (and1 (and1 (and1 (and1 (and1 (and1 (and1 (and1 (and1 (and1 (and1 (and1 (and1 (and1 (and1 (and1 (and1 (and1 (and1 (and1 (and1 (and1 (and1 (and1 (and1 (and1 (and1 (and1 (and1 (and1 (and1 (and1 (and1 (and1 (and1 (and1 (and1 (and1 (and1 (and1 e)))))))))))))))))))))))))))))))))))))))))))))))))))))))))))))))))))))))))))
  ke_NoPages := (and2 (and1 (and1 (and1 (and1 (and1 (and1 (and1 (and1 (and1 (and1 (and1 (and1 (and1 (and1 (and1 (and1 (and1 (and1 (and1 (and1 (and1 (and1 (and1 (and1 (and1 (and1 (and1 (and1 (and1 (and1 (and1 (and1 (and1 (and1 (and1 (and1 (and1 (and1 (and1 (and1 (and1 (and1 (and1 (and1 (and1 (and1 (and1 (and1 (and1 (and1 (and1 (and1 (and1 (and1 (and1 (and1 (and1 (and1 (and1 (and1 (and1 (and1 (and1 (and1 (and1 (and1 (and1 (and1 (and1 (and1 (and1 (and1 (and1 e))))))))))))))))))))))))))))))))))))))))))))))))))))))))))))))))))))))))))
  ke_NoPiece := (and2 (and1 (and1 (and1 (and1 (and1 (and1 (and1 (and1 (and1 (and1 (and1 (and1 (and1 (and1 (and1 (and1 (and1 (and1 (and1 (and1 (and1 (and1 (and1 (and1 (and1 (and1 (and1 (and1 (and1 (and1 (and1 (and1 (and1 (and1 (and1 (and1 (and1 (and1 (and1 (and1 (and1 (and1 (and1 (and1 (and1 (and1 (and1 (and1 (and1 (and1 (and1 (and1 (and1 (and1 (and1 (and1 (and1 (and1 (and1 (and1 (and1 (and1 (and1 (and1 (and1 (and1 (and1 (and1 (and1 (and1 (and1 (and1 e)))))))))))))))))))))))))))))))))))))))))))))))))))))))))))))))))))))))))
  ke_NoRow := (and2 (and1 (and1 (and1 (and1 (and1 (and1 (and1 (and1 (and1 (and1 (and1 (and1 (and1 (and1 (and1 (and1 (and1 (and1 (and1 (and1 (and1 (and1 (and1 (and1 (and1 (and1 (and1 (and1 (and1 (and1 (and1 (and1 (and1 (and1 (and1 (and1 (and1 (and1 (and1 (and1 (and1 (and1 (and1 (and1 (and1 (and1 (and1 (and1 (and1 (and1 (and1 (and1 (and1 (and1 (and1 (and1 (and1 (and1 (and1 (and1 (and1 (and1 (and1 (and1 (and1 (and1 (and1 (and1 (and1 (and1 (and1 e))))))))))))))))))))))))))))))))))))))))))))))))))))))))))))))))))))))))
  ke_NoSeal := (and2 (and1 (and1 (and1 (and1 (and1 (and1 (and1 (and1 (and1 (and1 (and1 (and1 (and1 (and1 (and1 (and1 (and1 (and1 (and1 (and1 (and1 (and1 (and1 (and1 (and1 (and1 (and1 (and1 (and1 (and1 (and1 (and1 (and1 (and1 (and1 (and1 (and1 (and1 (and1 (and1 (and1 (and1 (and1 (and1 (and1 (and1 (and1 (and1 (and1 (and1 (and1 (and1 (and1 (and1 (and1 (and1 (and1 (and1 (and1 (and1 (and1 (and1 (and1 (and1 (and1 (and1 (and1 (and1 (and1 (and1 e)))))))))))))))))))))))))))))))))))))))))))))))))))))))))))))))))))))))
  ke_NoThing := (and2 (and1 (and1 (and1 (and1 (and1 (and1 (and1 (and1 (and1 (and1 (and1 (and1 (and1 (and1 (and1 (and1 (and1 (and1 (and1 (and1 (and1 (and1 (and1 (and1 (and1 (and1 (and1 (and1 (and1 (and1 (and1 (and1 (and1 (and1 (and1 (and1 (and1 (and1 (and1 (and1 (and1 (and1 (and1 (and1 (and1 (and1 (and1 (and1 (and1 (and1 (and1 (and1 (and1 (and1 (and1 (and1 (and1 (and1 (and1 (and1 (and1 (and1 (and1 (and1 (and1 (and1 (and1 (and1 (and1 e))))))))))))))))))))))))))))))))))))))))))))))))))))))))))))))))))))))
  ke_NoTo := (and2 (and1 (and1 (and1 (and1 (and1 (and1 (and1 (and1 (and1 (and1 (and1 (and1 (and1 (and1 (and1 (and1 (and1 (and1 (and1 (and1 (and1 (and1 (and1 (and1 (and1 (and1 (and1 (and1 (and1 (and1 (and1 (and1 (and1 (and1 (and1 (and1 (and1 (and1 (and1 (and1 (and1 (and1 (and1 (and1 (and1 (and1 (and1 (and1 (and1 (and1 (and1 (and1 (and1 (and1 (and1 (and1 (and1 (and1 (and1 (and1 (and1 (and1 (and1 (and1 (and1 (and1 (and1 (and1 e)))))))))))))))))))))))))))))))))))))))))))))))))))))))))))))))))))))
  ke_NoValue := (and2 (and1 (and1 (and1 (and1 (and1 (and1 (and1 (and1 (and1 (and1 (and1 (and1 (and1 (and1 (and1 (and1 (and1 (and1 (and1 (and1 (and1 (and1 (and1 (and1 (and1 (and1 (and1 (and1 (and1 (and1 (and1 (and1 (and1 (and1 (and1 (and1 (and1 (and1 (and1 (and1 (and1 (and1 (and1 (and1 (and1 (and1 (and1 (and1 (and1 (and1 (and1 (and1 (and1 (and1 (and1 (and1 (and1 (and1 (and1 (and1 (and1 (and1 (and1 (and1 (and1 (and1 (and1 e))))))))))))))))))))))))))))))))))))))))))))))))))))))))))))))))))))
  ke_NoWhole := (and2 (and1 (and1 (and1 (and1 (and1 (and1 (and1 (and1 (and1 (and1 (and1 (and1 (and1 (and1 (and1 (and1 (and1 (and1 (and1 (and1 (and1 (and1 (and1 (and1 (and1 (and1 (and1 (and1 (and1 (and1 (and1 (and1 (and1 (and1 (and1 (and1 (and1 (and1 (and1 (and1 (and1 (and1 (and1 (and1 (and1 (and1 (and1 (and1 (and1 (and1 (and1 (and1 (and1 (and1 (and1 (and1 (and1 (and1 (and1 (and1 (and1 (and1 (and1 (and1 (and1 (and1 e)))))))))))))))))))))))))))))))))))))))))))))))))))))))))))))))))))
  ke_NoWriting := (and2 (and1 (and1 (and1 (and1 (and1 (and1 (and1 (and1 (and1 (and1 (and1 (and1 (and1 (and1 (and1 (and1 (and1 (and1 (and1 (and1 (and1 (and1 (and1 (and1 (and1 (and1 (and1 (and1 (and1 (and1 (and1 (and1 (and1 (and1 (and1 (and1 (and1 (and1 (and1 (and1 (and1 (and1 (and1 (and1 (and1 (and1 (and1 (and1 (and1 (and1 (and1 (and1 (and1 (and1 (and1 (and1 (and1 (and1 (and1 (and1 (and1 (and1 (and1 (and1 (and1 e))))))))))))))))))))))))))))))))))))))))))))))))))))))))))))))))))
  ke_OverflowError := (and2 (and1 (and1 (and1 (and1 (and1 (and1 (and1 (and1 (and1 (and1 (and1 (and1 (and1 (and1 (and1 (and1 (and1 (and1 (and1 (and1 (and1 (and1 (and1 (and1 (and1 (and1 (and1 (and1 (and1 (and1 (and1 (and1 (and1 (and1 (and1 (and1 (and1 (and1 (and1 (and1 (and1 (and1 (and1 (and1 (and1 (and1 (and1 (and1 (and1 (and1 (and1 (and1 (and1 (and1 (and1 (and1 (and1 (and1 (and1 (and1 (and1 (and1 (and1 (and1 e)))))))))))))))))))))))))))))))))))))))))))))))))))))))))))))))))
  ke_Ring := (and2 (and1 (and1 (and1 (and1 (and1 (and1 (and1 (and1 (and1 (and1 (and1 (and1 (and1 (and1 (and1 (and1 (and1 (and1 (and1 (and1 (and1 (and1 (and1 (and1 (and1 (and1 (and1 (and1 (and1 (and1 (and1 (and1 (and1 (and1 (and1 (and1 (and1 (and1 (and1 (and1 (and1 (and1 (and1 (and1 (and1 (and1 (and1 (and1 (and1 (and1 (and1 (and1 (and1 (and1 (and1 (and1 (and1 (and1 (and1 (and1 (and1 (and1 (and1 e))))))))))))))))))))))))))))))))))))))))))))))))))))))))))))))))
  ke_RuntimeError := (and2 (and1 (and1 (and1 (and1 (and1 (and1 (and1 (and1 (and1 (and1 (and1 (and1 (and1 (and1 (and1 (and1 (and1 (and1 (and1 (and1 (and1 (and1 (and1 (and1 (and1 (and1 (and1 (and1 (and1 (and1 (and1 (and1 (and1 (and1 (and1 (and1 (and1 (and1 (and1 (and1 (and1 (and1 (and1 (and1 (and1 (and1 (and1 (and1 (and1 (and1 (and1 (and1 (and1 (and1 (and1 (and1 (and1 (and1 (and1 (and1 (and1 (and1 e)))))))))))))))))))))))))))))))))))))))))))))))))))))))))))))))
  ke_TooMany := (and2 (and1 (and1 (and1 (and1 (and1 (and1 (and1 (and1 (and1 (and1 (and1 (and1 (and1 (and1 (and1 (and1 (and1 (and1 (and1 (and1 (and1 (and1 (and1 (and1 (and1 (and1 (and1 (and1 (and1 (and1 (and1 (and1 (and1 (and1 (and1 (and1 (and1 (and1 (and1 (and1 (and1 (and1 (and1 (and1 (and1 (and1 (and1 (and1 (and1 (and1 (and1 (and1 (and1 (and1 (and1 (and1 (and1 (and1 (and1 (and1 (and1 e))))))))))))))))))))))))))))))))))))))))))))))))))))))))))))))
  ke_ValueError := (and2 (and1 (and1 (and1 (and1 (and1 (and1 (and1 (and1 (and1 (and1 (and1 (and1 (and1 (and1 (and1 (and1 (and1 (and1 (and1 (and1 (and1 (and1 (and1 (and1 (and1 (and1 (and1 (and1 (and1 (and1 (and1 (and1 (and1 (and1 (and1 (and1 (and1 (and1 (and1 (and1 (and1 (and1 (and1 (and1 (and1 (and1 (and1 (and1 (and1 (and1 (and1 (and1 (and1 (and1 (and1 (and1 (and1 (and1 (and1 (and1 e)))))))))))))))))))))))))))))))))))))))))))))))))))))))))))))
  ke_Waiting := (and2 (and1 (and1 (and1 (and1 (and1 (and1 (and1 (and1 (and1 (and1 (and1 (and1 (and1 (and1 (and1 (and1 (and1 (and1 (and1 (and1 (and1 (and1 (and1 (and1 (and1 (and1 (and1 (and1 (and1 (and1 (and1 (and1 (and1 (and1 (and1 (and1 (and1 (and1 (and1 (and1 (and1 (and1 (and1 (and1 (and1 (and1 (and1 (and1 (and1 (and1 (and1 (and1 (and1 (and1 (and1 (and1 (and1 (and1 (and1 e))))))))))))))))))))))))))))))))))))))))))))))))))))))))))))
  kx := (and2 (and1 (and1 (and1 (and1 (and1 (and1 (and1 (and1 (and1 (and1 (and1 (and1 (and1 (and1 (and1 (and1 (and1 (and1 (and1 (and1 (and1 (and1 (and1 (and1 (and1 (and1 (and1 (and1 (and1 (and1 (and1 (and1 (and1 (and1 (and1 (and1 (and1 (and1 (and1 (and1 (and1 (and1 (and1 (and1 (and1 (and1 (and1 (and1 (and1 (and1 (and1 (and1 (and1 (and1 (and1 (and1 (and1 (and1 e)))))))))))))))))))))))))))))))))))))))))))))))))))))))))))
  nf100 := eq_of_beq (and2 (and1 (and1 (and1 (and1 (and1 (and1 (and1 (and1 (and1 (and1 (and1 (and1 (and1 (and1 (and1 (and1 (and1 (and1 (and1 (and1 (and1 (and1 (and1 (and1 (and1 (and1 (and1 (and1 (and1 (and1 (and1 (and1 (and1 (and1 (and1 (and1 (and1 (and1 (and1 (and1 (and1 (and1 (and1 (and1 (and1 (and1 (and1 (and1 (and1 (and1 (and1 (and1 (and1 (and1 (and1 (and1 (and1 e))))))))))))))))))))))))))))))))))))))))))))))))))))))))))
  nf101 := eq_of_beq (and2 (and1 (and1 (and1 (and1 (and1 (and1 (and1 (and1 (and1 (and1 (and1 (and1 (and1 (and1 (and1 (and1 (and1 (and1 (and1 (and1 (and1 (and1 (and1 (and1 (and1 (and1 (and1 (and1 (and1 (and1 (and1 (and1 (and1 (and1 (and1 (and1 (and1 (and1 (and1 (and1 (and1 (and1 (and1 (and1 (and1 (and1 (and1 (and1 (and1 (and1 (and1 (and1 (and1 (and1 (and1 (and1 e)))))))))))))))))))))))))))))))))))))))))))))))))))))))))
  nf102 := eq_of_beq (and2 (and1 (and1 (and1 (and1 (and1 (and1 (and1 (and1 (and1 (and1 (and1 (and1 (and1 (and1 (and1 (and1 (and1 (and1 (and1 (and1 (and1 (and1 (and1 (and1 (and1 (and1 (and1 (and1 (and1 (and1 (and1 (and1 (and1 (and1 (and1 (and1 (and1 (and1 (and1 (and1 (and1 (and1 (and1 (and1 (and1 (and1 (and1 (and1 (and1 (and1 (and1 (and1 (and1 (and1 (and1 e))))))))))))))))))))))))))))))))))))))))))))))))))))))))
  nf103 := eq_of_beq (and2 (and1 (and1 (and1 (and1 (and1 (and1 (and1 (and1 (and1 (and1 (and1 (and1 (and1 (and1 (and1 (and1 (and1 (and1 (and1 (and1 (and1 (and1 (and1 (and1 (and1 (and1 (and1 (and1 (and1 (and1 (and1 (and1 (and1 (and1 (and1 (and1 (and1 (and1 (and1 (and1 (and1 (and1 (and1 (and1 (and1 (and1 (and1 (and1 (and1 (and1 (and1 (and1 (and1 (and1 e)))))))))))))))))))))))))))))))))))))))))))))))))))))))
  nf104 := eq_of_beq (and2 (and1 (and1 (and1 (and1 (and1 (and1 (and1 (and1 (and1 (and1 (and1 (and1 (and1 (and1 (and1 (and1 (and1 (and1 (and1 (and1 (and1 (and1 (and1 (and1 (and1 (and1 (and1 (and1 (and1 (and1 (and1 (and1 (and1 (and1 (and1 (and1 (and1 (and1 (and1 (and1 (and1 (and1 (and1 (and1 (and1 (and1 (and1 (and1 (and1 (and1 (and1 (and1 (and1 e))))))))))))))))))))))))))))))))))))))))))))))))))))))
  nf105 := eq_of_beq (and2 (and1 (and1 (and1 (and1 (and1 (and1 (and1 (and1 (and1 (and1 (and1 (and1 (and1 (and1 (and1 (and1 (and1 (and1 (and1 (and1 (and1 (and1 (and1 (and1 (and1 (and1 (and1 (and1 (and1 (and1 (and1 (and1 (and1 (and1 (and1 (and1 (and1 (and1 (and1 (and1 (and1 (and1 (and1 (and1 (and1 (and1 (and1 (and1 (and1 (and1 (and1 (and1 e)))))))))))))))))))))))))))))))))))))))))))))))))))))
  nf106 := eq_of_beq (and2 (and1 (and1 (and1 (and1 (and1 (and1 (and1 (and1 (and1 (and1 (and1 (and1 (and1 (and1 (and1 (and1 (and1 (and1 (and1 (and1 (and1 (and1 (and1 (and1 (and1 (and1 (and1 (and1 (and1 (and1 (and1 (and1 (and1 (and1 (and1 (and1 (and1 (and1 (and1 (and1 (and1 (and1 (and1 (and1 (and1 (and1 (and1 (and1 (and1 (and1 (and1 e))))))))))))))))))))))))))))))))))))))))))))))))))))
  nf112 := eq_of_beq (and2 (and1 (and1 (and1 (and1 (and1 (and1 (and1 (and1 (and1 (and1 (and1 (and1 (and1 (and1 (and1 (and1 (and1 (and1 (and1 (and1 (and1 (and1 (and1 (and1 (and1 (and1 (and1 (and1 (and1 (and1 (and1 (and1 (and1 (and1 (and1 (and1 (and1 (and1 (and1 (and1 (and1 (and1 (and1 (and1 (and1 (and1 (and1 (and1 (and1 (and1 e)))))))))))))))))))))))))))))))))))))))))))))))))))
  nf113 := eq_of_beq (and2 (and1 (and1 (and1 (and1 (and1 (and1 (and1 (and1 (and1 (and1 (and1 (and1 (and1 (and1 (and1 (and1 (and1 (and1 (and1 (and1 (and1 (and1 (and1 (and1 (and1 (and1 (and1 (and1 (and1 (and1 (and1 (and1 (and1 (and1 (and1 (and1 (and1 (and1 (and1 (and1 (and1 (and1 (and1 (and1 (and1 (and1 (and1 (and1 (and1 e))))))))))))))))))))))))))))))))))))))))))))))))))
  nf114 := eq_of_beq (and2 (and1 (and1 (and1 (and1 (and1 (and1 (and1 (and1 (and1 (and1 (and1 (and1 (and1 (and1 (and1 (and1 (and1 (and1 (and1 (and1 (and1 (and1 (and1 (and1 (and1 (and1 (and1 (and1 (and1 (and1 (and1 (and1 (and1 (and1 (and1 (and1 (and1 (and1 (and1 (and1 (and1 (and1 (and1 (and1 (and1 (and1 (and1 (and1 e)))))))))))))))))))))))))))))))))))))))))))))))))
  nf115 := eq_of_beq (and2 (and1 (and1 (and1 (and1 (and1 (and1 (and1 (and1 (and1 (and1 (and1 (and1 (and1 (and1 (and1 (and1 (and1 (and1 (and1 (and1 (and1 (and1 (and1 (and1 (and1 (and1 (and1 (and1 (and1 (and1 (and1 (and1 (and1 (and1 (and1 (and1 (and1 (and1 (and1 (and1 (and1 (and1 (and1 (and1 (and1 (and1 (and1 e))))))))))))))))))))))))))))))))))))))))))))))))
  nf118 := eq_of_beq (and2 (and1 (and1 (and1 (and1 (and1 (and1 (and1 (and1 (and1 (and1 (and1 (and1 (and1 (and1 (and1 (and1 (and1 (and1 (and1 (and1 (and1 (and1 (and1 (and1 (and1 (and1 (and1 (and1 (and1 (and1 (and1 (and1 (and1 (and1 (and1 (and1 (and1 (and1 (and1 (and1 (and1 (and1 (and1 (and1 (and1 (and1 e)))))))))))))))))))))))))))))))))))))))))))))))
  og100 := oexGB_ok (and2 (and1 (and1 (and1 (and1 (and1 (and1 (and1 (and1 (and1 (and1 (and1 (and1 (and1 (and1 (and1 (and1 (and1 (and1 (and1 (and1 (and1 (and1 (and1 (and1 (and1 (and1 (and1 (and1 (and1 (and1 (and1 (and1 (and1 (and1 (and1 (and1 (and1 (and1 (and1 (and1 (and1 (and1 (and1 (and1 (and1 e))))))))))))))))))))))))))))))))))))))))))))))
  og101 := oexGB_ok (and2 (and1 (and1 (and1 (and1 (and1 (and1 (and1 (and1 (and1 (and1 (and1 (and1 (and1 (and1 (and1 (and1 (and1 (and1 (and1 (and1 (and1 (and1 (and1 (and1 (and1 (and1 (and1 (and1 (and1 (and1 (and1 (and1 (and1 (and1 (and1 (and1 (and1 (and1 (and1 (and1 (and1 (and1 (and1 (and1 e)))))))))))))))))))))))))))))))))))))))))))))
  og102 := oexGB_ok (and2 (and1 (and1 (and1 (and1 (and1 (and1 (and1 (and1 (and1 (and1 (and1 (and1 (and1 (and1 (and1 (and1 (and1 (and1 (and1 (and1 (and1 (and1 (and1 (and1 (and1 (and1 (and1 (and1 (and1 (and1 (and1 (and1 (and1 (and1 (and1 (and1 (and1 (and1 (and1 (and1 (and1 (and1 (and1 e))))))))))))))))))))))))))))))))))))))))))))
  og103 := oexGB_ok (and2 (and1 (and1 (and1 (and1 (and1 (and1 (and1 (and1 (and1 (and1 (and1 (and1 (and1 (and1 (and1 (and1 (and1 (and1 (and1 (and1 (and1 (and1 (and1 (and1 (and1 (and1 (and1 (and1 (and1 (and1 (and1 (and1 (and1 (and1 (and1 (and1 (and1 (and1 (and1 (and1 (and1 (and1 e)))))))))))))))))))))))))))))))))))))))))))
  og104 := oexGB_ok (and2 (and1 (and1 (and1 (and1 (and1 (and1 (and1 (and1 (and1 (and1 (and1 (and1 (and1 (and1 (and1 (and1 (and1 (and1 (and1 (and1 (and1 (and1 (and1 (and1 (and1 (and1 (and1 (and1 (and1 (and1 (and1 (and1 (and1 (and1 (and1 (and1 (and1 (and1 (and1 (and1 (and1 e))))))))))))))))))))))))))))))))))))))))))
  og105 := oexGB_ok (and2 (and1 (and1 (and1 (and1 (and1 (and1 (and1 (and1 (and1 (and1 (and1 (and1 (and1 (and1 (and1 (and1 (and1 (and1 (and1 (and1 (and1 (and1 (and1 (and1 (and1 (and1 (and1 (and1 (and1 (and1 (and1 (and1 (and1 (and1 (and1 (and1 (and1 (and1 (and1 (and1 e)))))))))))))))))))))))))))))))))))))))))
  og106 := oexGB_ok (and2 (and1 (and1 (and1 (and1 (and1 (and1 (and1 (and1 (and1 (and1 (and1 (and1 (and1 (and1 (and1 (and1 (and1 (and1 (and1 (and1 (and1 (and1 (and1 (and1 (and1 (and1 (and1 (and1 (and1 (and1 (and1 (and1 (and1 (and1 (and1 (and1 (and1 (and1 (and1 e))))))))))))))))))))))))))))))))))))))))
  og112 := oexGB_ok (and2 (and1 (and1 (and1 (and1 (and1 (and1 (and1 (and1 (and1 (and1 (and1 (and1 (and1 (and1 (and1 (and1 (and1 (and1 (and1 (and1 (and1 (and1 (and1 (and1 (and1 (and1 (and1 (and1 (and1 (and1 (and1 (and1 (and1 (and1 (and1 (and1 (and1 (and1 e)))))))))))))))))))))))))))))))))))))))
  og113 := oexGB_ok (and2 (and1 (and1 (and1 (and1 (and1 (and1 (and1 (and1 (and1 (and1 (and1 (and1 (and1 (and1 (and1 (and1 (and1 (and1 (and1 (and1 (and1 (and1 (and1 (and1 (and1 (and1 (and1 (and1 (and1 (and1 (and1 (and1 (and1 (and1 (and1 (and1 (and1 e))))))))))))))))))))))))))))))))))))))
  og114 := oexGB_ok (and2 (and1 (and1 (and1 (and1 (and1 (and1 (and1 (and1 (and1 (and1 (and1 (and1 (and1 (and1 (and1 (and1 (and1 (and1 (and1 (and1 (and1 (and1 (and1 (and1 (and1 (and1 (and1 (and1 (and1 (and1 (and1 (and1 (and1 (and1 (and1 (and1 e)))))))))))))))))))))))))))))))))))))
  og115 := oexGB_ok (and2 (and1 (and1 (and1 (and1 (and1 (and1 (and1 (and1 (and1 (and1 (and1 (and1 (and1 (and1 (and1 (and1 (and1 (and1 (and1 (and1 (and1 (and1 (and1 (and1 (and1 (and1 (and1 (and1 (and1 (and1 (and1 (and1 (and1 (and1 (and1 e))))))))))))))))))))))))))))))))))))
  og118 := oexGB_ok (and2 (and1 (and1 (and1 (and1 (and1 (and1 (and1 (and1 (and1 (and1 (and1 (and1 (and1 (and1 (and1 (and1 (and1 (and1 (and1 (and1 (and1 (and1 (and1 (and1 (and1 (and1 (and1 (and1 (and1 (and1 (and1 (and1 (and1 (and1 e)))))))))))))))))))))))))))))))))))
  ox100 := oexB_ok (and2 (and1 (and1 (and1 (and1 (and1 (and1 (and1 (and1 (and1 (and1 (and1 (and1 (and1 (and1 (and1 (and1 (and1 (and1 (and1 (and1 (and1 (and1 (and1 (and1 (and1 (and1 (and1 (and1 (and1 (and1 (and1 (and1 (and1 e))))))))))))))))))))))))))))))))))
  ox101 := oexB_ok (and2 (and1 (and1 (and1 (and1 (and1 (and1 (and1 (and1 (and1 (and1 (and1 (and1 (and1 (and1 (and1 (and1 (and1 (and1 (and1 (and1 (and1 (and1 (and1 (and1 (and1 (and1 (and1 (and1 (and1 (and1 (and1 (and1 e)))))))))))))))))))))))))))))))))
  ox102 := oexB_ok (and2 (and1 (and1 (and1 (and1 (and1 (and1 (and1 (and1 (and1 (and1 (and1 (and1 (and1 (and1 (and1 (and1 (and1 (and1 (and1 (and1 (and1 (and1 (and1 (and1 (and1 (and1 (and1 (and1 (and1 (and1 (and1 e))))))))))))))))))))))))))))))))
  ox103 := oexB_ok (and2 (and1 (and1 (and1 (and1 (and1 (and1 (and1 (and1 (and1 (and1 (and1 (and1 (and1 (and1 (and1 (and1 (and1 (and1 (and1 (and1 (and1 (and1 (and1 (and1 (and1 (and1 (and1 (and1 (and1 (and1 e)))))))))))))))))))))))))))))))
  ox104 := oexB_ok (and2 (and1 (and1 (and1 (and1 (and1 (and1 (and1 (and1 (and1 (and1 (and1 (and1 (and1 (and1 (and1 (and1 (and1 (and1 (and1 (and1 (and1 (and1 (and1 (and1 (and1 (and1 (and1 (and1 (and1 e))))))))))))))))))))))))))))))
  ox105 := oexB_ok (and2 (and1 (and1 (and1 (and1 (and1 (and1 (and1 (and1 (and1 (and1 (and1 (and1 (and1 (and1 (and1 (and1 (and1 (and1 (and1 (and1 (and1 (and1 (and1 (and1 (and1 (and1 (and1 (and1 e)))))))))))))))))))))))))))))
  ox106 := oexB_ok (and2 (and1 (and1 (and1 (and1 (and1 (and1 (and1 (and1 (and1 (and1 (and1 (and1 (and1 (and1 (and1 (and1 (and1 (and1 (and1 (and1 (and1 (and1 (and1 (and1 (and1 (and1 (and1 e))))))))))))))))))))))))))))
  ox112 := oexGB_ok (and2 (and1 (and1 (and1 (and1 (and1 (and1 (and1 (and1 (and1 (and1 (and1 (and1 (and1 (and1 (and1 (and1 (and1 (and1 (and1 (and1 (and1 (and1 (and1 (and1 (and1 (and1 e)))))))))))))))))))))))))))
  ox113 := oexGB_ok (and2 (and1 (and1 (and1 (and1 (and1 (and1 (and1 (and1 (and1 (and1 (and1 (and1 (and1 (and1 (and1 (and1 (and1 (and1 (and1 (and1 (and1 (and1 (and1 (and1 (and1 e))))))))))))))))))))))))))
  ox114 := oexGB_ok (and2 (and1 (and1 (and1 (and1 (and1 (and1 (and1 (and1 (and1 (and1 (and1 (and1 (and1 (and1 (and1 (and1 (and1 (and1 (and1 (and1 (and1 (and1 (and1 (and1 e)))))))))))))))))))))))))
  ox115 := oexGB_ok (and2 (and1 (and1 (and1 (and1 (and1 (and1 (and1 (and1 (and1 (and1 (and1 (and1 (and1 (and1 (and1 (and1 (and1 (and1 (and1 (and1 (and1 (and1 (and1 e))))))))))))))))))))))))
  ox118 := oexGB_ok (and2 (and1 (and1 (and1 (and1 (and1 (and1 (and1 (and1 (and1 (and1 (and1 (and1 (and1 (and1 (and1 (and1 (and1 (and1 (and1 (and1 (and1 (and1 e)))))))))))))))))))))))
  rb_BookError := (and2 (and1 (and1 (and1 (and1 (and1 (and1 (and1 (and1 (and1 (and1 (and1 (and1 (and1 (and1 (and1 (and1 (and1 (and1 (and1 (and1 (and1 e))))))))))))))))))))))
  rg107 := raGB_ok (and2 (and1 (and1 (and1 (and1 (and1 (and1 (and1 (and1 (and1 (and1 (and1 (and1 (and1 (and1 (and1 (and1 (and1 (and1 (and1 (and1 e)))))))))))))))))))))
  rg108 := raGB_ok (and2 (and1 (and1 (and1 (and1 (and1 (and1 (and1 (and1 (and1 (and1 (and1 (and1 (and1 (and1 (and1 (and1 (and1 (and1 (and1 e))))))))))))))))))))
  rg109 := raGB_ok (and2 (and1 (and1 (and1 (and1 (and1 (and1 (and1 (and1 (and1 (and1 (and1 (and1 (and1 (and1 (and1 (and1 (and1 (and1 e)))))))))))))))))))
  rg110 := raGB_ok (and2 (and1 (and1 (and1 (and1 (and1 (and1 (and1 (and1 (and1 (and1 (and1 (and1 (and1 (and1 (and1 (and1 (and1 e))))))))))))))))))
  rg111 := raGB_ok (and2 (and1 (and1 (and1 (and1 (and1 (and1 (and1 (and1 (and1 (and1 (and1 (and1 (and1 (and1 (and1 (and1 e)))))))))))))))))
  rg116 := raGB_ok (and2 (and1 (and1 (and1 (and1 (and1 (and1 (and1 (and1 (and1 (and1 (and1 (and1 (and1 (and1 (and1 e))))))))))))))))
  rg117 := raGB_ok (and2 (and1 (and1 (and1 (and1 (and1 (and1 (and1 (and1 (and1 (and1 (and1 (and1 (and1 (and1 e)))))))))))))))
  sb_BookError := eq_of_beq (and2 (and1 (and1 (and1 (and1 (and1 (and1 (and1 (and1 (and1 (and1 (and1 (and1 (and1 e))))))))))))))
  ti100 := eq_of_beq (and2 (and1 (and1 (and1 (and1 (and1 (and1 (and1 (and1 (and1 (and1 (and1 (and1 e)))))))))))))
  ti101 := eq_of_beq (and2 (and1 (and1 (and1 (and1 (and1 (and1 (and1 (and1 (and1 (and1 (and1 e))))))))))))
  ti102 := eq_of_beq (and2 (and1 (and1 (and1 (and1 (and1 (and1 (and1 (and1 (and1 (and1 e)))))))))))
  ti103 := eq_of_beq (and2 (and1 (and1 (and1 (and1 (and1 (and1 (and1 (and1 (and1 e))))))))))
  ti104 := eq_of_beq (and2 (and1 (and1 (and1 (and1 (and1 (and1 (and1 (and1 e)))))))))
  ti105 := eq_of_beq (and2 (and1 (and1 (and1 (and1 (and1 (and1 (and1 e))))))))
  ti106 := eq_of_beq (and2 (and1 (and1 (and1 (and1 (and1 (and1 e)))))))
  ti112 := eq_of_beq (and2 (and1 (and1 (and1 (and1 (and1 e))))))
  ti113 := eq_of_beq (and2 (and1 (and1 (and1 (and1 e)))))
  ti114 := eq_of_beq (and2 (and1 (and1 (and1 e))))
  ti115 := eq_of_beq (and2 (and1 (and1 e)))
  ti118 := eq_of_beq (and2 (and1 e))
theorem fd_ok (c : He.SaysD fas fns K) : Fd K where
  D0 := c.def_ 0 rfl
  D1 := c.def_ 1 rfl
  D2 := c.def_ 2 rfl
  D3 := c.def_ 3 rfl
  D4 := c.def_ 4 rfl
  D5 := c.def_ 5 rfl
  D6 := c.def_ 6 rfl
  D7 := c.def_ 7 rfl
  D8 := c.def_ 8 rfl
  D918 := c.def_ 9 rfl
  D915 := c.def_ 10 rfl
  D914 := c.def_ 11 rfl
  D913 := c.def_ 12 rfl
  D912 := c.def_ 13 rfl
  D906 := c.def_ 14 rfl
  D905 := c.def_ 15 rfl
  D904 := c.def_ 16 rfl
  D903 := c.def_ 17 rfl
  D902 := c.def_ 18 rfl
  D901 := c.def_ 19 rfl
  D900 := c.def_ 20 rfl
end
end Lw
end
section
set_option autoImplicit true
set_option Elab.async false
set_option maxHeartbeats 0
namespace Lw
open PySem PySem.Spec PyProof.Rows L2 Fw
def Plain : Prop := ∀ ns : List Int, ns.length ≤ 63 → ∃ h', run 1000000 60 ix_law [.roi ns] [] = .ok (.bl true) h'
def spLaw (K : PySem.W.Frag) : Sp := fun vs H Q _ => ∃ (a : Addr) (ns : List Int), vs = [.ref a] ∧ ns.length ≤ 63 ∧ SqL K H a (ns.map V.int) ∧ ∀ H', Q (.bl true) H'
theorem sp_law (hp : Plain) {K : PySem.W.Frag} {vs : List V} {H : Hp} {Q : VK} {E : XK} (p : spLaw K vs H Q E) : spF (Wk K) (run 1000000 60 ix_law) vs H Q E := by
  obtain ⟨a, ns, rfl, hl, hs, hq⟩ := p
  obtain ⟨h', e⟩ := hp ns hl
  refine ⟨[], [], [], [.roi ns], ⟨rfl, .nil, (fun z hz => by cases hz), (fun n o a e => by simp at e)⟩, .cons (.roi ?_) .nil, ?_⟩
  · rcases hs with hs | hs
    · exact .inl ⟨by simp, by simp, hs⟩
    · exact .inr hs
  · rw [e]
    intro ρ' H' x S v rv
    cases rv
    exact hq H'
def CXs : CXT := fun outer H s E e s' => ∃ P w, L2.CX P w outer H s E e s'
theorem cxs_no {H : Hp} {s s' : Shared} {e : Value} (h : CXs [] H s (fun _ _ _ => False) e s') : False := by
  obtain ⟨P, w, a, B, H', cls, d, _, _, _, _, _, _, _, q⟩ := h
  exact q
theorem law_fn {P : Program} {w : World} {K : PySem.W.Frag} {h : Heap} {mg : Str → Option Value} {f : Addr} (hp : Plain) (X : K.In h) (G : h.Ns mainGlobals mg) (hfa : mg ("law" : Str) = some (.ref f)) (t : He.SaysT fas fns tbs w K) (e : exB K = true) :
    ∃ fd : FuncData, (∀ (s : Shared) (v : Value), BindsTo s fd ⟨[v], []⟩ [("_law_script", v)]) ∧ ∀ base : Heap, K.In base → base.Ns mainGlobals mg → FnG P w K mg base CXs 120 f fd ["_law_script"] (spLaw K) := by
  have M := mg_ok X G t e
  have D := fd_ok t.d
  obtain ⟨fd, F⟩ := D.D8
  have e2 := hfa.symm.trans (He.glo_ok X G (t.d.fact 28 (f := .glo "law") rfl))
  cases e2
  have b := FunD.bindsA (ps := ["_law_script"]) F fun _ _ _ _ _ _ us hl => match us, hl with | [_], _ => rfl
  refine ⟨fd, fun s v => b s [v] rfl, fun base _ _ => ?_⟩
  have O : Ok P w K mg base 1000000 59 := ok_all M D 59
  have k : FnG P w K mg base (L2.CX P w) (2 * 59 + 1 + 1) (He.fAd K d8.at_) fd ps8 (spF (Wk K) (run 1000000 60 ix_law)) := fn_full F sc8 rfl (fun cdv A outer s H E hr => s8.h O M hr)
  exact (k.imp fun vs H Q E p => sp_law hp p).cx fun _ _ _ _ _ _ q => ⟨P, w, q⟩
end Lw
open PySem PySem.W PySem.Calls PyProof.Rows
theorem holds12 (hp : Lw.Plain) : PySem.Challenge.rw_appendedbook_k12_refusals_made.Holds := by
  w_on; o_law
  refine HandSHeadRun.head_any (r := Lw.RwL) (q := view Lw.RwL.prog [Lw.ix]) (H := Lw.hk) (ob := Lw.ob) (M := 6000) (loose := Lw.names) (d := HandSHeadRun.topDef Lw.RwL.prog Lw.ix) (kwd := []) Lw.ob_eq
    (by kernel_rfl) (fun s => by kernel_rfl) Lw.runEq (by kernel_rfl) (by kernel_rfl) (by kernel_rfl) (by rfl) (by first | assumption | decide +kernel) (by decide +kernel) ⟨rfl, rfl, rfl, rfl, rfl, by decide +kernel⟩ ?hw ?hc
  case hw => w_witness2
  case hc =>
    refine Fw.walk_ofG (l := PySem.Challenge.rw_appendedbook_k12_refusals_made) (n := 63) (k := 120) (x := "_law_script") (CX := Lw.CXs) rfl (by decide) (by kernel_rfl) ⟨rfl, by decide, by decide, rfl⟩ ?F (fun _ _ _ _ z => Lw.cxs_no z)
    intro w mg fa h Y G hmg0
    obtain ⟨K, KX, c⟩ := Y
    have hmg : mg ("law" : PySem.Str) = some (.ref fa) := by
      have e : (HandSHeadRun.topDef Lw.RwL.prog Lw.ix).name = ("law" : PySem.Str) := by kernel_rfl
      rw [← e]
      exact hmg0
    obtain ⟨fd, hb, hF⟩ := Lw.law_fn (P := (PySem.Challenge.rw_appendedbook_k12_refusals_made).prog) (w := w) hp KX G hmg c.t c.more
    exact ⟨K, fd, Lw.spLaw K, KX, hb, fun H a ns hl _ hS => ⟨a, ns, rfl, hl, hS, fun _ => rfl⟩, hF⟩
end
section
set_option autoImplicit true
set_option autoImplicit true
namespace Pl
open Fw
variable {σ : Sg} {h : Hh} {a b c t : TM} {as ks : AM} {p q : BM} {x : Exn} {d e f : D} {ds es : List D} {s s' : SM}
@[simp] theorem eC_eq : eC d σ h = .ok d h := (rfl)
@[simp] theorem eV_eq {i : Nat} : eV i σ h = opt (sget σ i) h := (rfl)
@[simp] theorem aNil_eq : aNil σ h = .ok [] h := (rfl)
@[simp] theorem sNil_eq : sNil σ h = .nx σ h := (rfl)
@[simp] theorem bYes_eq : bYes σ h = .ok true h := (rfl)
@[simp] theorem sCons_eq : sCons s s' σ h = (s σ h).then_ s' := (rfl)
def kA2 (d : D) (r : R (List D)) : R (List D) := r.bind fun ds h => .ok (d :: ds) h
@[simp] theorem kA2_ok {d : D} {ds : (List D)} : kA2 d (.ok ds h) = .ok (d :: ds) h := (rfl)
@[simp] theorem kA2_xn {d : D} : kA2 d (.xn x h) = .xn x h := (rfl)
@[simp] theorem kA2_bad {d : D} : kA2 d .bad = .bad := (rfl)
def kA1 (as : AM) (σ : Sg) (r : R D) : R (List D) := r.bind fun d h => kA2 d (as σ h)
@[simp] theorem kA1_eq : aCons a as σ h = kA1 as σ (a σ h) := (rfl)
@[simp] theorem kA1_ok  {d : D} : kA1 as σ (.ok d h) = kA2 d (as σ h) := (rfl)
@[simp] theorem kA1_xn  : kA1 as σ (.xn x h) = .xn x h := (rfl)
@[simp] theorem kA1_bad  : kA1 as σ .bad = .bad := (rfl)
def kTup  (r : R (List D)) : R D := r.bind fun ds h => if ds.length ≤ line then .ok (.tup ds) h else .bad
@[simp] theorem kTup_eq : eTup as σ h = kTup  (as σ h) := (rfl)
@[simp] theorem kTup_ok  {ds : (List D)} : kTup  (.ok ds h) = if ds.length ≤ line then .ok (.tup ds) h else .bad := (rfl)
@[simp] theorem kTup_xn  : kTup  (.xn x h) = .xn x h := (rfl)
@[simp] theorem kTup_bad  : kTup  .bad = .bad := (rfl)
def kLst  (r : R (List D)) : R D := r.bind fun ds h => if ds.length ≤ line then .ok (.lst ds) h else .bad
@[simp] theorem kLst_eq : eLst as σ h = kLst  (as σ h) := (rfl)
@[simp] theorem kLst_ok  {ds : (List D)} : kLst  (.ok ds h) = if ds.length ≤ line then .ok (.lst ds) h else .bad := (rfl)
@[simp] theorem kLst_xn  : kLst  (.xn x h) = .xn x h := (rfl)
@[simp] theorem kLst_bad  : kLst  .bad = .bad := (rfl)
def kNewL  (r : R (List D)) : R D := r.bind fun ds h => if ds.length ≤ line then .ok (.ref h.length) (h ++ [.lst ds]) else .bad
@[simp] theorem kNewL_eq : eNewL as σ h = kNewL  (as σ h) := (rfl)
@[simp] theorem kNewL_ok  {ds : (List D)} : kNewL  (.ok ds h) = if ds.length ≤ line then .ok (.ref h.length) (h ++ [.lst ds]) else .bad := (rfl)
@[simp] theorem kNewL_xn  : kNewL  (.xn x h) = .xn x h := (rfl)
@[simp] theorem kNewL_bad  : kNewL  .bad = .bad := (rfl)
def kBin2 (op : Bop) (d : D) (r : R D) : R D := r.bind fun e h => opt (binop h op d e) h
@[simp] theorem kBin2_ok {op : Bop} {d : D} {e : D} : kBin2 op d (.ok e h) = opt (binop h op d e) h := (rfl)
@[simp] theorem kBin2_xn {op : Bop} {d : D} : kBin2 op d (.xn x h) = .xn x h := (rfl)
@[simp] theorem kBin2_bad {op : Bop} {d : D} : kBin2 op d .bad = .bad := (rfl)
def kBin (op : Bop) (b : TM) (σ : Sg) (r : R D) : R D := r.bind fun d h => kBin2 op d (b σ h)
@[simp] theorem kBin_eq : eBin op a b σ h = kBin op b σ (a σ h) := (rfl)
@[simp] theorem kBin_ok {op : Bop} {d : D} : kBin op b σ (.ok d h) = kBin2 op d (b σ h) := (rfl)
@[simp] theorem kBin_xn {op : Bop} : kBin op b σ (.xn x h) = .xn x h := (rfl)
@[simp] theorem kBin_bad {op : Bop} : kBin op b σ .bad = .bad := (rfl)
def kCmp2 (op : Cop) (d : D) (r : R D) : R D := r.bind fun e h => opt ((cmpop h op d e).map .bl) h
@[simp] theorem kCmp2_ok {op : Cop} {d : D} {e : D} : kCmp2 op d (.ok e h) = opt ((cmpop h op d e).map .bl) h := (rfl)
@[simp] theorem kCmp2_xn {op : Cop} {d : D} : kCmp2 op d (.xn x h) = .xn x h := (rfl)
@[simp] theorem kCmp2_bad {op : Cop} {d : D} : kCmp2 op d .bad = .bad := (rfl)
def kCmp (op : Cop) (b : TM) (σ : Sg) (r : R D) : R D := r.bind fun d h => kCmp2 op d (b σ h)
@[simp] theorem kCmp_eq : eCmp op a b σ h = kCmp op b σ (a σ h) := (rfl)
@[simp] theorem kCmp_ok {op : Cop} {d : D} : kCmp op b σ (.ok d h) = kCmp2 op d (b σ h) := (rfl)
@[simp] theorem kCmp_xn {op : Cop} : kCmp op b σ (.xn x h) = .xn x h := (rfl)
@[simp] theorem kCmp_bad {op : Cop} : kCmp op b σ .bad = .bad := (rfl)
def neg1 (d : D) (h : Hh) : R D := match d with
  | .int i => .ok (.int (-i)) h
  | _ => .bad
@[simp] theorem neg1_int {i : Int} : neg1 (.int i) h = .ok (.int (-i)) h := (rfl)
def kNeg  (r : R D) : R D := r.bind fun d h => neg1 d h
@[simp] theorem kNeg_eq : eNeg a σ h = kNeg  (a σ h) := (rfl)
@[simp] theorem kNeg_ok  {d : D} : kNeg  (.ok d h) = neg1 d h := (rfl)
@[simp] theorem kNeg_xn  : kNeg  (.xn x h) = .xn x h := (rfl)
@[simp] theorem kNeg_bad  : kNeg  .bad = .bad := (rfl)
def kCall (k : List D → Hh → R D) (r : R (List D)) : R D := r.bind fun ds h => k ds h
@[simp] theorem kCall_eq : eCall k as σ h = kCall k (as σ h) := (rfl)
@[simp] theorem kCall_ok {k : List D → Hh → R D} {ds : (List D)} : kCall k (.ok ds h) = k ds h := (rfl)
@[simp] theorem kCall_xn {k : List D → Hh → R D} : kCall k (.xn x h) = .xn x h := (rfl)
@[simp] theorem kCall_bad {k : List D → Hh → R D} : kCall k .bad = .bad := (rfl)
def kU (g : Hh → D → Option D) (r : R D) : R D := r.bind fun d h => opt (g h d) h
@[simp] theorem kU_eq : eU g a σ h = kU g (a σ h) := (rfl)
@[simp] theorem kU_ok {g : Hh → D → Option D} {d : D} : kU g (.ok d h) = opt (g h d) h := (rfl)
@[simp] theorem kU_xn {g : Hh → D → Option D} : kU g (.xn x h) = .xn x h := (rfl)
@[simp] theorem kU_bad {g : Hh → D → Option D} : kU g .bad = .bad := (rfl)
def kU22 (g : Hh → D → D → Option D) (d : D) (r : R D) : R D := r.bind fun e h => opt (g h d e) h
@[simp] theorem kU22_ok {g : Hh → D → D → Option D} {d : D} {e : D} : kU22 g d (.ok e h) = opt (g h d e) h := (rfl)
@[simp] theorem kU22_xn {g : Hh → D → D → Option D} {d : D} : kU22 g d (.xn x h) = .xn x h := (rfl)
@[simp] theorem kU22_bad {g : Hh → D → D → Option D} {d : D} : kU22 g d .bad = .bad := (rfl)
def kU2 (g : Hh → D → D → Option D) (b : TM) (σ : Sg) (r : R D) : R D := r.bind fun d h => kU22 g d (b σ h)
@[simp] theorem kU2_eq : eU2 g a b σ h = kU2 g b σ (a σ h) := (rfl)
@[simp] theorem kU2_ok {g : Hh → D → D → Option D} {d : D} : kU2 g b σ (.ok d h) = kU22 g d (b σ h) := (rfl)
@[simp] theorem kU2_xn {g : Hh → D → D → Option D} : kU2 g b σ (.xn x h) = .xn x h := (rfl)
@[simp] theorem kU2_bad {g : Hh → D → D → Option D} : kU2 g b σ .bad = .bad := (rfl)
def kM2 (g : Hh → D → D → Option (D × Option (Nat × O))) (d : D) (r : R D) : R D := r.bind fun e h => optW h (g h d e)
@[simp] theorem kM2_ok {g : Hh → D → D → Option (D × Option (Nat × O))} {d : D} {e : D} : kM2 g d (.ok e h) = optW h (g h d e) := (rfl)
@[simp] theorem kM2_xn {g : Hh → D → D → Option (D × Option (Nat × O))} {d : D} : kM2 g d (.xn x h) = .xn x h := (rfl)
@[simp] theorem kM2_bad {g : Hh → D → D → Option (D × Option (Nat × O))} {d : D} : kM2 g d .bad = .bad := (rfl)
def kM1 (k : Bool) (g : Hh → D → D → Option (D × Option (Nat × O))) (d : D) (b : TM) (σ : Sg) (h : Hh) : R D := if k then kM2 g d (b σ h) else .bad
@[simp] theorem kM1_t {g : Hh → D → D → Option (D × Option (Nat × O))} : kM1 true g d b σ h = kM2 g d (b σ h) := (rfl)
def kM (k : Hh → D → Bool) (g : Hh → D → D → Option (D × Option (Nat × O))) (b : TM) (σ : Sg) (r : R D) : R D := r.bind fun d h => kM1 (k h d) g d b σ h
@[simp] theorem kM_eq : eM k g a b σ h = kM k g b σ (a σ h) := (rfl)
@[simp] theorem kM_ok {k : Hh → D → Bool} {g : Hh → D → D → Option (D × Option (Nat × O))} {d : D} : kM k g b σ (.ok d h) = kM1 (k h d) g d b σ h := (rfl)
@[simp] theorem kM_xn {k : Hh → D → Bool} {g : Hh → D → D → Option (D × Option (Nat × O))} : kM k g b σ (.xn x h) = .xn x h := (rfl)
@[simp] theorem kM_bad {k : Hh → D → Bool} {g : Hh → D → D → Option (D × Option (Nat × O))} : kM k g b σ .bad = .bad := (rfl)
def kIx2 (d : D) (r : R D) : R D := r.bind fun e h => opt (index h d e) h
@[simp] theorem kIx2_ok {d : D} {e : D} : kIx2 d (.ok e h) = opt (index h d e) h := (rfl)
@[simp] theorem kIx2_xn {d : D} : kIx2 d (.xn x h) = .xn x h := (rfl)
@[simp] theorem kIx2_bad {d : D} : kIx2 d .bad = .bad := (rfl)
def kIx (b : TM) (σ : Sg) (r : R D) : R D := r.bind fun d h => kIx2 d (b σ h)
@[simp] theorem kIx_eq : eIx a b σ h = kIx b σ (a σ h) := (rfl)
@[simp] theorem kIx_ok  {d : D} : kIx b σ (.ok d h) = kIx2 d (b σ h) := (rfl)
@[simp] theorem kIx_xn  : kIx b σ (.xn x h) = .xn x h := (rfl)
@[simp] theorem kIx_bad  : kIx b σ .bad = .bad := (rfl)
def kbCmp2 (op : Cop) (d : D) (r : R D) : R Bool := r.bind fun e h => optB (cmpop h op d e) h
@[simp] theorem kbCmp2_ok {op : Cop} {d : D} {e : D} : kbCmp2 op d (.ok e h) = optB (cmpop h op d e) h := (rfl)
@[simp] theorem kbCmp2_xn {op : Cop} {d : D} : kbCmp2 op d (.xn x h) = .xn x h := (rfl)
@[simp] theorem kbCmp2_bad {op : Cop} {d : D} : kbCmp2 op d .bad = .bad := (rfl)
def kbCmp (op : Cop) (b : TM) (σ : Sg) (r : R D) : R Bool := r.bind fun d h => kbCmp2 op d (b σ h)
@[simp] theorem kbCmp_eq : bCmp op a b σ h = kbCmp op b σ (a σ h) := (rfl)
@[simp] theorem kbCmp_ok {op : Cop} {d : D} : kbCmp op b σ (.ok d h) = kbCmp2 op d (b σ h) := (rfl)
@[simp] theorem kbCmp_xn {op : Cop} : kbCmp op b σ (.xn x h) = .xn x h := (rfl)
@[simp] theorem kbCmp_bad {op : Cop} : kbCmp op b σ .bad = .bad := (rfl)
def kbOr1 (k : Bool) (q : BM) (σ : Sg) (h : Hh) : R Bool := if k then .ok true h else q σ h
@[simp] theorem kbOr1_t : kbOr1 true q σ h = .ok true h := (rfl)
@[simp] theorem kbOr1_f : kbOr1 false q σ h = q σ h := (rfl)
def kbOr (q : BM) (σ : Sg) (r : R Bool) : R Bool := r.bind fun k h => kbOr1 k q σ h
@[simp] theorem kbOr_eq : bOr p q σ h = kbOr q σ (p σ h) := (rfl)
@[simp] theorem kbOr_ok  {k : Bool} : kbOr q σ (.ok k h) = kbOr1 k q σ h := (rfl)
@[simp] theorem kbOr_xn  : kbOr q σ (.xn x h) = .xn x h := (rfl)
@[simp] theorem kbOr_bad  : kbOr q σ .bad = .bad := (rfl)
def walk1 (o : Option (List D)) (h : Hh) : R (List D) := match o with
  | none => .bad
  | some xs => .ok xs h
@[simp] theorem walk1_ok {xs : List D} : walk1 (some xs) h = .ok xs h := (rfl)
def kIt (it : It) (r : R (List D)) : R (List D) := r.bind fun ds h => walk1 (walk it ds) h
theorem itM_eq {it : It} : itM it as σ h = kIt it (as σ h) := by
  unfold itM kIt walk1
  congr
@[simp] theorem itM_eq' {it : It} : itM it as σ h = kIt it (as σ h) := itM_eq
@[simp] theorem kIt_ok {it : It} : kIt it (.ok ds h) = walk1 (walk it ds) h := (rfl)
@[simp] theorem kIt_xn {it : It} : kIt it (.xn x h) = .xn x h := (rfl)
@[simp] theorem kIt_bad {it : It} : kIt it .bad = .bad := (rfl)
def kLcE (r : R (List D)) : R D := r.bind fun ys h => .ok (.lst ys) h
@[simp] theorem kLcE_ok : kLcE (.ok ds h) = .ok (.lst ds) h := (rfl)
def kLc (a : TM) (g : G) (p : BM) (ow : List Nat) (σ : Sg) (r : R (List D)) : R D := r.bind fun xs h => kLcE (noX (lcL (lcStep a g p ow σ) xs [] h))
@[simp] theorem kLc_eq : eLc a g it as p ow σ h = kLc a g p ow σ (itM it as σ h) := (rfl)
@[simp] theorem kLc_ok {g : G} {ow : List Nat} {xs : (List D)} : kLc a g p ow σ (.ok xs h) = kLcE (noX (lcL (lcStep a g p ow σ) xs [] h)) := (rfl)
@[simp] theorem kLc_xn {g : G} {ow : List Nat} : kLc a g p ow σ (.xn x h) = .xn x h := (rfl)
@[simp] theorem kLc_bad {g : G} {ow : List Nat} : kLc a g p ow σ .bad = .bad := (rfl)
def kSet (i : Nat) (σ : Sg) (r : R D) : SR := SR.of σ r fun d h => .nx (σ.set i (some d)) h
@[simp] theorem kSet_eq : sSet i a σ h = kSet i σ (a σ h) := (rfl)
@[simp] theorem kSet_ok {i : Nat} {d : D} : kSet i σ (.ok d h) = .nx (σ.set i (some d)) h := (rfl)
@[simp] theorem kSet_xn {i : Nat} : kSet i σ (.xn x h) = .xn x σ h := (rfl)
@[simp] theorem kSet_bad {i : Nat} : kSet i σ .bad = .bad := (rfl)
def seti1 (o : Option Hh) (σ : Sg) : SR := match o with
  | some h => .nx σ h
  | none => .bad
@[simp] theorem seti1_ok : seti1 (some h) σ = .nx σ h := (rfl)
def kSetI3 (v : D) (d : D) (σ : Sg) (r : R D) : SR := SR.of σ r fun e h => seti1 (setIx h d e v) σ
@[simp] theorem kSetI3_ok {v : D} {d : D} {e : D} : kSetI3 v d σ (.ok e h) = seti1 (setIx h d e v) σ := (rfl)
@[simp] theorem kSetI3_xn {v : D} {d : D} : kSetI3 v d σ (.xn x h) = .xn x σ h := (rfl)
@[simp] theorem kSetI3_bad {v : D} {d : D} : kSetI3 v d σ .bad = .bad := (rfl)
def kSetI2 (v : D) (b : TM) (σ : Sg) (r : R D) : SR := SR.of σ r fun d h => kSetI3 v d σ (b σ h)
@[simp] theorem kSetI2_ok {v : D} {d : D} : kSetI2 v b σ (.ok d h) = kSetI3 v d σ (b σ h) := (rfl)
@[simp] theorem kSetI2_xn {v : D} : kSetI2 v b σ (.xn x h) = .xn x σ h := (rfl)
@[simp] theorem kSetI2_bad {v : D} : kSetI2 v b σ .bad = .bad := (rfl)
def kSetI (a : TM) (b : TM) (σ : Sg) (r : R D) : SR := SR.of σ r fun v h => kSetI2 v b σ (a σ h)
@[simp] theorem kSetI_eq : sSetI a b c σ h = kSetI a b σ (c σ h) := (rfl)
@[simp] theorem kSetI_ok  {v : D} : kSetI a b σ (.ok v h) = kSetI2 v b σ (a σ h) := (rfl)
@[simp] theorem kSetI_xn  : kSetI a b σ (.xn x h) = .xn x σ h := (rfl)
@[simp] theorem kSetI_bad  : kSetI a b σ .bad = .bad := (rfl)
def kEx (σ : Sg) (r : R D) : SR := SR.of σ r fun d h => .nx σ h
@[simp] theorem kEx_eq : sEx a σ h = kEx σ (a σ h) := (rfl)
@[simp] theorem kEx_ok  {d : D} : kEx σ (.ok d h) = .nx σ h := (rfl)
@[simp] theorem kEx_xn  : kEx σ (.xn x h) = .xn x σ h := (rfl)
@[simp] theorem kEx_bad  : kEx σ .bad = .bad := (rfl)
def kRet (σ : Sg) (r : R D) : SR := SR.of σ r fun d h => .rt d h
@[simp] theorem kRet_eq : sRet a σ h = kRet σ (a σ h) := (rfl)
@[simp] theorem kRet_ok  {d : D} : kRet σ (.ok d h) = .rt d h := (rfl)
@[simp] theorem kRet_xn  : kRet σ (.xn x h) = .xn x σ h := (rfl)
@[simp] theorem kRet_bad  : kRet σ .bad = .bad := (rfl)
def kIf1 (k : Bool) (s s' : SM) (σ : Sg) (h : Hh) : SR := if k then s σ h else s' σ h
@[simp] theorem kIf1_t : kIf1 true s s' σ h = s σ h := (rfl)
@[simp] theorem kIf1_f : kIf1 false s s' σ h = s' σ h := (rfl)
def kIf (s : SM) (s' : SM) (σ : Sg) (r : R Bool) : SR := SR.of σ r fun k h => kIf1 k s s' σ h
@[simp] theorem kIf_eq : sIf p s s' σ h = kIf s s' σ (p σ h) := (rfl)
@[simp] theorem kIf_ok  {k : Bool} : kIf s s' σ (.ok k h) = kIf1 k s s' σ h := (rfl)
@[simp] theorem kIf_xn  : kIf s s' σ (.xn x h) = .xn x σ h := (rfl)
@[simp] theorem kIf_bad  : kIf s s' σ .bad = .bad := (rfl)
def kFor (g : G) (s : SM) (σ : Sg) (r : R (List D)) : SR := SR.of σ r fun xs h => forL (forB g s) xs σ h
@[simp] theorem kFor_eq : sFor g it as s σ h = kFor g s σ (itM it as σ h) := (rfl)
@[simp] theorem kFor_ok {g : G} {xs : (List D)} : kFor g s σ (.ok xs h) = forL (forB g s) xs σ h := (rfl)
@[simp] theorem kFor_xn {g : G} : kFor g s σ (.xn x h) = .xn x σ h := (rfl)
@[simp] theorem kFor_bad {g : G} : kFor g s σ .bad = .bad := (rfl)
@[simp] theorem forL_nil {body : D → Sg → Hh → SR} : forL body [] σ h = .nx σ h := (rfl)
def forK (body : D → Sg → Hh → SR) (xs : List D) (r : SR) : SR := match r with
  | .nx σ h => forL body xs σ h
  | .ct σ h => forL body xs σ h
  | .bk σ h => .nx σ h
  | r => r
@[simp] theorem forK_nx {body : D → Sg → Hh → SR} {xs : List D} : forK body xs (.nx σ h) = forL body xs σ h := (rfl)
@[simp] theorem forK_ct {body : D → Sg → Hh → SR} {xs : List D} : forK body xs (.ct σ h) = forL body xs σ h := (rfl)
@[simp] theorem forK_bk {body : D → Sg → Hh → SR} {xs : List D} : forK body xs (.bk σ h) = .nx σ h := (rfl)
@[simp] theorem forK_rt {body : D → Sg → Hh → SR} {xs : List D} : forK body xs (.rt d h) = .rt d h := (rfl)
@[simp] theorem forK_xn {body : D → Sg → Hh → SR} {xs : List D} : forK body xs (.xn x σ h) = .xn x σ h := (rfl)
theorem forL_cons {body : D → Sg → Hh → SR} {y : D} {xs : List D} : forL body (y :: xs) σ h = forK body xs (body y σ h) := by
  simp only [forL, forK] <;> (split <;> simp_all)
def forB1 (o : Option Sg) (s : SM) (h : Hh) : SR := match o with
  | none => .bad
  | some σ => s σ h
@[simp] theorem forB1_ok : forB1 (some σ) s h = s σ h := (rfl)
@[simp] theorem forB_eq {g : G} : forB g s d σ h = forB1 (bindG σ g d) s h := by
  unfold forB forB1
  cases bindG σ g d <;> rfl
@[simp] theorem bindG_nm {i : Nat} : bindG σ (.nm i) d = some (σ.set i (some d)) := (rfl)
@[simp] theorem bindG_tp {gs : List G} : bindG σ (.tp gs) (.tup ds) = bindGs σ gs ds := (rfl)
@[simp] theorem bindG_tl {gs : List G} : bindG σ (.tp gs) (.lst ds) = bindGs σ gs ds := (rfl)
@[simp] theorem bindGs_nil : bindGs σ [] [] = some σ := (rfl)
@[simp] theorem bindGs_cons {i : Nat} {gs : List G} : bindGs σ (.nm i :: gs) (d :: ds) = bindGs (σ.set i (some d)) gs ds := by simp [bindGs]
def lcStep1 (o : Option Sg) (a : TM) (p : BM) (h : Hh) : R (Option D) := match o with
  | none => .bad
  | some σ => (p σ h).bind fun t h => if t then (a σ h).bind fun d h => .ok (some d) h else .ok none h
def lcS2 (r : R D) : R (Option D) := r.bind fun d h => .ok (some d) h
@[simp] theorem lcS2_ok : lcS2 (.ok d h) = .ok (some d) h := (rfl)
@[simp] theorem lcS2_xn : lcS2 (.xn x h) = .xn x h := (rfl)
def lcS1 (k : Bool) (a : TM) (σ : Sg) (h : Hh) : R (Option D) := if k then lcS2 (a σ h) else .ok none h
@[simp] theorem lcS1_t : lcS1 true a σ h = lcS2 (a σ h) := (rfl)
@[simp] theorem lcS1_f : lcS1 false a σ h = .ok none h := (rfl)
def lcS0 (r : R Bool) (a : TM) (σ : Sg) : R (Option D) := r.bind fun k h => lcS1 k a σ h
@[simp] theorem lcS0_ok {k : Bool} : lcS0 (.ok k h) a σ = lcS1 k a σ h := (rfl)
@[simp] theorem lcStep1_ok : lcStep1 (some σ) a p h = lcS0 (p σ h) a σ := (rfl)
@[simp] theorem lcStep_eq {g : G} {own : List Nat} : lcStep a g p own σ d h = lcStep1 (bindG (wipe σ own) g d) a p h := by
  unfold lcStep lcStep1
  cases bindG (wipe σ own) g d <;> rfl
@[simp] theorem wipe_nil : wipe σ [] = σ := (rfl)
@[simp] theorem wipe_cons {v : Nat} {vs : List Nat} : wipe σ (v :: vs) = (wipe σ vs).set v none := (rfl)
def lcK (step : D → Hh → R (Option D)) (xs acc : List D) (r : R (Option D)) : R (List D) := r.bind fun o h => match o with
  | none => lcL step xs acc h
  | some d => if acc.length < line then lcL step xs (acc ++ [d]) h else .bad
@[simp] theorem lcK_none {step : D → Hh → R (Option D)} {xs acc : List D} : lcK step xs acc (.ok none h) = lcL step xs acc h := (rfl)
@[simp] theorem lcK_some {step : D → Hh → R (Option D)} {xs acc : List D} : lcK step xs acc (.ok (some d) h) = if acc.length < line then lcL step xs (acc ++ [d]) h else .bad := (rfl)
@[simp] theorem lcL_nil {step : D → Hh → R (Option D)} {acc : List D} : lcL step [] acc h = .ok acc h := (rfl)
theorem lcL_cons {step : D → Hh → R (Option D)} {y : D} {xs acc : List D} : lcL step (y :: xs) acc h = lcK step xs acc (step y h) := (rfl)
@[simp] theorem line_eq : line = 16777216 := by decide
@[simp] theorem lim_eq : lim = 4611686018427387904 := by decide
@[simp] theorem big_eq : big = 18446744073709551616 := by decide
@[simp] theorem sget_z {o : Option D} : sget (o :: σ) 0 = o := by cases o <;> rfl
@[simp] theorem sget_s {o : Option D} {i : Nat} : sget (o :: σ) (i + 1) = sget σ i := (rfl)
@[simp] theorem asSeq_tup : asSeq h (.tup ds) = some ds := (rfl)
@[simp] theorem asSeq_lst : asSeq h (.lst ds) = some ds := (rfl)
@[simp] theorem asSeq_roi {is : List Int} : asSeq h (.roi is) = some (is.map .int) := (rfl)
@[simp] theorem asSeq_ref {n : Nat} (e : h[n]? = some (.lst ds)) : asSeq h (.ref n) = some ds := by simp [asSeq, e]
@[simp] theorem asLst_lst : asLst h (.lst ds) = some ds := (rfl)
@[simp] theorem asLst_ref {n : Nat} (e : h[n]? = some (.lst ds)) : asLst h (.ref n) = some ds := by simp [asLst, e]
@[simp] theorem asDct_dct {kvs : List (K1 × D)} : asDct h (.dct kvs) = some kvs := (rfl)
@[simp] theorem asDct_ref {n : Nat} {kvs : List (K1 × D)} (e : h[n]? = some (.dct kvs)) : asDct h (.ref n) = some kvs := by simp [asDct, e]
@[simp] theorem asDct_tup : asDct h (.tup ds) = none := (rfl)
@[simp] theorem asDct_lst : asDct h (.lst ds) = none := (rfl)
@[simp] theorem asDct_str {s : Tx} : asDct h (.str s) = none := (rfl)
@[simp] theorem asDct_refl {n : Nat} (e : h[n]? = some (.lst ds)) : asDct h (.ref n) = none := by simp [asDct, e]
@[simp] theorem bin_add {i j : Int} : binop h .add (.int i) (.int j) = some (.int (i + j)) := (rfl)
@[simp] theorem bin_sub {i j : Int} : binop h .sub (.int i) (.int j) = some (.int (i - j)) := (rfl)
@[simp] theorem bin_mul {i j : Int} : binop h .mul (.int i) (.int j) = if (-big < i ∧ i < big) ∨ (-big < j ∧ j < big) then some (.int (i * j)) else none := (rfl)
@[simp] theorem bin_fdiv {i j : Int} : binop h .fdiv (.int i) (.int j) = if 0 < j ∧ j < 1073741824 then some (.int (i / j)) else none := (rfl)
@[simp] theorem bin_mod {i j : Int} : binop h .mod (.int i) (.int j) = if 0 < j then some (.int (i % j)) else none := (rfl)
@[simp] theorem bin_pow {i j : Int} : binop h .pow (.int i) (.int j) = if 0 ≤ j ∧ j ≤ 1000000 ∧ i.natAbs < 18446744073709551616 then some (.int (i ^ j.toNat)) else none := (rfl)
theorem p6 : (10 : Int) ^ (6 : Int).toNat = 1000000 := by decide
theorem p18 : (10 : Int) ^ (18 : Int).toNat = 1000000000000000000 := by decide
theorem p30 : (10 : Int) ^ (30 : Int).toNat = 1000000000000000000000000000000 := by decide
@[simp high] theorem bin_pow6 : binop h .pow (.int 10) (.int 6) = some (.int 1000000) := by rw [bin_pow, if_pos (by decide), p6]
@[simp high] theorem bin_pow18 : binop h .pow (.int 10) (.int 18) = some (.int 1000000000000000000) := by rw [bin_pow, if_pos (by decide), p18]
@[simp high] theorem bin_pow30 : binop h .pow (.int 10) (.int 30) = some (.int 1000000000000000000000000000000) := by rw [bin_pow, if_pos (by decide), p30]
@[simp] theorem bin_adds {u v : Tx} : binop h .add (.str u) (.str v) = if u.length + v.length ≤ line then some (.str (u ++ v)) else none := (rfl)
@[simp] theorem bin_addt : binop h .add (.tup ds) (.tup es) = if ds.length + es.length ≤ line then some (.tup (ds ++ es)) else none := (rfl)
@[simp] theorem bin_addl : binop h .add (.lst ds) (.lst es) = if ds.length + es.length ≤ line then some (.lst (ds ++ es)) else none := by simp [binop]
@[simp] theorem cmp_eq : cmpop h .eq d e = eqD h d e := by cases d <;> cases e <;> rfl
@[simp] theorem cmp_ne : cmpop h .ne d e = (eqD h d e).map (!·) := by cases d <;> cases e <;> rfl
@[simp] theorem cmp_lt {i j : Int} : cmpop h .lt (.int i) (.int j) = some (decide (i < j)) := (rfl)
@[simp] theorem cmp_le {i j : Int} : cmpop h .le (.int i) (.int j) = some (decide (i ≤ j)) := (rfl)
@[simp] theorem cmp_gt {i j : Int} : cmpop h .gt (.int i) (.int j) = some (decide (j < i)) := (rfl)
@[simp] theorem cmp_ge {i j : Int} : cmpop h .ge (.int i) (.int j) = some (decide (j ≤ i)) := (rfl)
@[simp] theorem cmp_lts {u v : Tx} : cmpop h .lt (.str u) (.str v) = some (decide (u < v)) := (rfl)
@[simp] theorem cmp_les {u v : Tx} : cmpop h .le (.str u) (.str v) = some (!decide (v < u)) := (rfl)
@[simp] theorem cmp_isN : cmpop h .is_ d .non = some d.isNon := by cases d <;> rfl
@[simp] theorem cmp_isntN : cmpop h .isnt d .non = some (!d.isNon) := by cases d <;> rfl
@[simp] theorem isNon_non : D.non.isNon = true := (rfl)
@[simp] theorem isNon_tup : (D.tup ds).isNon = false := (rfl)
@[simp] theorem isNon_int {i : Int} : (D.int i).isNon = false := (rfl)
@[simp] theorem isNon_str {s : Tx} : (D.str s).isNon = false := (rfl)
@[simp] theorem isNon_bl {k : Bool} : (D.bl k).isNon = false := (rfl)
@[simp] theorem isNon_lst : (D.lst ds).isNon = false := (rfl)
@[simp] theorem cmp_inl : cmpop h .in_ d (.lst ds) = isMem h d (.lst ds) := by
  cases d with
  | str s => rcases s with _ | ⟨a, _ | ⟨b, s⟩⟩ <;> rfl
  | _ => rfl
@[simp] theorem cmp_int : cmpop h .in_ d (.tup ds) = isMem h d (.tup ds) := by
  cases d with
  | str s => rcases s with _ | ⟨a, _ | ⟨b, s⟩⟩ <;> rfl
  | _ => rfl
@[simp] theorem cmp_inr {n : Nat} : cmpop h .in_ d (.ref n) = isMem h d (.ref n) := by
  cases d with
  | str s => rcases s with _ | ⟨a, _ | ⟨b, s⟩⟩ <;> rfl
  | _ => rfl
@[simp] theorem cmp_inc {c : Nat} {v : Tx} : cmpop h .in_ (.str [c]) (.str v) = some (decide (c ∈ v)) := (rfl)
@[simp] theorem cmp_ninc {c : Nat} {v : Tx} : cmpop h .notin (.str [c]) (.str v) = some (!decide (c ∈ v)) := (rfl)
@[simp] theorem eqv_str' {u v : Tx} : (D.str u).eqv (.str v) = (u == v) := by rw [D.eqv]
@[simp] theorem eqv_int' {i j : Int} : (D.int i).eqv (.int j) = (i == j) := by rw [D.eqv]
@[simp] theorem eqv_bl' {i j : Bool} : (D.bl i).eqv (.bl j) = (i == j) := by rw [D.eqv]
@[simp] theorem eqv_non' : D.non.eqv .non = true := by rw [D.eqv]
@[simp] theorem eqv_tup' : (D.tup ds).eqv (.tup es) = eqvAll ds es := by rw [D.eqv]
@[simp] theorem eqv_lst' : (D.lst ds).eqv (.lst es) = eqvAll ds es := by rw [D.eqv]
@[simp] theorem cmp_ninl : cmpop h .notin d (.lst ds) = (isMem h d (.lst ds)).map (!·) := by
  cases d with
  | str s => rcases s with _ | ⟨a, _ | ⟨b, s⟩⟩ <;> rfl
  | _ => rfl
@[simp] theorem cmp_nint : cmpop h .notin d (.tup ds) = (isMem h d (.tup ds)).map (!·) := by
  cases d with
  | str s => rcases s with _ | ⟨a, _ | ⟨b, s⟩⟩ <;> rfl
  | _ => rfl
@[simp] theorem intV_bl {k : Bool} : intV h (.bl k) = some (.int (if k then 1 else 0)) := (rfl)
@[simp] theorem intV_int {i : Int} : intV h (.int i) = some (.int i) := (rfl)
@[simp] theorem strV_str {u : Tx} : strV h (.str u) = some (.str u) := (rfl)
@[simp] theorem eqD_tnil : eqD h (.tup ds) (.tup []) = some ds.isEmpty := by cases ds <;> simp [eqD, scalPair, scalar, seen, emptyPair, D.eqv, eqvAll]
@[simp] theorem eqD_lnil : eqD h (.lst ds) (.lst []) = some ds.isEmpty := by cases ds <;> simp [eqD, scalPair, scalar, seen, emptyPair, D.eqv, eqvAll]
@[simp] theorem eqD_rnil {n : Nat} (e : h[n]? = some (.lst ds)) : eqD h (.ref n) (.lst []) = some ds.isEmpty := by cases ds <;> simp [eqD, scalPair, scalar, seen, emptyPair, D.eqv, eqvAll, e]
@[simp] theorem eqD_int {i j : Int} : eqD h (.int i) (.int j) = some (decide (i = j)) := by simp [eqD, scalPair, scalar]; rfl
@[simp] theorem eqD_str {u v : Tx} : eqD h (.str u) (.str v) = some (decide (u = v)) := by simp [eqD, scalPair, scalar]; rw [Bool.eq_iff_iff]; simp
@[simp] theorem eqD_bl {i j : Bool} : eqD h (.bl i) (.bl j) = some (decide (i = j)) := by cases i <;> cases j <;> rfl
@[simp] theorem eqD_ni {i : Int} : eqD h .non (.int i) = some false := by simp [eqD, scalPair, scalar, D.eqv]
@[simp] theorem eqD_in {i : Int} : eqD h (.int i) .non = some false := by simp [eqD, scalPair, scalar, D.eqv]
@[simp] theorem index_tup {i : Int} : index h (.tup ds) (.int i) = (ixn ds.length i).bind fun j => ds[j]? := (rfl)
@[simp] theorem index_lst {i : Int} : index h (.lst ds) (.int i) = (ixn ds.length i).bind fun j => ds[j]? := (rfl)
theorem index_str {s : Tx} {i : Int} : index h (.str s) (.int i) = if s.length ≤ line then ((ixn s.length i).bind fun j => s[j]?).map fun c => .str [c] else none := (rfl)
@[simp] theorem index_roi {is : List Int} {i : Int} : index h (.roi is) (.int i) = (ixn is.length i).bind fun j => (is.map D.int)[j]? := by simp [index]
@[simp] theorem index_ref {n : Nat} {i : Int} (e : h[n]? = some (.lst ds)) : index h (.ref n) (.int i) = (ixn ds.length i).bind fun j => ds[j]? := by simp [index, asSeq, e]
@[simp] theorem walk_s {s : Tx} : walk .e [.str s] = some (s.map fun c => .str [c]) := (rfl)
@[simp] theorem walk_l : walk .e [.lst ds] = some ds := (rfl)
@[simp] theorem walk_t : walk .e [.tup ds] = some ds := (rfl)
@[simp] theorem walk_r {i : Int} : walk .range [.int i] = if -lim ≤ i ∧ i < lim then some (rangeD 0 i.toNat) else none := (rfl)
@[simp] theorem walk_r2 {i j : Int} : walk .range [.int i, .int j] = if -lim ≤ i ∧ i < lim ∧ -lim ≤ j ∧ j < lim then some (rangeD i (j - i).toNat) else none := (rfl)
@[simp] theorem walk_en : walk .enum [.lst ds] = some (enumD ds) := (rfl)
@[simp] theorem walk_zl : walk .zip [.lst ds, .lst es] = some (zipD ds es) := (rfl)
@[simp] theorem walk_zt : walk .zip [.tup ds, .tup es] = some (zipD ds es) := (rfl)
@[simp] theorem len_tup : lenD h (.tup ds) = some (.int ds.length) := (rfl)
@[simp] theorem len_lst : lenD h (.lst ds) = some (.int ds.length) := (rfl)
@[simp] theorem len_roi {is : List Int} : lenD h (.roi is) = some (.int is.length) := by simp [lenD]
@[simp] theorem len_ref {n : Nat} (e : h[n]? = some (.lst ds)) : lenD h (.ref n) = some (.int ds.length) := by simp [lenD, asSeq, e]
@[simp] theorem len_refd {n : Nat} {kvs : List (K1 × D)} (e : h[n]? = some (.dct kvs)) : lenD h (.ref n) = some (.int kvs.length) := by simp [lenD, asSeq, asDct, e]
@[simp] theorem setIx_lst {xs : List D} {n : Nat} {i : Int} (e : h[n]? = some (.lst xs)) : setIx h (.ref n) (.int i) d = (ixn xs.length i).map fun j => h.set n (.lst (xs.set j d)) := by simp [setIx, e]
@[simp] theorem setIx_dcts {kvs : List (K1 × D)} {n : Nat} {u : Tx} (e : h[n]? = some (.dct kvs)) : setIx h (.ref n) (.str u) d = if kvs.length < line then some (h.set n (.dct (put (.inr u) d kvs))) else none := by simp [setIx, e, key1]
@[simp] theorem setIx_dcti {kvs : List (K1 × D)} {n : Nat} {i : Int} (e : h[n]? = some (.dct kvs)) : setIx h (.ref n) (.int i) d = if kvs.length < line then some (h.set n (.dct (put (.inl i) d kvs))) else none := by simp [setIx, e, key1]
@[simp] theorem index_refds {kvs : List (K1 × D)} {n : Nat} {u : Tx} (e : h[n]? = some (.dct kvs)) : index h (.ref n) (.str u) = look (.inr u) kvs := by simp [index, asDct, e]
@[simp] theorem index_refdi {kvs : List (K1 × D)} {n : Nat} {i : Int} (e : h[n]? = some (.dct kvs)) : index h (.ref n) (.int i) = look (.inl i) kvs := by simp [index, asSeq, asDct, e]
@[simp] theorem intD_bl {k : Bool} : intD h (.bl k) = some (.int (if k then 1 else 0)) := (rfl)
@[simp] theorem intD_int {i : Int} : intD h (.int i) = some (.int i) := (rfl)
@[simp] theorem min_int {i j : Int} : minD h (.int i) (.int j) = some (.int (if j < i then j else i)) := (rfl)
@[simp] theorem max_int {i j : Int} : maxD h (.int i) (.int j) = some (.int (if j > i then j else i)) := (rfl)
@[simp] theorem app_ref {xs : List D} {n : Nat} (e : h[n]? = some (.lst xs)) : appD h (.ref n) d = if xs.length < line then some (.non, some (n, .lst (xs ++ [d]))) else none := by simp [appD, e]
@[simp] theorem isLst_ref {xs : List D} {n : Nat} (e : h[n]? = some (.lst xs)) : isLst h (.ref n) = true := by simp [isLst, asLst, e]
end Pl
end
section
namespace Pl
open Fw
mutual
theorem map_closed (g : Nat → Option D) : ∀ {d : D}, d.closed = true → d.map_ g = some d
  | .non, _ => rfl
  | .bl _, _ => rfl
  | .int _, _ => rfl
  | .str _, _ => rfl
  | .fn _, _ => rfl
  | .roi _, _ => rfl
  | .ref _, h => by simp [D.closed] at h
  | .tup xs, h => by
    simp only [D.closed] at h
    simp [D.map_, mapAll_closed g h]
  | .lst xs, h => by
    simp only [D.closed] at h
    simp [D.map_, mapAll_closed g h]
  | .dct xs, h => by
    simp only [D.closed] at h
    simp [D.map_, mapK_closed g h]
  | .obj c xs, h => by
    simp only [D.closed] at h
    simp [D.map_, mapF_closed g h]
theorem mapAll_closed (g : Nat → Option D) : ∀ {ds : List D}, closedAll ds = true → mapAll g ds = some ds
  | [], _ => rfl
  | x :: xs, h => by
    simp only [closedAll, Bool.and_eq_true] at h
    simp [mapAll, map_closed g h.1, mapAll_closed g h.2]
theorem mapK_closed (g : Nat → Option D) : ∀ {ds : List (K1 × D)}, closedK ds = true → mapK g ds = some ds
  | [], _ => rfl
  | x :: xs, h => by
    simp only [closedK, Bool.and_eq_true] at h
    simp [mapK, map_closed g h.1, mapK_closed g h.2]
theorem mapF_closed (g : Nat → Option D) : ∀ {ds : List (Nat × D)}, closedF ds = true → mapF g ds = some ds
  | [], _ => rfl
  | x :: xs, h => by
    simp only [closedF, Bool.and_eq_true] at h
    simp [mapF, map_closed g h.1, mapF_closed g h.2]
end
theorem lend_closed : ∀ {ds : List D} {k : Nat}, closedAll ds = true → lend k ds = some (ds, [])
  | [], _, _ => rfl
  | d :: ds, k, h => by
    simp only [closedAll, Bool.and_eq_true] at h
    have ih := lend_closed (k := k) h.2
    cases d <;> simp_all [lend, D.closed]
theorem lent_closed {ds : List D} {h : Hh} (c : closedAll ds = true) : lent ds h = some (ds, [], []) := by
  simp [lent, lend_closed c, lentO]
theorem tell_closed {h : Hh} {ns : List Nat} {d : D} (c : d.closed = true) : tell h ns d = some d := by
  cases d <;> first | (simp [D.closed] at c; done) | exact map_closed _ c
theorem own_closed {np N : Nat} {b : SM} {ds : List D} {h : Hh} (c : closedAll ds = true) (hl : ds.length = np) : own np N b ds h = back [] h (b (startD N ds) []) := by
  simp [own, hl, lent_closed c]
theorem back_rt {h hc : Hh} {d : D} (c : d.closed = true) : back [] h (.rt d hc) = .ok d h := by
  simp [back, tell_closed c, giveBack]
theorem back_nx {h hc : Hh} {σ : Sg} : back [] h (.nx σ hc) = .ok .non h := by
  simp [back, giveBack]
theorem lent_one {ds : List D} {h : Hh} {r : Nat} {o : O} (c : closedAll ds = true) (ho : h[r]? = some o) (co : o.closed = true) : lent (.ref r :: ds) h = some (.ref 0 :: ds, [r], [o]) := by
  simp [lent, lend, lend_closed c, lentO, ho, co]
theorem own_one {np N : Nat} {b : SM} {ds : List D} {h : Hh} {r : Nat} {o : O} (c : closedAll ds = true) (ho : h[r]? = some o) (co : o.closed = true) (hl : ds.length + 1 = np) :
    own np N b (.ref r :: ds) h = back [r] h (b (startD N (.ref 0 :: ds)) [o]) := by
  simp [own, hl, lent_one c ho co]
theorem frzO_closed {hc : Hh} {k : Nat} {o : O} (c : o.closed = true) : frzO hc k o = some o := by
  cases o <;> simp only [O.closed] at c
  · simp [frzO, mapAll_closed _ c]
  · simp [frzO, mapAll_closed _ c]
  · simp [frzO, mapK_closed _ c]
  · simp [frzO, mapF_closed _ c]
  all_goals (first | contradiction | cases c)
theorem back_rt1 {h hc : Hh} {d : D} {r : Nat} {o : O} (c : d.closed = true) (ho : hc[0]? = some o) (co : o.closed = true) : back [r] h (.rt d hc) = .ok d (h.set r o) := by
  simp [back, tell_closed c, giveBack, ho, frzO_closed co]
@[simp] theorem back_cl {h hc : Hh} {d : D} (c : d.closed = true) : back [] h (.rt d hc) = .ok d h := back_rt c
@[simp] theorem back_cl0 {h hc : Hh} {σ : Sg} : back [] h (.nx σ hc) = .ok .non h := back_nx
@[simp] theorem back_cl1 {h hc : Hh} {d : D} {r : Nat} {o : O} (c : d.closed = true) (co : o.closed = true) : back [r] h (.rt d (o :: hc)) = .ok d (h.set r o) := back_rt1 c rfl co
@[simp] theorem back_cl1n {h hc : Hh} {r : Nat} {o : O} {σ : Sg} (co : o.closed = true) : back [r] h (.nx σ (o :: hc)) = .ok .non (h.set r o) := by
  simp [back, giveBack, frzO_closed co]
@[simp] theorem cl_int {i : Int} : (D.int i).closed = true := by simp [D.closed]
@[simp] theorem cl_bl {i : Bool} : (D.bl i).closed = true := by simp [D.closed]
@[simp] theorem cl_str {i : Tx} : (D.str i).closed = true := by simp [D.closed]
@[simp] theorem cl_non : D.non.closed = true := by simp [D.closed]
@[simp] theorem cl_roi {i : List Int} : (D.roi i).closed = true := by simp [D.closed]
@[simp] theorem cl_tup {ds : List D} : (D.tup ds).closed = closedAll ds := by rw [D.closed]
@[simp] theorem cl_lst {ds : List D} : (D.lst ds).closed = closedAll ds := by rw [D.closed]
@[simp] theorem cl_dct {ds : List (K1 × D)} : (D.dct ds).closed = closedK ds := by rw [D.closed]
@[simp] theorem cl_nil : closedAll [] = true := by simp [closedAll]
@[simp] theorem cl_cons {d : D} {ds : List D} : closedAll (d :: ds) = (d.closed && closedAll ds) := by rw [closedAll]
@[simp] theorem cl_knil : closedK [] = true := by simp [closedK]
@[simp] theorem cl_kcons {d : K1 × D} {ds : List (K1 × D)} : closedK (d :: ds) = (d.2.closed && closedK ds) := by rw [closedK]
@[simp] theorem clo_lst {ds : List D} : (O.lst ds).closed = closedAll ds := by simp [O.closed]
@[simp] theorem clo_ro {ds : List D} : (O.ro ds).closed = closedAll ds := by simp [O.closed]
@[simp] theorem clo_dct {ds : List (K1 × D)} : (O.dct ds).closed = closedK ds := by simp [O.closed]
@[simp] theorem clo_ins {c : Nat} {ds : List (Nat × D)} : (O.ins c ds).closed = closedF ds := by simp [O.closed]
@[simp] theorem cl_app {ds es : List D} : closedAll (ds ++ es) = (closedAll ds && closedAll es) := by
  induction ds with
  | nil => simp
  | cons d ds ih => simp [ih, Bool.and_assoc]
end Pl
end
section
namespace Pl
open Fw
theorem lc_map {f : D → D} {step : D → Hh → R (Option D)} {h : Hh} : ∀ {xs acc : List D}, (∀ x ∈ xs, step x h = .ok (some (f x)) h) → acc.length + xs.length ≤ line → lcL step xs acc h = .ok (acc ++ xs.map f) h := by
  intro xs
  induction xs with
  | nil => intro acc _ _; simp
  | cons x xs ih =>
    intro acc hs hl
    simp only [List.length_cons] at hl
    rw [lcL_cons, hs x List.mem_cons_self, lcK_some, if_pos (by omega), ih (fun y hy => hs y (List.mem_cons_of_mem _ hy)) (by simp only [List.length_append, List.length_cons, List.length_nil]; omega)]
    simp
theorem for_invL {body : D → Sg → Hh → SR} {I : List D → Sg → Hh → Prop} (hs : ∀ x xs σ h, I (x :: xs) σ h → ∃ σ' h', body x σ h = .nx σ' h' ∧ I xs σ' h') :
    ∀ (xs : List D) (σ : Sg) (h : Hh), I xs σ h → ∃ σ' h', forL body xs σ h = .nx σ' h' ∧ I [] σ' h' := by
  intro xs
  induction xs with
  | nil => intro σ h i; exact ⟨σ, h, rfl, i⟩
  | cons x xs ih =>
    intro σ h i
    obtain ⟨σ1, h1, e, i1⟩ := hs x xs σ h i
    obtain ⟨σ2, h2, e2, i2⟩ := ih σ1 h1 i1
    exact ⟨σ2, h2, by rw [forL_cons, e, forK_nx, e2], i2⟩
theorem lc_mapR {step : D → Hh → R (Option D)} {xs acc : List D} {h : Hh} {r : R (List D)} (hR : lcL step xs acc h = r) (f : D → D) (hs : ∀ x ∈ xs, step x h = .ok (some (f x)) h) (hl : acc.length + xs.length ≤ line) : r = .ok (acc ++ xs.map f) h := hR.symm.trans (lc_map hs hl)
theorem for_invLR {body : D → Sg → Hh → SR} {xs : List D} {σ : Sg} {h : Hh} {r : SR} (hR : forL body xs σ h = r) (I : List D → Sg → Hh → Prop) (hs : ∀ x xs σ h, I (x :: xs) σ h → ∃ σ' h', body x σ h = .nx σ' h' ∧ I xs σ' h') (i : I xs σ h) :
    ∃ σ' h', r = .nx σ' h' ∧ I [] σ' h' := by
  subst hR
  exact for_invL hs xs σ h i
@[simp] theorem len_rangeD (a : Int) (n : Nat) : (rangeD a n).length = n := by simp [rangeD]
theorem emod_lt (a : Int) {m : Int} (h : 0 < m) : a % m < m := Int.emod_lt_of_pos a h
theorem emod_ge (a : Int) {m : Int} (h : 0 < m) : 0 ≤ a % m := Int.emod_nonneg a (by omega)
theorem ix_str {s : Tx} {x : Int} (h : Hh) (hl : s.length ≤ line) (h0 : 0 ≤ x) (h1 : x < s.length) : ∃ c, c ∈ s ∧ index h (.str s) (.int x) = some (.str [c]) := by
  refine ⟨s[x.toNat]'(by omega), List.getElem_mem _, ?_⟩
  rw [index_str, if_pos hl]
  simp only [ixn, h0, h1, if_true, Option.bind_some]
  rw [List.getElem?_eq_getElem (by omega)]
  rfl
@[simp] theorem app_get0 {α : Type} (h t : List α) (o : α) : (h ++ o :: t)[h.length]? = some o := by simp
@[simp] theorem app_get1 {α : Type} (h t : List α) (a o : α) : (h ++ a :: o :: t)[h.length + 1]? = some o := by
  rw [List.getElem?_append_right (by omega)]
  simp
@[simp] theorem app_get2 {α : Type} (h t : List α) (a b o : α) : (h ++ a :: b :: o :: t)[h.length + 2]? = some o := by
  rw [List.getElem?_append_right (by omega)]
  simp
@[simp] theorem app_set0 {α : Type} (h t : List α) (o x : α) : (h ++ o :: t).set h.length x = h ++ x :: t := by simp
@[simp] theorem app_set1 {α : Type} (h t : List α) (a o x : α) : (h ++ a :: o :: t).set (h.length + 1) x = h ++ a :: x :: t := by
  rw [List.set_append_right _ _ (by omega)]
  simp
@[simp] theorem app_set2 {α : Type} (h t : List α) (a b o x : α) : (h ++ a :: b :: o :: t).set (h.length + 2) x = h ++ a :: b :: x :: t := by
  rw [List.set_append_right _ _ (by omega)]
  simp
end Pl
end
section
namespace Pl
open Fw
abbrev wTo : Tx := [116, 111]
abbrev wRow : Tx := [114, 111, 119]
abbrev wTable : Tx := [116, 97, 98, 108, 101]
abbrev wStream : Tx := [115, 116, 114, 101, 97, 109]
abbrev wName : Tx := [110, 97, 109, 101]
inductive Vl where
  | non
  | int (i : Int)
  | str (s : Tx)
  | name (s : Tx)
  | to (k e : Int)
  | row (vs : List Vl)
  | table (es : List (Tx × Vl))
  | stream (es : List (Tx × Vl)) (s : Tx)
mutual
def Vl.d : Vl → D
  | .non => .non
  | .int i => .int i
  | .str s => .str s
  | .name s => .tup [.str wName, .str s]
  | .to k e => .tup [.str wTo, .int k, .int e]
  | .row vs => .tup [.str wRow, .tup (dAll vs)]
  | .table es => .tup [.str wTable, .tup (dEnt es)]
  | .stream es s => .tup [.str wStream, .tup (dEnt es), .str s]
def dAll : List Vl → List D
  | [] => []
  | v :: vs => v.d :: dAll vs
def dEnt : List (Tx × Vl) → List D
  | [] => []
  | e :: es => .tup [.str e.1, e.2.d] :: dEnt es
end
mutual
def Vl.refs : Vl → List (Int × Int)
  | .to k e => [(k, e)]
  | .row vs => refsAll vs
  | .table es => refsEnt es
  | .stream es _ => refsEnt es
  | _ => []
def refsAll : List Vl → List (Int × Int)
  | [] => []
  | v :: vs => v.refs ++ refsAll vs
def refsEnt : List (Tx × Vl) → List (Int × Int)
  | [] => []
  | e :: es => e.2.refs ++ refsEnt es
end
mutual
def Vl.deep : Vl → Nat
  | .row vs => deepAll vs + 1
  | .table es => deepEnt es + 1
  | .stream es _ => deepEnt es + 1
  | _ => 1
def deepAll : List Vl → Nat
  | [] => 0
  | v :: vs => max v.deep (deepAll vs)
def deepEnt : List (Tx × Vl) → Nat
  | [] => 0
  | e :: es => max e.2.deep (deepEnt es)
end
mutual
theorem Vl.closed : ∀ v : Vl, v.d.closed = true
  | .non => rfl
  | .int _ => rfl
  | .str _ => rfl
  | .name _ => rfl
  | .to _ _ => rfl
  | .row vs => by simp [Vl.d, D.closed, closedAll, dAll_closed vs]
  | .table es => by simp [Vl.d, D.closed, closedAll, dEnt_closed es]
  | .stream es _ => by simp [Vl.d, D.closed, closedAll, dEnt_closed es]
theorem dAll_closed : ∀ vs : List Vl, closedAll (dAll vs) = true
  | [] => rfl
  | v :: vs => by simp [dAll, closedAll, Vl.closed v, dAll_closed vs]
theorem dEnt_closed : ∀ es : List (Tx × Vl), closedAll (dEnt es) = true
  | [] => rfl
  | e :: es => by simp [dEnt, closedAll, D.closed, Vl.closed e.2, dEnt_closed es]
end
mutual
def Vl.sz : Vl → Nat
  | .row vs => szAll vs + 1
  | .table es => szEnt es + 1
  | .stream es _ => szEnt es + 1
  | _ => 1
def szAll : List Vl → Nat
  | [] => 0
  | v :: vs => v.sz + szAll vs
def szEnt : List (Tx × Vl) → Nat
  | [] => 0
  | e :: es => e.2.sz + szEnt es
end
@[simp] theorem vcl (v : Vl) : v.d.closed = true := v.closed
@[simp] theorem vcla (vs : List Vl) : closedAll (dAll vs) = true := dAll_closed vs
@[simp] theorem vcle (es : List (Tx × Vl)) : closedAll (dEnt es) = true := dEnt_closed es
def letter (c : Nat) : Prop := 97 ≤ c ∧ c ≤ 122
def WordOk (s : Tx) : Prop := 1 ≤ s.length ∧ s.length ≤ 8 ∧ ∀ c ∈ s, letter c
def signOk (c : Nat) : Prop := 32 ≤ c ∧ c ≤ 126
def rises (ws : List Tx) : Prop := ws.Pairwise (· < ·)
mutual
def Vl.pl : Vl → Prop
  | .non => True
  | .int i => -1000000000000000000000000000000 < i ∧ i < 1000000000000000000000000000000
  | .str s => s.length ≤ 200 ∧ ∀ c ∈ s, signOk c
  | .name s => WordOk s
  | .to k e => 1 ≤ k ∧ k ≤ 200 ∧ 0 ≤ e ∧ e ≤ 99
  | .row vs => vs.length ≤ 60 ∧ plAll vs
  | .table es => es.length ≤ 30 ∧ rises (es.map (·.1)) ∧ plEnt es
  | .stream _ _ => False
def plAll : List Vl → Prop
  | [] => True
  | v :: vs => v.pl ∧ plAll vs
def plEnt : List (Tx × Vl) → Prop
  | [] => True
  | e :: es => WordOk e.1 ∧ e.2.pl ∧ plEnt es
end
def Vl.ok : Vl → Prop
  | .stream es s => es.length ≤ 30 ∧ rises (es.map (·.1)) ∧ plEnt es ∧ s.length ≤ 2000 ∧ ∀ c ∈ s, signOk c ∨ c = 10
  | v => v.pl
end Pl
end
section
namespace Pl
open Fw
end Pl
end
section
namespace Pl
open Fw
mutual
def D.pure : D → Bool
  | .obj _ _ => false
  | .fn _ => false
  | .ref _ => false
  | .roi _ => false
  | .tup xs => pureAll xs
  | .lst xs => pureAll xs
  | .dct kvs => pureK kvs
  | _ => true
def pureAll : List D → Bool
  | [] => true
  | x :: xs => D.pure x && pureAll xs
def pureK : List (K1 × D) → Bool
  | [] => true
  | x :: xs => D.pure x.2 && pureK xs
end
@[simp] theorem pure_tup {ds : List D} : D.pure (.tup ds) = pureAll ds := by rw [D.pure]
@[simp] theorem pure_lst {ds : List D} : D.pure (.lst ds) = pureAll ds := by rw [D.pure]
@[simp] theorem pure_dct {ds : List (K1 × D)} : D.pure (.dct ds) = pureK ds := by rw [D.pure]
@[simp] theorem pure_non : D.pure .non = true := by simp [D.pure]
@[simp] theorem pure_int {i : Int} : D.pure (.int i) = true := by simp [D.pure]
@[simp] theorem pure_bl {i : Bool} : D.pure (.bl i) = true := by simp [D.pure]
@[simp] theorem pure_str {i : Tx} : D.pure (.str i) = true := by simp [D.pure]
@[simp] theorem pureA_nil : pureAll [] = true := by simp [pureAll]
@[simp] theorem pureA_cons {d : D} {ds : List D} : pureAll (d :: ds) = (D.pure d && pureAll ds) := by rw [pureAll]
@[simp] theorem pureA_app {ds es : List D} : pureAll (ds ++ es) = (pureAll ds && pureAll es) := by
  induction ds with
  | nil => simp
  | cons d ds ih => simp [ih, Bool.and_assoc]
mutual
@[simp] theorem Vl.dpure : ∀ v : Vl, D.pure v.d = true
  | .non => rfl
  | .int _ => rfl
  | .str _ => rfl
  | .name _ => rfl
  | .to _ _ => rfl
  | .row vs => by simp [Vl.d, dAll_pure vs]
  | .table es => by simp [Vl.d, dEnt_pure es]
  | .stream es _ => by simp [Vl.d, dEnt_pure es]
@[simp] theorem dAll_pure : ∀ vs : List Vl, pureAll (dAll vs) = true
  | [] => rfl
  | v :: vs => by simp [dAll, Vl.dpure v, dAll_pure vs]
@[simp] theorem dEnt_pure : ∀ es : List (Tx × Vl), pureAll (dEnt es) = true
  | [] => rfl
  | e :: es => by simp [dEnt, Vl.dpure e.2, dEnt_pure es]
end
end Pl
end
section
namespace Lw
open Fw Pl
def RoomOk (o : O) : Prop := ∃ a b : Int, o = .lst [.int a, .int b] ∧ 0 ≤ b ∧ b < 2147483648
theorem RoomOk.closed {o : O} (h : RoomOk o) : o.closed = true := by
  obtain ⟨a, b, rfl, _⟩ := h
  rfl
theorem emod_lt (a : Int) {m : Int} (h : 0 < m) : a % m < m := Int.emod_lt_of_pos a h
theorem emod_ge (a : Int) {m : Int} (h : 0 < m) : 0 ≤ a % m := Int.emod_nonneg a (by omega)
theorem r_take (F n : Nat) {h : Hh} {r : Nat} {o : O} {m : Int} (hr : h[r]? = some o) (ho : RoomOk o) (h0 : 0 < m) (h1 : m < 1073741824) :
    ∃ x o', RoomOk o' ∧ 0 ≤ x ∧ x < m ∧ run F (n + 1) ix__law_take [.ref r, .int m] h = .ok (.int x) (h.set r o') := by
  rw [run__law_take, own_one (np := 2) (by simp [closedAll, D.closed]) hr ho.closed rfl]
  obtain ⟨a, b, rfl, hb, hb'⟩ := ho
  simp [b__law_take, startD, ixn]
  by_cases ha : 0 < a
  · simp [ha, h0, h1, ixn]
    exact ⟨_, _, ⟨_, _, rfl, hb, hb'⟩, emod_ge _ h0, emod_lt _ h0, rfl, rfl⟩
  · simp [ha]
    have q : ∀ b : Int, -18446744073709551616 < (b * 48271 + 11) % 2147483647 ∧ (b * 48271 + 11) % 2147483647 < 18446744073709551616 := by intro b; omega
    have q1 : ∀ b : Int, 0 ≤ (b * 48271 + 11) % 2147483647 ∧ (b * 48271 + 11) % 2147483647 < 2147483648 := by intro b; omega
    simp [h0, h1, q, ixn]
    exact ⟨_, _, ⟨_, _, rfl, (q1 _).1, (q1 _).2⟩, emod_ge _ h0, emod_lt _ h0, rfl, rfl⟩
theorem r_pool (F n : Nat) (ns : List Int) (k : Nat) (h : Hh) (hk : k ≤ 63) : ∃ o, RoomOk o ∧ run F (n + 1) ix__law_pool [.roi ns, .int k] h = .ok (.ref h.length) (h ++ [o]) := by
  rw [run__law_pool]
  have q1 : ∀ b : Int, 0 ≤ b % 2147483587 + 1 ∧ b % 2147483587 + 1 < 2147483648 := by intro b; omega
  have q2 : ∀ b : Int, -18446744073709551616 < b % 2147483647 ∧ b % 2147483647 < 18446744073709551616 := by intro b; omega
  have hk1 : (-18446744073709551616 : Int) < 7919 * k ∧ (7919 * k : Int) < 18446744073709551616 := by omega
  have hk2 : (-18446744073709551616 : Int) < k ∧ (k : Int) < 18446744073709551616 := by omega
  simp [full, b__law_pool, startD]
  by_cases c : k < ns.length
  · have hi : (ns.map D.int)[k]? = some (.int ns[k]) := by simp [List.getElem?_eq_getElem c]
    by_cases c2 : ns[k] < 1000000000000000000
    · simp [c, ixn, c2, SR.out, hk1, hk2, q2]
      exact ⟨_, _, rfl, (q1 _).1, (q1 _).2⟩
    · simp [c, ixn, c2, SR.out, hk1, hk2, q2]
      exact ⟨_, _, rfl, (q1 _).1, (q1 _).2⟩
  · simp [c, SR.out, hk1, hk2, q2]
    exact ⟨_, _, rfl, (q1 _).1, (q1 _).2⟩
end Lw
end
section
namespace Lw
open Fw Pl PySem
theorem int_fine {i : Int} (h1 : -1000000000000000000000000000000 < i) (h2 : i < 1000000000000000000000000000000) : (D.int i).neat = true ∧ ((D.int i).dat).leavesShort 31 = true := by
  have h3 : i.natAbs < 10 ^ 30 := by
    have : (10 : Nat) ^ 30 = 1000000000000000000000000000000 := by decide
    rw [this]
    omega
  constructor
  · simp only [D.neat, decide_eq_true_eq]
    have h4 : i.natAbs < 2 ^ 1920 := Nat.lt_of_lt_of_le h3 (Nat.le_trans (show (10 : Nat) ^ 30 ≤ 2 ^ 100 by decide) (Nat.pow_le_pow_right (by decide) (by decide)))
    by_cases h0 : i.natAbs = 0
    · rw [h0]; decide
    · exact (Nat.log2_lt h0).mpr h4
  · simp only [D.dat, PyData.leavesShort, decide_eq_true_eq]
    have e := int_text_length_le10 (k := 30) (by decide) h3
    show (Str.ofString (toString i)).length ≤ 31
    rw [ofString_length]
    omega
theorem str_fine {s : Tx} (h : ∀ c ∈ s, c < 1000) : ((D.str s).dat).leavesShort 31 = true := by
  simp only [D.dat, PyData.leavesShort]
  simp
  intro c hc
  have := h c hc
  omega
structure RF (d : D) (b k : Nat) : Prop where
  ne : d.neat = true
  lv : d.dat.leavesShort 31 = true
  dp : d.dat.depth ≤ k
  bu : d.dat.bulk ≤ b
structure RFs (ds : List D) (b k : Nat) : Prop where
  ne : neatAll ds = true
  lv : PyData.leavesShortAll 31 (datAll ds) = true
  dp : PyData.depthAll (datAll ds) ≤ k
  bu : PyData.bulkAll (datAll ds) ≤ b
theorem RFs.nil {k : Nat} : RFs [] 0 k := ⟨rfl, rfl, by simp [datAll, PyData.depthAll], Nat.le_refl _⟩
theorem RFs.cons {d : D} {ds : List D} {a b k : Nat} (h1 : RF d a k) (h2 : RFs ds b k) : RFs (d :: ds) (a + 1 + b) k := by
  refine ⟨?_, ?_, ?_, ?_⟩
  · simp only [neatAll, h1.ne, h2.ne, Bool.and_self]
  · simp only [datAll, PyData.leavesShortAll, h1.lv, h2.lv, Bool.and_self]
  · have := h1.dp
    have := h2.dp
    simp only [datAll, PyData.depthAll]
    omega
  · have := h1.bu
    have := h2.bu
    simp only [datAll, PyData.bulkAll]
    omega
theorem RF.tup {ds : List D} {b k : Nat} (h : RFs ds b k) : RF (.tup ds) b (k + 1) := by
  refine ⟨?_, ?_, ?_, ?_⟩
  · simp only [D.neat, h.ne]
  · simp only [D.dat, PyData.leavesShort, h.lv]
  · have := h.dp
    simp only [D.dat, PyData.depth]
    omega
  · have := h.bu
    simp only [D.dat, PyData.bulk]
    omega
theorem RF.lst {ds : List D} {b k : Nat} (h : RFs ds b k) : RF (.lst ds) b (k + 1) := by
  refine ⟨?_, ?_, ?_, ?_⟩
  · simp only [D.neat, h.ne]
  · simp only [D.dat, PyData.leavesShort, h.lv]
  · have := h.dp
    simp only [D.dat, PyData.depth]
    omega
  · have := h.bu
    simp only [D.dat, PyData.bulk]
    omega
theorem RF.int {i : Int} {k : Nat} (h1 : -1000000000000000000000000000000 < i) (h2 : i < 1000000000000000000000000000000) (hk : 1 ≤ k) : RF (.int i) 0 k := by
  have := int_fine h1 h2
  refine ⟨this.1, this.2, ?_, by simp [D.dat, PyData.bulk]⟩
  simp [D.dat, PyData.depth]
  try omega
theorem RF.non {k : Nat} (hk : 1 ≤ k) : RF .non 0 k := ⟨rfl, rfl, by simp [D.dat, PyData.depth]; try omega, by simp [D.dat, PyData.bulk]⟩
theorem RF.bl {b : Bool} {k : Nat} (hk : 1 ≤ k) : RF (.bl b) 0 k := ⟨rfl, rfl, by simp [D.dat, PyData.depth]; try omega, by simp [D.dat, PyData.bulk]⟩
theorem RF.str {s : Tx} {b k : Nat} (h : ∀ c ∈ s, c < 1000) (hl : s.length ≤ b) (hk : 1 ≤ k) : RF (.str s) b k := ⟨rfl, str_fine h, by simp [D.dat, PyData.depth]; try omega, by simp [D.dat, PyData.bulk]; try omega⟩
theorem RF.up {d : D} {a b k : Nat} (h : RF d a k) (hb : a ≤ b) : RF d b k := ⟨h.ne, h.lv, h.dp, Nat.le_trans h.bu hb⟩
theorem RFs.up {d : List D} {a b k : Nat} (h : RFs d a k) (hb : a ≤ b) : RFs d b k := ⟨h.ne, h.lv, h.dp, Nat.le_trans h.bu hb⟩
theorem RFs.same {α : Type} {f : α → D} {b k : Nat} : ∀ {xs : List α}, (∀ x ∈ xs, RF (f x) b k) → RFs (xs.map f) (xs.length * (b + 1)) k
  | [], _ => RFs.nil.up (by simp)
  | x :: xs, h => by
    rw [List.map_cons]
    refine (RFs.cons (h x List.mem_cons_self) (RFs.same fun y hy => h y (List.mem_cons_of_mem _ hy))).up ?_
    simp only [List.length_cons, Nat.succ_mul]
    omega
theorem RF.repr {d : D} {b k : Nat} (h : RF d b k) (hk : k ≤ 170) (hb : b ≤ 508000) (hr : ∀ n, d ≠ .ref n) (hh : Hh) : reprV hh d = some (.str (reprT d)) := by
  have l1 : line = 16777216 := Pl.line_eq
  have q5 : (reprT d).length ≤ line := by
    have := PyData.shown_le_bulk 31 (by decide) _ h.lv
    have e1 : (reprT d).length = d.dat.shown.length := by simp [reprT, Str.length]
    have := h.bu
    rw [e1, l1]
    omega
  have e0 : ownV hh d = some d := by
    cases d <;> first | rfl | exact absurd rfl (hr _)
  simp only [reprV, e0, Option.bind_some]
  rw [if_pos ⟨h.ne, by have := h.dp; omega, q5⟩]
end Lw
end
section
namespace Lw
open Fw Pl PySem
section
variable {σ : Sg} {h : Hh} {a b : TM} {as : AM} {d : D} {ds : List D} {x : Exn} {c fk : Nat} {cs : List Nat} {tab : List (Nat × Bool)}
def kErr (c fk : Nat) (r : R D) : R D := r.bind fun d h => .ok (.obj c [(fk, d)]) h
@[simp] theorem kErr_eq : eErr c fk a σ h = kErr c fk (a σ h) := (rfl)
@[simp] theorem kErr_ok : kErr c fk (.ok d h) = .ok (.obj c [(fk, d)]) h := (rfl)
def kErr0 (c : Nat) (r : R D) : R D := r.bind fun _ h => .ok (.obj c []) h
@[simp] theorem kErr0_eq : eErr0 c a σ h = kErr0 c (a σ h) := (rfl)
@[simp] theorem kErr0_ok : kErr0 c (.ok d h) = .ok (.obj c []) h := (rfl)
def kErrK (c fk : Nat) (r : R (List D)) : R D := r.bind fun ds h => match ds with
  | [d] => .ok (.obj c [(fk, d)]) h
  | _ => .bad
@[simp] theorem kErrK_eq : eErrK c fk as σ h = kErrK c fk (as σ h) := (rfl)
@[simp] theorem kErrK_ok : kErrK c fk (.ok [d] h) = .ok (.obj c [(fk, d)]) h := (rfl)
def kIsE (tab : List (Nat × Bool)) (r : R D) : R D := r.bind fun d h => opt (isErrD tab d) h
@[simp] theorem kIsE_eq : eIsE tab a σ h = kIsE tab (a σ h) := (rfl)
@[simp] theorem kIsE_ok : kIsE tab (.ok d h) = opt (isErrD tab d) h := (rfl)
def kFldE (cs : List Nat) (fk : Nat) (r : R D) : R D := r.bind fun d h => opt (fldErrD cs fk d) h
@[simp] theorem kFldE_eq : eFldE cs fk a σ h = kFldE cs fk (a σ h) := (rfl)
@[simp] theorem kFldE_ok : kFldE cs fk (.ok d h) = opt (fldErrD cs fk d) h := (rfl)
end
def mk (x : D) : List D := [.obj 100 [(0, x)], .obj 101 [(0, x)], .obj 102 [(0, x)], .obj 103 [(0, x)], .obj 104 [(1, x)], .obj 105 [(1, x)], .obj 106 [(1, x)], .obj 107 [], .obj 108 [], .obj 109 [], .obj 110 [], .obj 111 [],
  .obj 112 [(1, x)], .obj 113 [(1, x)], .obj 114 [(1, x)], .obj 115 [(2, x)], .obj 116 [], .obj 117 [], .obj 118 [(3, x)]]
theorem mk_closed {x : D} (c : x.closed = true) : closedAll (mk x) = true := by simp [mk, closedAll, closedF, D.closed, c]
theorem r_made (F n : Nat) {x : D} (h : Hh) (c : x.closed = true) : run F (n + 1) ix__law_made [x] h = .ok (.lst (mk x)) h := by
  have l1 : line = 16777216 := Pl.line_eq
  rw [run__law_made, own_closed (np := 1) (by simp [closedAll, c]) rfl]
  have e : b__law_made (run F n) F (startD 2 [x]) [] = .rt (.lst (mk x)) [] := by
    simp [b__law_made, startD, binop, l1, mk]
  rw [e, back_rt (by simp [D.closed, mk_closed c])]
def reps (n : Nat) (x : D) : List D := List.replicate n x
theorem r_fields (F n : Nat) {x : D} (h : Hh) (c : x.closed = true) : run F (n + 1) ix__law_fields [.lst (mk x)] h = .ok (.lst (reps 12 x)) h := by
  have l1 : line = 16777216 := Pl.line_eq
  rw [run__law_fields, own_closed (np := 1) (by simp [closedAll, D.closed, mk_closed c]) rfl]
  have e : ∃ h', b__law_fields (run F n) F (startD 2 [.lst (mk x)]) [] = .rt (.lst (List.replicate 12 x)) h' := by
    simp [b__law_fields, startD, binop, l1, mk, index, ixn, fldErrD, appD, isLst]
  obtain ⟨h', e⟩ := e
  rw [e, back_rt (by simp [D.closed, closedAll, c])]
  rfl
theorem r_named (F n : Nat) {x : D} (h : Hh) (c : x.closed = true) : run F (n + 1) ix__law_named [x] h = .ok (.lst (reps 8 x)) h := by
  have l1 : line = 16777216 := Pl.line_eq
  rw [run__law_named, own_closed (np := 1) (by simp [closedAll, c]) rfl]
  have e : b__law_named (run F n) F (startD 2 [x]) [] = .rt (.lst (List.replicate 8 x)) [] := by
    simp [b__law_named, startD, binop, l1, fldErrD]
  rw [e, back_rt (by simp [D.closed, closedAll, c])]
  rfl
end Lw
end
section
namespace Lw
open Fw Pl PySem
def clsD (i : Nat) : List D := (List.range 19).map fun k => .bl (k == i)
def dueN (i : Nat) : List Nat := if i < 12 then [0, 1] else if i = 12 then [2] else if i < 15 then [2, 3] else if i = 15 then [2, 4] else if i = 18 then [6] else [5]
def basD (i : Nat) : List D := (List.range 7).map fun k => .bl ((dueN i).contains k)
theorem lt19 {P : Nat → Prop} (h : P 0 ∧ P 1 ∧ P 2 ∧ P 3 ∧ P 4 ∧ P 5 ∧ P 6 ∧ P 7 ∧ P 8 ∧ P 9 ∧ P 10 ∧ P 11 ∧ P 12 ∧ P 13 ∧ P 14 ∧ P 15 ∧ P 16 ∧ P 17 ∧ P 18) : ∀ i, i < 19 → P i := fun i hi => by
  obtain ⟨h0, h1, h2, h3, h4, h5, h6, h7, h8, h9, h10, h11, h12, h13, h14, h15, h16, h17, h18⟩ := h
  match i, hi with
  | 0, _ => exact h0
  | 1, _ => exact h1
  | 2, _ => exact h2
  | 3, _ => exact h3
  | 4, _ => exact h4
  | 5, _ => exact h5
  | 6, _ => exact h6
  | 7, _ => exact h7
  | 8, _ => exact h8
  | 9, _ => exact h9
  | 10, _ => exact h10
  | 11, _ => exact h11
  | 12, _ => exact h12
  | 13, _ => exact h13
  | 14, _ => exact h14
  | 15, _ => exact h15
  | 16, _ => exact h16
  | 17, _ => exact h17
  | 18, _ => exact h18
  | n + 19, h => exact absurd h (by omega)
theorem c_classes (c : Nat → List D → Hh → R D) (F : Nat) : ∀ i, i < 19 → ∀ fs, b__law_classes c F (startD 2 [.obj (100 + i) fs]) [] = .rt (.lst (clsD i)) [] := by
  refine lt19 ?_
  refine ⟨?_, ?_, ?_, ?_, ?_, ?_, ?_, ?_, ?_, ?_, ?_, ?_, ?_, ?_, ?_, ?_, ?_, ?_, ?_⟩ <;> exact fun fs => rfl
theorem c_bases (c : Nat → List D → Hh → R D) (F : Nat) : ∀ i, i < 19 → ∀ fs, b__law_bases c F (startD 2 [.obj (100 + i) fs]) [] = .rt (.lst (basD i)) [] := by
  refine lt19 ?_
  refine ⟨?_, ?_, ?_, ?_, ?_, ?_, ?_, ?_, ?_, ?_, ?_, ?_, ?_, ?_, ?_, ?_, ?_, ?_, ?_⟩ <;> exact fun fs => rfl
theorem c_due (c : Nat → List D → Hh → R D) (F : Nat) : ∀ i, i < 19 → ∃ h, b__law_due_bases c F (startD 3 [.int ((i : Nat) : Int)]) [] = .rt (.lst (basD i)) h := by
  refine lt19 ?_
  refine ⟨?_, ?_, ?_, ?_, ?_, ?_, ?_, ?_, ?_, ?_, ?_, ?_, ?_, ?_, ?_, ?_, ?_, ?_, ?_⟩ <;> exact ⟨_, rfl⟩
theorem bls_closed {α : Type} (f : α → Bool) : ∀ xs : List α, closedAll (xs.map fun x => .bl (f x)) = true
  | [] => rfl
  | x :: xs => by simp [closedAll, D.closed, bls_closed f xs]
theorem cl_cls (i : Nat) : (D.lst (clsD i)).closed = true := bls_closed (fun k => k == i) (List.range 19)
theorem cl_bas (i : Nat) : (D.lst (basD i)).closed = true := bls_closed (fun k => (dueN i).contains k) (List.range 7)
theorem r_classes (F n i : Nat) (hi : i < 19) (fs : List (Nat × D)) (h : Hh) (c : closedF fs = true) : run F (n + 1) ix__law_classes [.obj (100 + i) fs] h = .ok (.lst (clsD i)) h := by
  rw [run__law_classes, own_closed (np := 1) (by simp [closedAll, D.closed, c]) rfl, c_classes _ _ i hi, back_rt (cl_cls i)]
theorem r_bases (F n i : Nat) (hi : i < 19) (fs : List (Nat × D)) (h : Hh) (c : closedF fs = true) : run F (n + 1) ix__law_bases [.obj (100 + i) fs] h = .ok (.lst (basD i)) h := by
  rw [run__law_bases, own_closed (np := 1) (by simp [closedAll, D.closed, c]) rfl, c_bases _ _ i hi, back_rt (cl_bas i)]
theorem r_due (F n i : Nat) (hi : i < 19) (h : Hh) : run F (n + 1) ix__law_due_bases [.int (i : Int)] h = .ok (.lst (basD i)) h := by
  obtain ⟨h', e⟩ := c_due (run F n) F i hi
  rw [run__law_due_bases, own_closed (np := 1) (by simp [closedAll, D.closed]) rfl, e, back_rt (cl_bas i)]
theorem ne_cls : ∀ i, i < 19 → ∀ h, cmpop h .ne (.lst (clsD i)) (.lst (clsD i)) = some false := by
  refine lt19 ?_
  refine ⟨?_, ?_, ?_, ?_, ?_, ?_, ?_, ?_, ?_, ?_, ?_, ?_, ?_, ?_, ?_, ?_, ?_, ?_, ?_⟩ <;> exact fun h => rfl
theorem ne_bas : ∀ i, i < 19 → ∀ h, cmpop h .ne (.lst (basD i)) (.lst (basD i)) = some false := by
  refine lt19 ?_
  refine ⟨?_, ?_, ?_, ?_, ?_, ?_, ?_, ?_, ?_, ?_, ?_, ?_, ?_, ?_, ?_, ?_, ?_, ?_, ?_⟩ <;> exact fun h => rfl
end Lw
end
section
namespace Lw
open Fw Pl PySem
def tens : List D := [.int 0, .non, .str [97], .int (-1), .bl true, .tup [.int 1, .int 2], .int 100000000000000000000, .str [], .int 30001, .tup [.str [116, 111], .int 1, .int 0]]
theorem tens_ok : ∀ x ∈ tens, x.closed = true ∧ RF x 20 3 := by
  intro x hx
  simp only [tens, List.mem_cons, List.not_mem_nil, or_false] at hx
  have i : ∀ {i : Int}, -1000000000000000000000000000000 < i → i < 1000000000000000000000000000000 → RF (.int i) 20 3 := fun h1 h2 => (RF.int h1 h2 (by omega)).up (by omega)
  have i2 : ∀ {i : Int}, -1000000000000000000000000000000 < i → i < 1000000000000000000000000000000 → RF (.int i) 0 2 := fun h1 h2 => RF.int h1 h2 (by omega)
  rcases hx with rfl | rfl | rfl | rfl | rfl | rfl | rfl | rfl | rfl | rfl
  · exact ⟨rfl, i (by omega) (by omega)⟩
  · exact ⟨rfl, (RF.non (by omega)).up (by omega)⟩
  · exact ⟨rfl, RF.str (by simp) (by simp) (by omega)⟩
  · exact ⟨rfl, i (by omega) (by omega)⟩
  · exact ⟨rfl, (RF.bl (by omega)).up (by omega)⟩
  · exact ⟨rfl, (RF.tup (RFs.cons (i2 (by omega) (by omega)) (RFs.cons (i2 (by omega) (by omega)) RFs.nil))).up (by omega)⟩
  · exact ⟨rfl, i (by omega) (by omega)⟩
  · exact ⟨rfl, RF.str (by simp) (by simp) (by omega)⟩
  · exact ⟨rfl, i (by omega) (by omega)⟩
  · exact ⟨rfl, (RF.tup (RFs.cons (RF.str (b := 2) (by simp) (by simp) (by omega)) (RFs.cons (i2 (by omega) (by omega)) (RFs.cons (i2 (by omega) (by omega)) RFs.nil)))).up (by omega)⟩
theorem rep_ok {x : D} (hx : RF x 20 3) (n : Nat) (hn : n ≤ 12) (h : Hh) : reprV h (.lst (reps n x)) = some (.str (reprT (.lst (reps n x)))) := by
  unfold reps
  have e : RFs (List.replicate n x) (n * 21) 3 := by
    have := RFs.same (f := fun _ : Unit => x) (xs := List.replicate n ()) (fun _ _ => hx)
    simpa using this
  exact RF.repr (RF.lst (e.up (show n * 21 ≤ 1000 by omega))) (by omega) (by omega) (fun _ => by simp) h
theorem mulR {h : Hh} {x : D} {n : Nat} (hn : n ≤ 12) : binop h .mul (.lst [x]) (.int (n : Int)) = some (.lst (reps n x)) := by
  unfold reps
  show (if (0 : Int) ≤ (n : Int) ∧ (n : Int) ≤ 1000 ∧ [x].length ≤ 1000 then some (D.lst (List.flatten (List.replicate (n : Int).toNat [x]))) else none) = _
  rw [if_pos ⟨by omega, by omega, by simp⟩, Int.toNat_natCast]
  congr 2
  induction n with
  | zero => rfl
  | succ n ih => simp [List.replicate_succ, ih (by omega)]
theorem ne_txt (h : Hh) (t : Tx) : cmpop h .ne (.str t) (.str t) = some false := by simp [cmpop, eqD, scalPair, scalar, D.eqv]
theorem mk_at {x : D} {i : Nat} {e : D} (h : (mk x)[i]? = some e) (c : x.closed = true) : i < 19 ∧ ∃ fs, e = .obj (100 + i) fs ∧ closedF fs = true := by
  have hi : i < 19 := (List.getElem?_eq_some_iff.mp h).1
  revert h
  revert e
  revert i
  intro i hi
  refine lt19 (P := fun i => ∀ {e : D}, (mk x)[i]? = some e → i < 19 ∧ ∃ fs, e = .obj (100 + i) fs ∧ closedF fs = true) ?_ i hi
  refine ⟨?_, ?_, ?_, ?_, ?_, ?_, ?_, ?_, ?_, ?_, ?_, ?_, ?_, ?_, ?_, ?_, ?_, ?_, ?_⟩ <;> (intro e h; simp [mk] at h; subst h; exact ⟨by omega, _, rfl, by simp [closedF, c]⟩)
theorem cls_map (i : Nat) : [] ++ (rangeD 0 19).map (fun x => match x with
    | .int z => D.bl (z == (i : Int))
    | d => d) = clsD i := by
  simp only [List.nil_append, rangeD, clsD, List.map_map]
  refine List.map_congr_left fun k _ => ?_
  have : ((0 : Int) + (k : Int) == (i : Int)) = (k == i) := by
    rw [Bool.eq_iff_iff]
    simp
    omega
  simp only [Function.comp, this]
theorem plain_law (ns : List Int) (hl : ns.length ≤ 63) : ∃ h', run 1000000 60 ix_law [.roi ns] [] = .ok (.bl true) h' := by
  have e00 := run_law 1000000 59
  rw [show (59 + 1 : Nat) = 60 from rfl] at e00
  rw [e00]
  have l1 : line = 16777216 := Pl.line_eq
  simp [full, b_law, startD, binop, l1]
  rw [if_pos (by omega)]
  simp
  generalize hR : forL _ _ _ _ = rr
  obtain ⟨σ, h2, rfl, -⟩ := for_invLR hR (fun xs σ h => (∀ x ∈ xs, ∃ k : Nat, x = .int k ∧ k ≤ 63) ∧ ∃ (a b c d e f : Option D), σ = [some (.roi ns), some (.lst tens), a, b, c, d, e, f]) (by
    rintro x xs _ h ⟨hx, a, b, c, d, e, f, rfl⟩
    obtain ⟨k, rfl, hk63⟩ := hx x List.mem_cons_self
    obtain ⟨o, ho, e1⟩ := r_pool 1000000 58 ns k h hk63
    simp only [Nat.reduceAdd] at e1
    have g0 : (h ++ [o])[h.length]? = some o := by simp
    obtain ⟨x, o', ho', x0, x1, e2⟩ := r_take 1000000 58 (m := 10) g0 ho (by omega) (by omega)
    simp only [Nat.reduceAdd] at e2
    have s1 : (h ++ [o]).set h.length o' = h ++ [o'] := by simp
    rw [s1] at e2
    obtain ⟨j, rfl⟩ : ∃ j : Nat, x = (j : Int) := ⟨x.toNat, by omega⟩
    have hj : j < 10 := by omega
    obtain ⟨one, h1, hm⟩ : ∃ one, tens[j]? = some one ∧ one ∈ tens := ⟨tens[j]'(by simp [tens]; omega), by simp, by simp⟩
    obtain ⟨hc, hf⟩ := tens_ok one hm
    have ix : ∀ h : Hh, index h (.lst tens) (.int (j : Int)) = some one := fun h => by
      have : ixn 10 (j : Int) = some j := by
        simp only [ixn]
        rw [if_pos (by omega)]
        simp
        omega
      simp [index, tens, this]
      simpa [tens] using h1
    have e3 := r_made 1000000 58 (h ++ [o']) hc
    have e4 := r_fields 1000000 58 (h ++ [o']) hc
    have e5 := r_named 1000000 58 (h ++ [o']) hc
    simp only [Nat.reduceAdd] at e3 e4 e5
    have p12 := rep_ok hf 12 (by omega)
    have p8 := rep_ok hf 8 (by omega)
    have m12 : ∀ h : Hh, binop h .mul (.lst [one]) (.int 12) = some (.lst (reps 12 one)) := fun h => mulR (n := 12) (by omega)
    have m8 : ∀ h : Hh, binop h .mul (.lst [one]) (.int 8) = some (.lst (reps 8 one)) := fun h => mulR (n := 8) (by omega)
    generalize hB : forB _ _ _ _ _ = rb
    simp [bindG, e1, e2, e3, ix] at hB
    generalize hF : forL _ _ _ _ = rf at hB
    obtain ⟨σ3, h3, rfl, -, rfl, e3, f3, rfl⟩ := for_invLR hF (fun ys σ h3 => (∀ y ∈ ys, ∃ (i : Nat) (fs : List (Nat × D)), i < 19 ∧ closedF fs = true ∧ y = .tup [.int (i : Int), .obj (100 + i) fs]) ∧ h3 = h ++ [o'] ∧ ∃ (e f : Option D), σ = [some (.roi ns), some (.lst tens), some (.int k), some (.ref h.length), some one, some (.lst (mk one)), e, f]) (by
      rintro y ys _ h4 ⟨hy, rfl, e, f, rfl⟩
      obtain ⟨i, fs, hi, hfs, rfl⟩ := hy y List.mem_cons_self
      have q1 := r_classes 1000000 58 i hi fs (h ++ [o']) hfs
      have q2 := r_bases 1000000 58 i hi fs (h ++ [o']) hfs
      have q3 := r_due 1000000 58 i hi (h ++ [o'])
      simp only [Nat.reduceAdd] at q1 q2 q3
      generalize hB2 : forB _ _ _ _ _ = rb2
      simp [bindG, bindGs, q1, q2, q3, ne_bas i hi] at hB2
      generalize hL : lcL _ _ _ _ = rl at hB2
      have eL := lc_mapR hL (fun x => match x with
        | .int z => .bl (z == (i : Int))
        | d => d) (by
        intro x hx
        obtain ⟨q, hq, rfl⟩ := List.mem_map.mp hx
        simp [bindG, cmpop, eqD, scalPair, scalar, D.eqv]) (by simp [l1])
      rw [cls_map] at eL
      subst eL
      simp [ne_cls i hi, q2, q3, ne_bas i hi] at hB2
      subst hB2
      exact ⟨_, _, rfl, fun y hy2 => hy y (List.mem_cons_of_mem _ hy2), rfl, _, _, rfl⟩) ⟨by
        intro y hy
        obtain ⟨⟨e, i⟩, hq, rfl⟩ := List.mem_map.mp hy
        have hq2 := List.mem_zipIdx_iff_getElem?.mp hq
        obtain ⟨hi, fs, he, hfs⟩ := mk_at hq2 hc
        exact ⟨i, fs, hi, hfs, by rw [← he]⟩, rfl, _, _, rfl⟩
    simp [e4, e5, p12, p8, m12, m8, ne_txt] at hB
    subst hB
    exact ⟨_, _, rfl, fun x hx2 => hx x (List.mem_cons_of_mem _ hx2), _, _, _, _, _, _, rfl⟩) ⟨by
      intro x hx
      obtain ⟨i, hi, rfl⟩ := List.mem_map.mp hx
      simp at hi
      exact ⟨i, by simp, by omega⟩, _, _, _, _, _, _, rfl⟩
  exact ⟨h2, rfl⟩
end Lw
end
set_option maxRecDepth 100000 in
theorem PySem.Challenge.cw_appendedbook_k12_refusals_made_holds : PySem.Challenge.rw_appendedbook_k12_refusals_made.Holds :=
  holds12 Lw.plain_law
