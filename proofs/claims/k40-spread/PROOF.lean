import PyProof.Rows.All
import Wide.All
import OpenK.AllK
import Wide.FinOn
import HandS.ForMost
import KE.KDictKeyed
import KE.SortData
import KE.DataMinMax
import HandS.ExcInit
import HandS.HeadHook2
import KE.KDictWalk
import KE.GoesDict
import PyProof.Rows.SeqRoads
import HandS.TupMul
import KE.SortCalls
import KE.KDictList
import KE.KDictPairs
import KE.SortKeyHeap
import HandS.SortKw
import KE.DataFind
import KE.DatumIndex
import HandS.Wide
import HandS.ListItems
import HandS.More
import HandS.TupAny
import HandS.IsInst
import HandS.Style
import HandS.CallSlots
import PyProof.ReprRoads
import PyProof.P3In
import HandS.Flow
import HandS.Rev
import HandS.Zip
import KE.GoesMore
import HandS.RevRange
import HandS.NoneIn
import HandS.Conv
import PyProof.WalksMore
import PyProof.FactsAll.subtypes_4
import HandS.Strs
import HandS.SetFor
import HandS.Iter
import KE.KDictZip
import HandS.Exc
import HandS.ExcOwn
import HandS.ExcIs
import HandS.HeadHook1
import HandS.TryMany
import HandS.Ends
import HandS.HeadEnd
import HandS.Head2
import HandS.Words
import KE.DatumOrd
import KE.KStateDown
import KE.DataEq
import Lean
import PySem.Challenge.RW_allsome_k40_claims_spread
set_option Elab.async false
set_option linter.all false
set_option maxRecDepth 100000
set_option maxHeartbeats 4000000
namespace Af
open PySem
inductive D where
  | non | bl (b : Bool) | int (i : Int) | str (x : Str) | tup (xs : List D) | ref (n : Nat) | exo (a : Nat)
  deriving Inhabited
inductive O where
  | lst (xs : List D) | fls (xs : List D) | dct (fz : Bool) (kvs : List (D × D)) | ins (c : Str) (fs : List (Str × D)) | mp (kvs : List (Int × D))
abbrev Mu := List O
inductive Res (α : Type) where
  | ok (a : α) (m : Mu) | exc (c : Str) (fs : List (Str × D)) (m : Mu) | bad
abbrev M (α : Type) := Mu → Res α
def ret {α : Type} (a : α) : M α := fun m => .ok a m
def nope {α : Type} : M α := fun _ => .bad
def bd {α β : Type} (x : M α) (f : α → M β) : M β := fun m => match x m with
  | .ok a m' => f a m'
  | .exc c fs m' => .exc c fs m'
  | .bad => .bad
def chk {α : Type} (p : Prop) [Decidable p] (x : M α) : M α := fun m => if p then x m else .bad
def opt {α : Type} : Option α → M α
  | some a => ret a
  | none => nope
def alc (o : O) : M D := fun m => .ok (.ref m.length) (m ++ [o])
abbrev Env := List (Option D)
inductive Fl where
  | nx (ρ : Env) | rt (d : D) | bk (ρ : Env) | ct (ρ : Env) | xc (ρ : Env) (c : Str) (fs : List (Str × D))
def bs {α : Type} (ρ : Env) (x : M α) (f : α → M Fl) : M Fl := fun m => match x m with
  | .ok a m' => f a m'
  | .exc c fs m' => .ok (.xc ρ c fs) m'
  | .bad => .bad
def lstAt (m : Mu) (n : Nat) : Option (List D) := match m[n]? with
  | some (.lst xs) => some xs
  | some (.fls xs) => some xs
  | _ => none
def seqOf (m : Mu) : D → Option (List D)
  | .tup xs => some xs
  | .ref n => lstAt m n
  | _ => none
def mapO {α β : Type} (f : α → Option β) : List α → Option (List β)
  | [] => some []
  | x :: xs => match f x with
    | some y => (mapO f xs).map (y :: ·)
    | none => none
def pd (m : Mu) : Nat → D → Option PyData
  | _, .non => some .none
  | _, .bl b => some (.bool b)
  | _, .int i => some (.int i)
  | _, .str x => if PyData.strOk x then some (.str x) else none
  | f + 1, .tup xs => (mapO (pd m f) xs).map .tuple
  | f + 1, .ref n => match lstAt m n with
    | some xs => (mapO (pd m f) xs).map .list
    | none => none
  | 0, .tup _ => none
  | 0, .ref _ => none
  | _, .exo _ => none
def keyD : Nat → D → Option NestedKey
  | _, .non => some .none
  | _, .bl b => some (.num (if b then 1 else 0))
  | _, .int i => some (.num i)
  | _, .str x => some (.text x)
  | f + 1, .tup xs => (mapO (keyD f) xs).map .tup
  | 0, .tup _ => none
  | _, .ref _ => none
  | _, .exo _ => none
def kd : D → Option NestedKey
  | .tup xs => keyD 7 (.tup xs)
  | _ => none
def eqD (m : Mu) : D → D → Option Bool
  | .str x, .str y => some (x == y)
  | x, y => match pd m 20 x, pd m 20 y with
    | some a, some b => some (PyData.eqv a b)
    | _, _ => none
inductive Bop where
  | add | sub | mul | mod | fdiv | pow | mulB
def small (i : Int) : Prop := -(2 ^ 64) < i ∧ i < 2 ^ 64
instance (i : Int) : Decidable (small i) := inferInstanceAs (Decidable (_ ∧ _))
def dAdd : D → D → M D
  | .int i, .int j => ret (.int (i + j))
  | .str x, .str y => chk (x.length + y.length ≤ sizeLine) (ret (.str (x ++ y)))
  | .tup xs, .tup ys => chk (xs.length + ys.length ≤ sizeLine) (ret (.tup (xs ++ ys)))
  | .ref a, .ref b => fun m => match m[a]?, m[b]? with
    | some (.lst xs), some (.lst ys) => chk (xs.length + ys.length ≤ sizeLine) (alc (.lst (xs ++ ys))) m
    | _, _ => .bad
  | _, _ => nope
def dMul : D → D → M D
  | .int i, .int j => chk (small i ∨ small j) (ret (.int (i * j)))
  | .tup xs, .int k => chk (xs.length ≤ 1000 ∧ k ≤ 1000 ∧ -1000000 ≤ k) (ret (.tup (List.replicate k.toNat xs).flatten))
  | .ref a, .int k => fun m => match m[a]? with
    | some (.lst xs) => chk (k ≤ 1000000 ∧ -1000000 ≤ k ∧ xs.length * k.toNat ≤ sizeLine) (alc (.lst (List.replicate k.toNat xs).flatten)) m
    | _ => .bad
  | _, _ => nope
def dBin : Bop → D → D → M D
  | .add, x, y => dAdd x y
  | .mul, x, y => dMul x y
  | .mulB, .int i, .int j => chk (i.natAbs < 2 ^ 5000 ∧ j.natAbs < 2 ^ 5000) (ret (.int (i * j)))
  | .sub, .int i, .int j => ret (.int (i - j))
  | .mod, .int i, .int j => chk (j ≠ 0) (ret (.int (i.fmod j)))
  | .fdiv, .int i, .int j => chk (j ≠ 0 ∧ j.natAbs < 1073741824) (ret (.int (i.fdiv j)))
  | .pow, .int i, .int j => chk (0 ≤ j ∧ j ≤ 1000000 ∧ i.natAbs < 2 ^ 64) (ret (.int (i ^ j.toNat)))
  | _, _, _ => nope
def dNeg : D → M D
  | .int i => ret (.int (-i))
  | _ => nope
inductive Cop where
  | eq | ne | lt | le | gt | ge | is | isn | «in» | nin
def inL (m : Mu) (x : D) (xs : List D) : Option Bool := match mapO (pd m 19) xs, pd m 19 x with
  | some ds, some d => some (ds.any fun y => PyData.eqv y d)
  | _, _ => none
def dLook (kvs : List (D × D)) (k : NestedKey) : Option D := (kvs.find? fun p => kd p.1 == some k).map (·.2)
def dIn (m : Mu) (x : D) : D → Option Bool
  | .tup xs => inL m x xs
  | .ref n => match m[n]? with
    | some (.lst xs) => inL m x xs
    | some (.fls xs) => inL m x xs
    | some (.dct _ kvs) => (kd x).map fun k => (dLook kvs k).isSome
    | _ => none
  | .str y => match x with
    | .str z => some (!(Builtin.Str.occurrences y z 0 y.length 1).isEmpty)
    | _ => none
  | _ => none
def dIs : D → D → Option Bool
  | x, .non => some (match x with | .non => true | _ => false)
  | .bl a, .bl b => some (a == b)
  | .int _, .bl _ => some false
  | .non, .bl _ => some false
  | _, _ => none
def dCmp (m : Mu) : Cop → D → D → Option D
  | .eq, x, y => (eqD m x y).map .bl
  | .ne, x, y => (eqD m x y).map fun b => .bl (!b)
  | .lt, .int i, .int j => some (.bl (decide (i < j)))
  | .le, .int i, .int j => some (.bl (decide (i ≤ j)))
  | .gt, .int i, .int j => some (.bl (decide (j < i)))
  | .ge, .int i, .int j => some (.bl (decide (j ≤ i)))
  | .is, x, y => (dIs x y).map .bl
  | .isn, x, y => (dIs x y).map fun b => .bl (!b)
  | .in, x, y => (dIn m x y).map .bl
  | .nin, x, y => (dIn m x y).map fun b => .bl (!b)
  | _, _, _ => none
def cmpM (o : Cop) (x y : D) : M D := fun m => opt (dCmp m o x y) m
def dIx : D → D → M D
  | .tup xs, .int i => opt (L2.atI xs i)
  | .str z, .int i => chk (z.length ≤ sizeLine) (opt ((L2.atI z.cps.toList i).map fun c => .str ⟨#[c]⟩))
  | .ref n, k => fun m => match m[n]?, k with
    | some (.lst xs), .int i => opt (L2.atI xs i) m
    | some (.fls xs), .int i => opt (L2.atI xs i) m
    | some (.dct _ kvs), k => opt ((kd k).bind (dLook kvs)) m
    | _, _ => .bad
  | _, _ => nope
def cut {α : Type} (xs : List α) (lo hi : Option Int) : List α := (xs.drop (HT.sIx xs.length 0 lo)).take (HT.sIx xs.length xs.length hi - HT.sIx xs.length 0 lo)
def partO : Option D → Option (Option Int)
  | none => some none
  | some (.int i) => some (some i)
  | some _ => none
def dSl (x : D) (lo hi : Option Int) : M D := match x with
  | .tup xs => ret (.tup (cut xs lo hi))
  | .str z => chk (z.length ≤ sizeLine) (ret (.str ⟨(cut z.cps.toList lo hi).toArray⟩))
  | .ref n => fun m => match lstAt m n with
    | some xs => alc (.lst (cut xs lo hi)) m
    | none => .bad
  | _ => nope
def dStore (kvs : List (D × D)) (k v : D) (kk : NestedKey) : List (D × D) :=
  if (dLook kvs kk).isSome then kvs.map fun p => if kd p.1 = some kk then (p.1, v) else p else kvs ++ [(k, v)]
def putI (kvs : List (Int × D)) (k : Int) (v : D) : List (Int × D) :=
  if (kvs.any fun p => decide (p.1 = k)) = true then kvs.map (fun p => if p.1 = k then (p.1, v) else p) else kvs ++ [(k, v)]
def dSet : D → D → D → M Unit
  | .ref n, k, v => fun m => match m[n]?, k with
    | some (.lst xs), .int i => (match L2.ixN xs.length i with
      | some j => .ok () (m.set n (.lst (xs.set j v)))
      | none => .bad)
    | some (.mp kvs), .int i => if kvs.length < sizeLine then .ok () (m.set n (.mp (putI kvs i v))) else .bad
    | some (.dct false kvs), k => (match kd k with
      | some kk => if kvs.length < sizeLine then .ok () (m.set n (.dct false (dStore kvs k v kk))) else .bad
      | none => .bad)
    | _, _ => .bad
  | _, _, _ => nope
inductive Bi where
  | len | abs | min2 | max2 | int | str | tuple | list | sorted | any | all | sum | repr | dict | dictP | listK | sortK
def blsO : List D → Option (List Bool)
  | [] => some []
  | .bl b :: r => (blsO r).map (b :: ·)
  | _ :: _ => none
def intsO : List D → Option (List Int)
  | [] => some []
  | .int b :: r => (intsO r).map (b :: ·)
  | _ :: _ => none
def sortOk (ds : List PyData) : Bool :=
  (ds.all fun a => ds.all fun b => PySem.W.alike a b) && ((ds.all fun a => match a with | .tuple _ => true | _ => false) || ds.all fun a => match a with | .none => false | .tuple _ => false | _ => true)
def encD (m : Mu) (d : D) : PyData := (pd m 20 d).getD .none
def dSort (m : Mu) (xs : List D) : Option (List D) := match mapO (pd m 20) xs with
  | some ds => if sortOk ds then some (xs.mergeSort (PySem.W.dataLe false (encD m))) else none
  | none => none
def pairsI : List D → Option (List (Int × D))
  | [] => some []
  | .tup [.int k, v] :: r => (pairsI r).map ((k, v) :: ·)
  | _ => none
def pairsT : List D → Option (List (D × D))
  | [] => some []
  | .tup [k, v] :: r => match kd k with
    | some _ => (pairsT r).map ((k, v) :: ·)
    | none => none
  | _ => none
def lookI (kvs : List (Int × D)) (k : Int) : Option D := (kvs.find? fun p => decide (p.1 = k)).map (·.2)
def mergeI (acc kvs : List (Int × D)) : List (Int × D) := kvs.foldl (fun acc p => putI acc p.1 p.2) acc
def hasM : D → D → M D
  | .int k, .ref n => fun m => match m[n]? with
    | some (.mp kvs) => .ok (.bl (lookI kvs k).isSome) m
    | _ => .bad
  | _, _ => nope
def isMp : D → M Unit
  | .ref n => fun m => match m[n]? with
    | some (.mp _) => .ok () m
    | _ => .bad
  | _ => nope
def getM : D → D → D → M D
  | .ref n, .int k, z => fun m => match m[n]? with
    | some (.mp kvs) => .ok ((lookI kvs k).getD z) m
    | _ => .bad
  | _, _, _ => nope
open Classical in
noncomputable def dMin (xs : List D) : M D := fun m => match mapO (pd m 20) xs with
  | some (a :: as) => if h : PySem.W.AlikeAll (a :: as) ∧ ∃ c, c ∈ xs ∧ pd m 20 c = some (PySem.W.minD a as) ∧ ∀ x ∈ xs, pd m 20 x = some (PySem.W.minD a as) → x = c then .ok (choose h.2) m else .bad
  | _ => .bad
noncomputable def biF : Bi → List D → M D
  | .len, [.str z] => chk (z.length ≤ sizeLine) (ret (.int z.length))
  | .len, [.tup xs] => ret (.int xs.length)
  | .len, [.ref n] => fun m => match m[n]? with
    | some (.lst xs) => .ok (.int xs.length) m
    | some (.fls xs) => .ok (.int xs.length) m
    | some (.dct _ kvs) => .ok (.int kvs.length) m
    | _ => .bad
  | .abs, [.int i] => ret (.int (if i < 0 then -i else i))
  | .min2, [.int i, .int j] => ret (.int (if j < i then j else i))
  | .min2, [.ref n] => fun m => match (lstAt m n).bind intsO with
    | some (b :: bs) => .ok (.int (bs.foldl min b)) m
    | some [] => .bad
    | none => match lstAt m n with
      | some xs => dMin xs m
      | none => .bad
  | .dict, [.ref n] => fun m => match (lstAt m n).bind pairsI with
    | some kvs => alc (.mp (mergeI [] kvs)) m
    | none => .bad
  | .max2, [.int i, .int j] => ret (.int (if j > i then j else i))
  | .max2, [.ref n] => fun m => match (lstAt m n).bind intsO with
    | some (b :: bs) => .ok (.int (bs.foldl max b)) m
    | _ => .bad
  | .dictP, [.ref n] => fun m => match (lstAt m n).bind pairsT with
    | some kvs => if (kvs.map fun p => kd p.1).Nodup then alc (.dct false kvs) m else .bad
    | none => .bad
  | .listK, [.ref n] => fun m => match m[n]? with
    | some (.dct _ kvs) => alc (.lst (kvs.map (·.1))) m
    | _ => .bad
  | .sortK, [.ref n] => fun m => match m[n]? with
    | some (.dct _ kvs) => (match dSort m (kvs.map (·.1)) with
      | some xs => alc (.lst xs) m
      | none => .bad)
    | _ => .bad
  | .int, [.int i] => ret (.int i)
  | .int, [.bl b] => ret (.int (if b then 1 else 0))
  | .str, [.int i] => chk (i.natAbs.log2 < 1920) (ret (.str (toString i)))
  | .tuple, [.tup xs] => ret (.tup xs)
  | .tuple, [.ref n] => fun m => match lstAt m n with
    | some xs => .ok (.tup xs) m
    | none => .bad
  | .list, [d] => fun m => match seqOf m d with
    | some xs => alc (.lst xs) m
    | none => .bad
  | .sorted, [.ref n] => fun m => match (lstAt m n).bind (dSort m) with
    | some xs => alc (.lst xs) m
    | none => .bad
  | .any, [.ref n] => fun m => match (lstAt m n).bind blsO with
    | some bs => .ok (.bl (bs.any id)) m
    | none => .bad
  | .all, [.ref n] => fun m => match (lstAt m n).bind blsO with
    | some bs => .ok (.bl (bs.all id)) m
    | none => .bad
  | .sum, [.ref n] => fun m => match (lstAt m n).bind intsO with
    | some bs => .ok (.int bs.sum) m
    | none => .bad
  | .repr, [d] => fun m => match pd m 20 d with
    | some x => if x.showable ∧ x.shown.length ≤ sizeLine then .ok (.str x.shown) m else .bad
    | none => .bad
  | _, _ => nope
inductive Ty where
  | tuple | bool | int | list | str
def Ty.isL : Ty → Bool
  | .list => true
  | _ => false
def isTy (m : Mu) : Ty → D → Option Bool
  | .tuple, .tup _ => some true
  | .bool, .bl _ => some true
  | .int, .int _ => some true
  | .int, .bl _ => some true
  | .str, .str _ => some true
  | t, .ref n => match m[n]? with
    | some (.lst _) => some t.isL
    | some (.fls _) => some t.isL
    | some (.dct _ _) => some false
    | _ => none
  | _, .exo _ => none
  | _, _ => some false
inductive Me where
  | append | pop | popAt | extend | insert | count | index | clear
def isLst (x : D) : M Unit := fun m => match x with
  | .ref n => (match m[n]? with
    | some (.lst _) => .ok () m
    | _ => .bad)
  | _ => .bad
def meF : Me → D → List D → M D
  | .append, .ref n, [x] => fun m => match m[n]? with
    | some (.lst xs) => if xs.length < sizeLine then .ok .non (m.set n (.lst (xs ++ [x]))) else .bad
    | _ => .bad
  | .clear, .ref n, [] => fun m => match m[n]? with
    | some (.lst _) => .ok .non (m.set n (.lst []))
    | _ => .bad
  | .extend, .ref n, [.ref k] => fun m => match m[n]?, m[k]? with
    | some (.lst xs), some (.lst ys) => if xs.length + ys.length ≤ sizeLine then .ok .non (m.set n (.lst (xs ++ ys))) else .bad
    | _, _ => .bad
  | .insert, .ref n, [.int i, x] => fun m => match m[n]? with
    | some (.lst xs) => if xs.length < sizeLine ∧ 0 ≤ i ∧ i < 2 ^ 63 then .ok .non (m.set n (.lst (xs.take i.toNat ++ [x] ++ xs.drop i.toNat))) else .bad
    | _ => .bad
  | .count, .ref n, [y] => fun m => match m[n]? with
    | some (.lst xs) => (match mapO (pd m 19) xs, pd m 19 y with
      | some ps, some p => .ok (.int (ps.countP fun q => PyData.eqv q p : Nat)) m
      | _, _ => .bad)
    | _ => .bad
  | .index, .ref n, [.bl b] => fun m => match m[n]? with
    | some (.lst xs) => (match blsO xs with
      | some bs => if b ∈ bs ∧ bs.length ≤ sizeLine then .ok (.int (bs.idxOf b : Nat)) m else .bad
      | none => .bad)
    | _ => .bad
  | .pop, .ref n, [] => fun m => match m[n]? with
    | some (.lst xs) => (match xs[xs.length - 1]? with
      | some y => .ok y (m.set n (.lst xs.dropLast))
      | none => .bad)
    | _ => .bad
  | .popAt, .ref n, [.int i] => fun m => match m[n]? with
    | some (.lst xs) => (match L2.ixN xs.length i with
      | some k => (match xs[k]? with
        | some y => .ok y (m.set n (.lst (xs.eraseIdx k)))
        | none => .bad)
      | none => .bad)
    | _ => .bad
  | _, _, _ => nope
def insI (k : Int) : List Int → List Int
  | [] => [k]
  | x :: r => if k < x then k :: x :: r else if k = x then x :: r else x :: insI k r
def ssI (l : List Int) : List Int := l.foldr insI []
def sset1 : D → M D
  | .tup xs => fun m => match intsO xs with
    | some is => if is.length ≤ 60 then alc (.lst ((ssI is).map D.int)) m else .bad
    | none => .bad
  | .ref n => fun m => match (lstAt m n).bind intsO with
    | some is => if is.length ≤ 60 then alc (.lst ((ssI is).map D.int)) m else .bad
    | none => .bad
  | _ => nope
def absD (i : Int) : PyData := .int i.natAbs
def sortA (is : List Int) : List Int := is.mergeSort (PySem.W.dataLe false absD)
def intsOf (m : Mu) : D → Option (List Int)
  | .tup xs => intsO xs
  | .ref n => (lstAt m n).bind intsO
  | _ => none
def sabsM (d : D) : M D := fun m => match intsOf m d with
  | some is => if is.length ≤ sizeLine then alc (.lst ((sortA is).map D.int)) m else .bad
  | none => .bad
def sabsKM : D → M D
  | .ref n => fun m => match m[n]? with
    | some (.mp kvs) => if kvs.length ≤ sizeLine then alc (.lst ((sortA (kvs.map (·.1))).map D.int)) m else .bad
    | _ => .bad
  | _ => nope
def lenD : D → PyData
  | .tup xs => .int xs.length
  | _ => .none
def isTup : D → Bool
  | .tup _ => true
  | _ => false
def slenM (d : D) : M D := fun m => match seqOf m d with
  | some xs => if xs.length ≤ sizeLine ∧ xs.all isTup = true then alc (.lst (xs.mergeSort (PySem.W.dataLe false lenD))) m else .bad
  | none => .bad
def lvalsM : D → M D
  | .ref n => fun m => match m[n]? with
    | some (.dct _ kvs) => alc (.lst (kvs.map (·.2))) m
    | _ => .bad
  | _ => nope
def ixKM : D → D → M D
  | .ref n, .int k => fun m => match m[n]? with
    | some (.mp kvs) => opt (lookI kvs k) m
    | _ => .bad
  | _, _ => nope
def putFD (f : Str) (d : D) : List (Str × D) → List (Str × D)
  | [] => [(f, d)]
  | (g, x) :: r => if g = f then (g, d) :: r else (g, x) :: putFD f d r
def fldM (c f : Str) : D → M D
  | .ref n => fun m => match m[n]? with
    | some (.ins c' fs) => if c' = c then opt (fs.lookup f) m else .bad
    | _ => .bad
  | _ => nope
def setFM (c f : Str) (d : D) : D → M Unit
  | .ref n => fun m => match m[n]? with
    | some (.ins c' fs) => if c' = c ∧ fs.length < 1000 then .ok () (m.set n (.ins c (putFD f d fs))) else .bad
    | _ => .bad
  | _ => nope
def isIns (c f : Str) : D → M Unit
  | .ref n => fun m => match m[n]? with
    | some (.ins c' fs) => if c' = c ∧ fs.lookup f = none then .ok () m else .bad
    | _ => .bad
  | _ => nope
def nonM : D → M Unit
  | .non => ret ()
  | _ => nope
def dRev : D → D → M D
  | .tup xs, .int k => chk (k = -1) (ret (.tup xs.reverse))
  | _, _ => nope
inductive T where
  | one (i : Nat) | many (is : List Nat)
mutual
inductive E where
  | var (i : Nat) | k (d : D) | g (x : Str) (d : D) | bin (o : Bop) (a b : E) | neg (a : E) | not (a : E) | and (a b : E) | or (a b : E) | cmp (o : Cop) (a b : E) | chn (o o' : Cop) (a b c : E) | ite (c a b : E)
  | tup (es : Es) | lst (es : Es) | dct | ix (a b : E) | slR (a st : E) | sl (a : E) | slL (a lo : E) | slU (a hi : E) | slB (a lo hi : E)
  | call (f : Str) (es : Es) | bi (f : Bi) (es : Es) | isi (t : Ty) (a : E) | me (f : Me) (o : E) (es : Es)
  | lrng1 (t : Bool) (a : E) | lrng2 (t : Bool) (a b : E) | sset (a : E) | dzip (k : Bool) (a b : E) | any | sabs (a : E) | sabsK (a : E) | mpd | slen (a : E) | lvals (a : E) | fld (c f : Str) (a : E) | mcall (c f g : Str) (o : E) (es : Es) | ixK (a b : E) | hasK (a b : E) | getK (o k z : E) | isx (i : Nat) (ns : List Str)
  | comp (own : List Nat) (t : T) (it : I) (elt : E) | compIf (own : List Nat) (t : T) (it : I) (c elt : E)
inductive Es where
  | nil | cons (e : E) (r : Es)
inductive I where
  | zip (a b : E) | exp (e : E) | keys (e : E) | lk (i : Nat) (e : E) | rng1 (a : E) | rng2 (a b : E) | rng3 (a b c : E) | enum (e : E) | rev (e : E) | revR (a : E)
end
mutual
inductive S where
  | set (i : Nat) (e : E) | setT (is : List Nat) (e : E) | setI (o i e : E) | ex (e : E) | rt (e : E) | rt0 | ite (c : E) (a b : Ss) | for (t : T) (it : I) (b : Ss) | while (c : E) (b : Ss) | pass | brk | ctn | lk (i : Nat) (s : S) | any | rs (c : Str) | setF (c f : Str) (o e : E) | mkI (c g : Str) (n : Nat) | tr (b : Ss) (x : Str) (i : Nat) (h : Ss) | forH (is : List Nat) (it : I) (b : Ss) | tr1 (b : Ss) (x : Str) (h : Ss) | tr2 (b : Ss) (x : Str) (h : Ss) (y : Str) (k : Ss)
inductive Ss where
  | nil | cons (s : S) (r : Ss)
end
def asg : T → D → Env → Option Env
  | .one i, d, ρ => some (ρ.set i (some d))
  | .many is, .tup ds, ρ => if ds.length = is.length then some ((is.zip ds).foldl (fun ρ p => ρ.set p.1 (some p.2)) ρ) else none
  | .many _, _, _ => none
def asgH (is : List Nat) (d : D) (ρ : Env) : M Env := match d with
  | .tup ds => opt (asg (.many is) (.tup ds) ρ)
  | .ref n => fun m => match m[n]? with
    | some (.lst ds) => opt (asg (.many is) (.tup ds) ρ) m
    | _ => .bad
  | _ => nope
def wipeD (ρ : Env) : List Nat → Env
  | [] => ρ
  | v :: vs => (wipeD ρ vs).set v none
structure Src where
  items : List D
  at_ : List (Nat × O)
def stays (a : List (Nat × O)) (m : Mu) : Prop := match a with
  | [] => True
  | [(n, o)] => m[n]? = some o
  | [(n, o), (k, p)] => m[n]? = some o ∧ m[k]? = some p
  | _ => False
def rngL (lo : Int) (n : Nat) (c : Int) : List D := (List.range n).map fun (i : Nat) => .int (lo + (i : Int) * c)
def srcOf (d : D) : M Src := match d with
  | .tup xs => ret ⟨xs, []⟩
  | .str z => chk (z.length ≤ sizeLine) (ret ⟨z.cps.toList.map fun c => .str ⟨#[c]⟩, []⟩)
  | .ref n => fun m => match m[n]? with
    | some (.lst xs) => .ok ⟨xs, [(n, .lst xs)]⟩ m
    | some (.fls xs) => .ok ⟨xs, [(n, .fls xs)]⟩ m
    | _ => .bad
  | _ => nope
def srcK (d : D) : M Src := match d with
  | .ref n => fun m => match m[n]? with
    | some (.dct true kvs) => .ok ⟨kvs.map (·.1), [(n, .dct true kvs)]⟩ m
    | _ => .bad
  | _ => nope
def boundI (i : Int) : Prop := -1000000 ≤ i ∧ i ≤ 1000000
instance (i : Int) : Decidable (boundI i) := inferInstanceAs (Decidable (_ ∧ _))
def srcR2 : D → D → M Src
  | .int i, .int j => chk (boundI i ∧ boundI j) (ret ⟨rngL i (j - i).toNat 1, []⟩)
  | _, _ => nope
def srcRv : D → M Src
  | .int j => chk (boundI j) (ret ⟨rngL (j - 1) j.toNat (-1), []⟩)
  | _ => nope
def srcR3 : D → D → D → M Src
  | .int i, .int j, .int c => chk (boundI i ∧ boundI j ∧ c ≠ 0 ∧ boundI c ∧ Builtin.Range.small i j c = true ∧ Builtin.Range.rangeSize i j c = ((Builtin.Range.rangeSize i j c).toNat : Nat) ∧ (Builtin.Range.rangeSize i j c).toNat ≤ sizeLine) (ret ⟨rngL i (Builtin.Range.rangeSize i j c).toNat c, []⟩)
  | _, _, _ => nope
def srcL (d : D) : M Src := match d with
  | .ref _ => srcOf d
  | _ => nope
def srcS (d : D) : M Src := match d with
  | .str _ => nope
  | _ => srcOf d
def enumL : Nat → List D → List D
  | _, [] => []
  | i, x :: xs => .tup [.int i, x] :: enumL (i + 1) xs
def zipL (xs ys : List D) : List D := List.zipWith (fun x y => .tup [x, y]) xs ys
def dZip (k : Bool) : D → D → M D
  | .ref n, .tup ys => fun m => match lstAt m n with
    | some xs => if k = true then (match pairsI (zipL xs ys) with
        | some kvs => alc (.mp (mergeI [] kvs)) m
        | none => .bad) else (match pairsT (zipL xs ys) with
        | some kvs => if (kvs.map fun p => kd p.1).Nodup then alc (.dct false kvs) m else .bad
        | none => .bad)
    | none => .bad
  | _, _ => nope
open Classical in
noncomputable def loopF (a : List (Nat × O)) (body : D → Env → M Fl) : List D → Env → M Fl
  | [], ρ => fun m => if stays a m then .ok (.nx ρ) m else .bad
  | x :: xs, ρ => fun m => if stays a m then (match body x ρ m with
    | .ok (.nx ρ') m' => loopF a body xs ρ' m'
    | .ok (.ct ρ') m' => loopF a body xs ρ' m'
    | .ok (.bk ρ') m' => .ok (.nx ρ') m'
    | r => r) else .bad
open Classical in
noncomputable def loopC (a : List (Nat × O)) (body : D → M (Option D)) : List D → List D → M (List D)
  | [], acc => fun m => if stays a m then .ok acc m else .bad
  | x :: xs, acc => fun m => if stays a m then (match body x m with
    | .ok (some d) m' => loopC a body xs (acc ++ [d]) m'
    | .ok none m' => loopC a body xs acc m'
    | _ => .bad) else .bad
def loopW (c : Env → M Bool) (body : Env → M Fl) : Nat → Env → M Fl
  | 0, _ => nope
  | n + 1, ρ => bs ρ (c ρ) fun b => if b then (fun m => match body ρ m with
    | .ok (.nx ρ') m' => loopW c body n ρ' m'
    | .ok (.ct ρ') m' => loopW c body n ρ' m'
    | .ok (.bk ρ') m' => .ok (.nx ρ') m'
    | r => r) else ret (.nx ρ)
def lockM {α : Type} (i : Nat) (ρ : Env) (x : M α) : M α := fun m => match ρ[i]? with
  | some (some (.ref n)) => (match m[n]? with
    | some (.dct false kvs) => (match x (m.set n (.dct true kvs)) with
      | .ok a m' => .ok a (m'.set n (.dct false kvs))
      | _ => .bad)
    | _ => .bad)
  | _ => .bad
def noX (x : M Fl) : M Fl := fun m => match x m with
  | .ok (.xc _ _ _) _ => .bad
  | r => r
def tru : D → M Bool
  | .bl b => ret b
  | _ => nope
def varM (i : Nat) (ρ : Env) : M D := match ρ[i]? with
  | some (some d) => ret d
  | _ => nope
def xAll : List Str := ["NotWon", "TooMany", "NoPick", "NoBack", "NoRow", "NoLine"]
def subX (c n : Str) : Bool := decide (c = n) || (decide (n = "ClaimError") || decide (n = "ValueError"))
def isxM (ns : List Str) : D → D → M D
  | .exo a, .tup [.str c, .exo b] => if a = b then ret (.bl (ns.any (subX c))) else nope
  | _, _ => nope
def unX (i : Nat) : Res Fl → Res Fl
  | .ok (.nx ρ) m => .ok (.nx (ρ.set i none)) m
  | .ok (.rt d) m => .ok (.rt d) m
  | .ok (.bk ρ) m => .ok (.bk (ρ.set i none)) m
  | .ok (.ct ρ) m => .ok (.ct (ρ.set i none)) m
  | _ => .bad
open Classical in
noncomputable def suiteM (i : Nat) (f : Nat → Res Fl) : Res Fl := if h : ∃ r, ∀ a, unX i (f a) = r then choose h else .bad
def unN : Res Fl → Res Fl
  | .ok (.xc _ _ _) _ => .bad
  | .ok fl m => .ok fl m
  | _ => .bad
open Classical in
noncomputable def suiteN (f : Nat → Res Fl) : Res Fl := if h : ∃ r, ∀ a, unN (f a) = r then choose h else .bad
abbrev Gm := Str → List D → M D
def excG (c : Str) (a : Nat) (G : Gm) : Gm := fun f ds => if f = "" then ret (.tup [.str c, .exo a]) else G f ds
mutual
noncomputable def ev (G : Gm) : E → Env → M D
  | .var i, ρ => varM i ρ
  | .k d, _ => ret d
  | .g _ d, _ => ret d
  | .bin o a b, ρ => bd (ev G a ρ) fun x => bd (ev G b ρ) fun y => dBin o x y
  | .neg a, ρ => bd (ev G a ρ) dNeg
  | .not a, ρ => bd (ev G a ρ) fun x => bd (tru x) fun b => ret (.bl (!b))
  | .and a b, ρ => bd (ev G a ρ) fun x => bd (tru x) fun c => if c then ev G b ρ else ret (.bl false)
  | .or a b, ρ => bd (ev G a ρ) fun x => bd (tru x) fun c => if c then ret (.bl true) else ev G b ρ
  | .cmp o a b, ρ => bd (ev G a ρ) fun x => bd (ev G b ρ) fun y => cmpM o x y
  | .chn o o' a b c, ρ => bd (ev G a ρ) fun x => bd (ev G b ρ) fun y => bd (cmpM o x y) fun r => bd (tru r) fun t => if t then bd (ev G c ρ) fun z => cmpM o' y z else ret (.bl false)
  | .ite c a b, ρ => bd (ev G c ρ) fun x => bd (tru x) fun t => if t then ev G a ρ else ev G b ρ
  | .tup es, ρ => bd (evs G es ρ) fun xs => chk (xs.length ≤ sizeLine) (ret (.tup xs))
  | .lst es, ρ => bd (evs G es ρ) fun xs => chk (xs.length ≤ sizeLine) (alc (.lst xs))
  | .dct, _ => alc (.dct false [])
  | .ix a b, ρ => bd (ev G a ρ) fun x => bd (ev G b ρ) fun y => dIx x y
  | .slR a st, ρ => bd (ev G a ρ) fun x => bd (ev G st ρ) fun k => dRev x k
  | .sl a, ρ => bd (ev G a ρ) fun x => dSl x none none
  | .slL a lo, ρ => bd (ev G a ρ) fun x => bd (ev G lo ρ) fun l => bd (opt (partO (some l))) fun p => dSl x p none
  | .slU a hi, ρ => bd (ev G a ρ) fun x => bd (ev G hi ρ) fun l => bd (opt (partO (some l))) fun p => dSl x none p
  | .slB a lo hi, ρ => bd (ev G a ρ) fun x => bd (ev G lo ρ) fun l => bd (opt (partO (some l))) fun p => bd (ev G hi ρ) fun h => bd (opt (partO (some h))) fun q => dSl x p q
  | .call f es, ρ => bd (evs G es ρ) fun xs => G f xs
  | .bi f es, ρ => bd (evs G es ρ) fun xs => biF f xs
  | .isi t a, ρ => bd (ev G a ρ) fun x m => opt ((isTy m t x).map .bl) m
  | .me f o es, ρ => bd (ev G o ρ) fun x => bd (isLst x) fun _ => bd (evs G es ρ) fun xs => meF f x xs
  | .lrng1 t a, ρ => bd (ev G a ρ) fun x => bd (srcR2 (.int 0) x) fun s => if t then ret (.tup s.items) else alc (.lst s.items)
  | .lrng2 t a b, ρ => bd (ev G a ρ) fun x => bd (ev G b ρ) fun y => bd (srcR2 x y) fun s => if t then ret (.tup s.items) else alc (.lst s.items)
  | .sset a, ρ => bd (ev G a ρ) sset1
  | .dzip k a b, ρ => bd (ev G a ρ) fun x => bd (ev G b ρ) fun y => dZip k x y
  | .any, _ => nope
  | .sabs a, ρ => bd (ev G a ρ) sabsM
  | .sabsK a, ρ => bd (ev G a ρ) sabsKM
  | .mpd, _ => alc (.mp [])
  | .slen a, ρ => bd (ev G a ρ) slenM
  | .lvals a, ρ => bd (ev G a ρ) lvalsM
  | .fld c f a, ρ => bd (ev G a ρ) (fldM c f)
  | .mcall c f g o es, ρ => bd (ev G o ρ) fun x => bd (isIns c f x) fun _ => bd (evs G es ρ) fun xs => G g (x :: xs)
  | .ixK a b, ρ => bd (ev G a ρ) fun x => bd (ev G b ρ) fun y => ixKM x y
  | .hasK a b, ρ => bd (ev G a ρ) fun x => bd (ev G b ρ) fun y => hasM x y
  | .isx i ns, ρ => bd (varM i ρ) fun x => bd (G "" []) fun z => isxM ns x z
  | .getK o k z, ρ => bd (ev G o ρ) fun x => bd (isMp x) fun _ => bd (ev G k ρ) fun y => bd (ev G z ρ) fun u => getM x y u
  | .comp own t it elt, ρ => bd (evI G it ρ) fun s => bd (loopC s.at_ (fun x => bd (opt (asg t x (wipeD ρ own))) fun ρ' => bd (ev G elt ρ') fun d => ret (some d)) s.items []) fun ds => alc (.lst ds)
  | .compIf own t it c elt, ρ => bd (evI G it ρ) fun s => bd (loopC s.at_ (fun x => bd (opt (asg t x (wipeD ρ own))) fun ρ' => bd (ev G c ρ') fun y => bd (tru y) fun b => if b then bd (ev G elt ρ') fun d => ret (some d) else ret none) s.items []) fun ds => alc (.lst ds)
noncomputable def evs (G : Gm) : Es → Env → M (List D)
  | .nil, _ => ret []
  | .cons e r, ρ => bd (ev G e ρ) fun x => bd (evs G r ρ) fun xs => ret (x :: xs)
noncomputable def evI (G : Gm) : I → Env → M Src
  | .zip a b, ρ => bd (ev G a ρ) fun x => bd (ev G b ρ) fun y => bd (srcL x) fun s => bd (srcL y) fun u => chk (s.items.length = u.items.length) (ret ⟨zipL s.items u.items, s.at_ ++ u.at_⟩)
  | .exp e, ρ => bd (ev G e ρ) srcOf
  | .keys e, ρ => bd (ev G e ρ) srcK
  | .lk i e, ρ => bd (lockM i ρ (ev G e ρ)) srcOf
  | .rng1 a, ρ => bd (ev G a ρ) fun x => srcR2 (.int 0) x
  | .rng2 a b, ρ => bd (ev G a ρ) fun x => bd (ev G b ρ) fun y => srcR2 x y
  | .rng3 a b c, ρ => bd (ev G a ρ) fun x => bd (ev G b ρ) fun y => bd (ev G c ρ) fun z => srcR3 x y z
  | .enum e, ρ => bd (ev G e ρ) fun x => bd (srcS x) fun s => ret ⟨enumL 0 s.items, s.at_⟩
  | .rev e, ρ => bd (ev G e ρ) fun x => bd (srcS x) fun s => ret ⟨s.items.reverse, s.at_⟩
  | .revR a, ρ => bd (ev G a ρ) srcRv
end
mutual
/-- w: a bound of a while's turns -/
noncomputable def exe (G : Gm) (w : Nat) : S → Env → M Fl
  | .set i e, ρ => bs ρ (ev G e ρ) fun d => ret (.nx (ρ.set i (some d)))
  | .setT is e, ρ => bs ρ (ev G e ρ) fun d => bs ρ (asgH is d ρ) fun ρ' => ret (.nx ρ')
  | .setI o i e, ρ => bs ρ (ev G e ρ) fun v => bs ρ (ev G o ρ) fun x => bs ρ (ev G i ρ) fun k => bs ρ (dSet x k v) fun _ => ret (.nx ρ)
  | .ex e, ρ => bs ρ (ev G e ρ) fun _ => ret (.nx ρ)
  | .rt e, ρ => bs ρ (ev G e ρ) fun d => ret (.rt d)
  | .rt0, _ => ret (.rt .non)
  | .ite c a b, ρ => bs ρ (ev G c ρ) fun x => bs ρ (tru x) fun t => if t then exes G w a ρ else exes G w b ρ
  | .for t it b, ρ => bs ρ (evI G it ρ) fun s => loopF s.at_ (fun x ρ => bs ρ (opt (asg t x ρ)) fun ρ' => exes G w b ρ') s.items ρ
  | .forH is it b, ρ => bs ρ (evI G it ρ) fun s => loopF s.at_ (fun x ρ => bs ρ (asgH is x ρ) fun ρ' => exes G w b ρ') s.items ρ
  | .while c b, ρ => loopW (fun ρ => bd (ev G c ρ) tru) (fun ρ => exes G w b ρ) w ρ
  | .pass, ρ => ret (.nx ρ)
  | .brk, ρ => ret (.bk ρ)
  | .ctn, ρ => ret (.ct ρ)
  | .lk i s, ρ => lockM i ρ (noX (exe G w s ρ))
  | .any, _ => nope
  | .rs c, ρ => fun m => .ok (.xc ρ c []) m
  | .setF c f o e, ρ => bs ρ (ev G e ρ) fun v => bs ρ (ev G o ρ) fun x => bs ρ (setFM c f v x) fun _ => ret (.nx ρ)
  | .mkI c g n, ρ => bs ρ (opt (mapO id (ρ.take n))) fun xs => bs ρ (alc (.ins c [])) fun x => bs ρ (G g (x :: xs)) fun y => bs ρ (nonM y) fun _ => ret (.rt x)
  | .tr b x i h, ρ => fun m => match exes G w b ρ m with
    | .ok (.xc ρ' c []) m' => if c ∈ xAll then (if subX c x then suiteM i (fun a => exes (excG c a G) w h (ρ'.set i (some (.exo a))) m') else .ok (.xc ρ' c []) m') else .bad
    | .ok (.xc _ _ _) _ => .bad
    | r => r
  | .tr1 b x h, ρ => fun m => match exes G w b ρ m with
    | .ok (.xc ρ' c []) m' => if c ∈ xAll then (if subX c x then suiteN (fun a => exes (excG c a G) w h ρ' m') else .ok (.xc ρ' c []) m') else .bad
    | .ok (.xc _ _ _) _ => .bad
    | r => r
  | .tr2 b x h y k, ρ => fun m => match exes G w b ρ m with
    | .ok (.xc ρ' c []) m' => if c ∈ xAll then (if subX c x then suiteN (fun a => exes (excG c a G) w h ρ' m') else if subX c y then suiteN (fun a => exes (excG c a G) w k ρ' m') else .ok (.xc ρ' c []) m') else .bad
    | .ok (.xc _ _ _) _ => .bad
    | r => r
noncomputable def exes (G : Gm) (w : Nat) : Ss → Env → M Fl
  | .nil, ρ => ret (.nx ρ)
  | .cons s r, ρ => fun m => match exe G w s ρ m with
    | .ok (.nx ρ') m' => exes G w r ρ' m'
    | r => r
end
structure Fn where
  np : Nat
  nv : Nat
  body : Ss
def flD : Fl → M D
  | .nx _ => ret .non
  | .rt d => ret d
  | .xc _ c fs => fun m => .exc c fs m
  | _ => nope
def finM (x : M Fl) : M D := fun m => match x m with
  | .ok fl m' => flD fl m'
  | _ => .bad
noncomputable def run (t : Str → Option Fn) (w : Nat) : Nat → Gm
  | 0, _, _ => nope
  | n + 1, f, xs => match t f with
    | some d => if xs.length = d.np then finM (exes (run t w n) w d.body (xs.map some ++ List.replicate (d.nv - d.np) none)) else nope
    | none => nope
end Af
namespace Af
open PySem PySem.Spec PyProof.Rows L2
theorem PEimp {X : Cx} {e : Expr} {t t' : TE} (h : PE X e t) (i : ∀ σ H Q, t' σ H Q → t σ H Q) : PE X e t' := ⟨fun pins s σ H Q I q => h.run pins s σ H Q I (i σ H Q q)⟩
theorem PTimp {X : Cx} {e : Expr} {t t' : TT} (h : PT X e t) (i : ∀ σ H Q, t' σ H Q → t σ H Q) : PT X e t' := ⟨fun pins s σ H Q I q => h.run pins s σ H Q I (i σ H Q q)⟩
theorem PWimp {X : Cx} {e : Expr} {t t' : TT} (h : PW X e t) (i : ∀ σ H Q, t' σ H Q → t σ H Q) : PW X e t' := ⟨fun whole pins s σ H Q I q => h.run whole pins s σ H Q I (i σ H Q q)⟩
theorem PAimp {X : Cx} {e : List Expr} {t t' : TA} (h : PA X e t) (i : ∀ σ H Q, t' σ H Q → t σ H Q) : PA X e t' := ⟨fun pos pins s σ H Q I q => h.run pos pins s σ H Q I (i σ H Q q)⟩
theorem PSimp {X : Cx} {e : Stmt} {t t' : TS} (h : PS X e t) (i : ∀ D σ H, t' D σ H → t D σ H) : PS X e t' := ⟨fun pins s σ H D I q => h.run pins s σ H D I (i D σ H q)⟩
theorem PSsimp {X : Cx} {e : List Stmt} {t t' : TS} (h : PSs X e t) (i : ∀ D σ H, t' D σ H → t D σ H) : PSs X e t' := ⟨fun pins s σ H D I q => h.run pins s σ H D I (i D σ H q)⟩
section
variable (K : PySem.W.Frag) (H : Hp) (as : List Addr)
mutual
inductive Rep : V → D → Prop
  | non : Rep .non .non
  | bl (b : Bool) : Rep (.bl b) (.bl b)
  | int (i : Int) : Rep (.int i) (.int i)
  | str (x : Str) : Rep (.str x) (.str x)
  | tup {a : Addr} {xs : List V} {ds : List D} : SqT K H a xs → xs.length ≤ sizeLine → Reps xs ds → Rep (.ref a) (.tup ds)
  | ref {a : Addr} {n : Nat} : as[n]? = some a → Rep (.ref a) (.ref n)
  | exo (a : Addr) : Rep (.ref a) (.exo a)
inductive Reps : List V → List D → Prop
  | nil : Reps [] []
  | cons {v : V} {d : D} {vs : List V} {ds : List D} : Rep v d → Reps vs ds → Reps (v :: vs) (d :: ds)
end
end
section
variable {K : PySem.W.Frag} {H H' : Hp} {as as' : List Addr}
theorem Reps.length : ∀ {vs : List V} {ds : List D}, Reps K H as vs ds → vs.length = ds.length
  | [], _, h => by cases h; rfl
  | v :: vs, _, h => by
    cases h with
    | cons _ t => simp [Reps.length t]
theorem Reps.get : ∀ {vs : List V} {ds : List D} {i : Nat} {d : D}, Reps K H as vs ds → ds[i]? = some d → ∃ v, vs[i]? = some v ∧ Rep K H as v d
  | [], _, i, d, h, e => by cases h; simp at e
  | v :: vs, _, 0, d, h, e => by
    cases h with
    | cons r t => simp at e; subst e; exact ⟨_, rfl, r⟩
  | v :: vs, _, i + 1, d, h, e => by
    cases h with
    | cons r t =>
      obtain ⟨w, h1, h2⟩ := Reps.get (i := i) t (by simpa using e)
      exact ⟨w, by simpa using h1, h2⟩
theorem Reps.app : ∀ {vs ws : List V} {ds es : List D}, Reps K H as vs ds → Reps K H as ws es → Reps K H as (vs ++ ws) (ds ++ es)
  | [], _, _, _, h, k => by cases h; exact k
  | v :: vs, _, _, _, h, k => by
    cases h with
    | cons r t => exact .cons r (Reps.app t k)
theorem Reps.take : ∀ {vs : List V} {ds : List D} (n : Nat), Reps K H as vs ds → Reps K H as (vs.take n) (ds.take n)
  | _, _, 0, h => by simpa using Reps.nil
  | [], _, n + 1, h => by cases h; simpa using Reps.nil
  | v :: vs, _, n + 1, h => by
    cases h with
    | cons r t => simpa using Reps.cons r (Reps.take n t)
theorem Reps.drop : ∀ {vs : List V} {ds : List D} (n : Nat), Reps K H as vs ds → Reps K H as (vs.drop n) (ds.drop n)
  | _, _, 0, h => by simpa using h
  | [], _, n + 1, h => by cases h; simpa using Reps.nil
  | v :: vs, _, n + 1, h => by
    cases h with
    | cons r t => simpa using Reps.drop n t
theorem Reps.set {v : V} {d : D} (r : Rep K H as v d) : ∀ {vs : List V} {ds : List D} (i : Nat), Reps K H as vs ds → Reps K H as (vs.set i v) (ds.set i d)
  | [], _, i, h => by cases h; simpa using Reps.nil
  | w :: vs, _, 0, h => by
    cases h with
    | cons _ t => simpa using Reps.cons r t
  | w :: vs, _, i + 1, h => by
    cases h with
    | cons q t => simpa using Reps.cons q (Reps.set r i t)
theorem Reps.erase : ∀ {vs : List V} {ds : List D} (i : Nat), Reps K H as vs ds → Reps K H as (vs.eraseIdx i) (ds.eraseIdx i)
  | [], _, i, h => by cases h; simpa using Reps.nil
  | w :: vs, _, 0, h => by
    cases h with
    | cons _ t => simpa using t
  | w :: vs, _, i + 1, h => by
    cases h with
    | cons q t => simpa using Reps.cons q (Reps.erase i t)
theorem Reps.last {vs : List V} {ds : List D} (h : Reps K H as vs ds) : Reps K H as vs.dropLast ds.dropLast := by
  rw [List.dropLast_eq_take, List.dropLast_eq_take, h.length]
  exact h.take _
theorem Reps.rev : ∀ {vs : List V} {ds : List D}, Reps K H as vs ds → Reps K H as vs.reverse ds.reverse
  | [], _, h => by cases h; simpa using Reps.nil
  | v :: vs, _, h => by
    cases h with
    | cons r t => simpa using (Reps.rev t).app (.cons r .nil)
theorem Reps.cut {vs : List V} {ds : List D} (h : Reps K H as vs ds) (lo hi : Option Int) : Reps K H as (cutV vs lo hi) (cut ds lo hi) := by
  unfold cutV Af.cut
  rw [h.length]
  exact (h.drop _).take _
theorem Reps.rep {vs : List V} {ds : List D} (h : Reps K H as vs ds) : ∀ k : Nat, Reps K H as (List.replicate k vs).flatten (List.replicate k ds).flatten
  | 0 => by simpa using Reps.nil
  | k + 1 => by simpa [List.replicate_succ] using h.app (Reps.rep h k)
end
section
variable (P : Program) (w : World) (K : PySem.W.Frag)
def DctAt (a : Addr) (l : List (NestedKey × Addr × V)) (h : Heap) : Prop :=
  (a == sysModules) = false ∧ ∃ o es ep, ∃ xs : List (NestedKey × Addr × Value), h.get? a = some o ∧ o.ExactDict ∧ o.data = .dict es ep ∧ es.toList = xs.map (entryOfKey (nestedKind P w)) ∧ Paired (fun (p : NestedKey × Addr × V) (x : NestedKey × Addr × Value) => x.1 = p.1 ∧ x.2.1 = p.2.1 ∧ RelV p.2.2 x.2.2) l xs
inductive DRel (H : Hp) (as : List Addr) : List (NestedKey × Addr × V) → List (D × D) → Prop
  | nil : DRel H as [] []
  | cons {k : NestedKey} {b : Addr} {v : V} {q d : D} {l : List (NestedKey × Addr × V)} {kvs : List (D × D)} : kd q = some k → Rep K H as (.ref b) q → Rep K H as v d → DRel H as l kvs → DRel H as ((k, b, v) :: l) ((q, d) :: kvs)
inductive ORep (H : Hp) (as : List Addr) (a : Addr) : HO → O → Prop
  | lst {vs : List V} {ds : List D} : vs.length ≤ sizeLine → Reps K H as vs ds → ORep H as a (.lst vs) (.lst ds)
  | fls {o : Obj} {vs : List V} {ds : List D} : vs.length ≤ sizeLine → Reps K H as vs ds → ORep H as a (.frz o (.lst vs)) (.fls ds)
  | dct {l : List (NestedKey × Addr × V)} {kvs : List (D × D)} : kvs.length ≤ sizeLine → (l.map (·.1)).Nodup → DRel K H as l kvs → ORep H as a (.ext (DctAt P w a l)) (.dct false kvs)
  | fdc {o : Obj} {l : List (NestedKey × Addr × V)} {kvs : List (D × D)} : kvs.length ≤ sizeLine → (l.map (·.1)).Nodup → DRel K H as l kvs → ORep H as a (.frz o (.ext (DctAt P w a l))) (.dct true kvs)
  | ins {c : Str} {dx : Addr} {fs : List (Str × V)} {ds : List (Str × D)} : H dx = some (.own a) → dx ∉ as → fs.map (·.1) = ds.map (·.1) → Reps K H as (fs.map (·.2)) (ds.map (·.2)) → ORep H as a (.ins (He.ga K c) dx fs) (.ins c ds)
  | mp {kv : List (Key × V)} {ds : List (Int × D)} : kv.map (·.1) = ds.map (fun p => Sum.inl p.1) → Reps K H as (kv.map (·.2)) (ds.map (·.2)) → ORep H as a (.dK kv) (.mp ds)
structure HRep (as : List Addr) (m : Mu) (H : Hp) : Prop where
  len : as.length = m.length
  nd : as.Nodup
  ob : ∀ (n : Nat) o a, m[n]? = some o → as[n]? = some a → ∃ ho, H a = some ho ∧ ORep P w K H as a ho o
def Kp0 (as as' : List Addr) (H H' : Hp) : Prop := (∃ t, as' = as ++ t) ∧ ∀ b o, H b = some o → b ∉ as → H' b = some o ∧ b ∉ as'
def Kp (as as' : List Addr) (H H' : Hp) : Prop := Kp0 as as' H H' ∧ ∀ b o u, H b = some (.frz o u) → H' b = some (.frz o u)
end
theorem Kp0.trans {as as1 as2 : List Addr} {H H1 H2 : Hp} (a : Kp0 as as1 H H1) (b : Kp0 as1 as2 H1 H2) : Kp0 as as2 H H2 := by
  obtain ⟨⟨t, e⟩, k⟩ := a
  obtain ⟨⟨t', e'⟩, k'⟩ := b
  refine ⟨⟨t ++ t', by rw [e', e, List.append_assoc]⟩, fun b o h n => ?_⟩
  obtain ⟨h1, n1⟩ := k b o h n
  exact k' b o h1 n1
theorem Kp.refl {as : List Addr} {H : Hp} : Kp as as H H := ⟨⟨⟨[], by simp⟩, fun _ _ h n => ⟨h, n⟩⟩, fun _ _ _ h => h⟩
theorem Kp.trans {as as1 as2 : List Addr} {H H1 H2 : Hp} (a : Kp as as1 H H1) (b : Kp as1 as2 H1 H2) : Kp as as2 H H2 := ⟨a.1.trans b.1, fun b' o u h => b.2 b' o u (a.2 b' o u h)⟩
theorem Kp0.get {as as' : List Addr} {H H' : Hp} (k : Kp0 as as' H H') {n : Nat} {a : Addr} (h : as[n]? = some a) : as'[n]? = some a := by
  obtain ⟨⟨t, e⟩, _⟩ := k
  rw [e, List.getElem?_append_left (List.getElem?_eq_some_iff.mp h).1]
  exact h
theorem Kp.get {as as' : List Addr} {H H' : Hp} (k : Kp as as' H H') {n : Nat} {a : Addr} (h : as[n]? = some a) : as'[n]? = some a := k.1.get h
section
variable {P : Program} {w : World} {K : PySem.W.Frag} {H H' : Hp} {as as' : List Addr} {m m' : Mu}
theorem HRep.notTup (r : HRep P w K as m H) {a : Addr} {xs : List V} (h : H a = some (.tup xs)) : a ∉ as := fun q => by
  obtain ⟨n, e⟩ := List.getElem?_of_mem q
  have hl : n < m.length := by rw [← r.len]; exact (List.getElem?_eq_some_iff.mp e).1
  obtain ⟨ho, h1, h2⟩ := r.ob n m[n] a (by simp [hl]) e
  rw [h] at h1; cases h1
  generalize m[n] = oo at h2
  cases h2
theorem HRep.notFrzTup (r : HRep P w K as m H) {a : Addr} {o : Obj} {xs : List V} (h : H a = some (.frz o (.tup xs))) : a ∉ as := fun q => by
  obtain ⟨n, e⟩ := List.getElem?_of_mem q
  have hl : n < m.length := by rw [← r.len]; exact (List.getElem?_eq_some_iff.mp e).1
  obtain ⟨ho, h1, h2⟩ := r.ob n m[n] a (by simp [hl]) e
  rw [h] at h1; cases h1
  generalize m[n] = oo at h2
  cases h2
theorem SqT.mono0 (r : HRep P w K as m H) (k : Kp0 as as' H H') {a : Addr} {xs : List V} (h : SqT K H a xs) : SqT K H' a xs := by
  rcases h with (h | ⟨o, h⟩) | h
  · exact .inl (.inl (k.2 a _ h (r.notTup h)).1)
  · exact .inl (.inr ⟨o, (k.2 a _ h (r.notFrzTup h)).1⟩)
  · exact .inr h
mutual
theorem Rep.mono0 (r : HRep P w K as m H) (k : Kp0 as as' H H') : ∀ {v : V} {d : D}, Rep K H as v d → Rep K H' as' v d
  | _, _, .non => .non
  | _, _, .bl b => .bl b
  | _, _, .int i => .int i
  | _, _, .str x => .str x
  | _, _, .tup h l t => .tup (SqT.mono0 r k h) l (Reps.mono0 r k t)
  | _, _, .ref h => .ref (k.get h)
  | _, _, .exo a => .exo a
theorem Reps.mono0 (r : HRep P w K as m H) (k : Kp0 as as' H H') : ∀ {v : List V} {d : List D}, Reps K H as v d → Reps K H' as' v d
  | _, _, .nil => .nil
  | _, _, .cons h t => .cons (Rep.mono0 r k h) (Reps.mono0 r k t)
end
theorem DRel.mono0 (r : HRep P w K as m H) (k : Kp0 as as' H H') : ∀ {l : List (NestedKey × Addr × V)} {kvs : List (D × D)}, DRel K H as l kvs → DRel K H' as' l kvs
  | _, _, .nil => .nil
  | _, _, .cons h1 h2 h3 t => .cons h1 (Rep.mono0 r k h2) (Rep.mono0 r k h3) (DRel.mono0 r k t)
theorem ORep.mono0 (r : HRep P w K as m H) (k : Kp0 as as' H H') {a : Addr} : ∀ {ho : HO} {o : O}, ORep P w K H as a ho o → ORep P w K H' as' a ho o
  | _, _, .lst h1 h2 => .lst h1 (h2.mono0 r k)
  | _, _, .fls h1 h2 => .fls h1 (h2.mono0 r k)
  | _, _, .dct h1 h2 h3 => .dct h1 h2 (h3.mono0 r k)
  | _, _, .fdc h1 h2 h3 => .fdc h1 h2 (h3.mono0 r k)
  | _, _, .ins h1 h2 h3 h4 => .ins (k.2 _ _ h1 h2).1 (k.2 _ _ h1 h2).2 h3 (h4.mono0 r k)
  | _, _, .mp h1 h2 => .mp h1 (h2.mono0 r k)
theorem SqT.mono (r : HRep P w K as m H) (k : Kp as as' H H') {a : Addr} {xs : List V} (h : SqT K H a xs) : SqT K H' a xs := SqT.mono0 r k.1 h
theorem Rep.mono (r : HRep P w K as m H) (k : Kp as as' H H') {v : V} {d : D} (h : Rep K H as v d) : Rep K H' as' v d := Rep.mono0 r k.1 h
theorem Reps.mono (r : HRep P w K as m H) (k : Kp as as' H H') {v : List V} {d : List D} (h : Reps K H as v d) : Reps K H' as' v d := Reps.mono0 r k.1 h
theorem DRel.mono (r : HRep P w K as m H) (k : Kp as as' H H') {l : List (NestedKey × Addr × V)} {kvs : List (D × D)} (h : DRel K H as l kvs) : DRel K H' as' l kvs := DRel.mono0 r k.1 h
theorem ORep.mono (r : HRep P w K as m H) (k : Kp as as' H H') {a : Addr} {ho : HO} {o : O} (h : ORep P w K H as a ho o) : ORep P w K H' as' a ho o := ORep.mono0 r k.1 h
theorem HRep.new (r : HRep P w K as m H) {p : Addr} {ho : HO} {o : O} (hp : H p = none) (q : ORep P w K (upd H p ho) (as ++ [p]) p ho o) : Kp as (as ++ [p]) H (upd H p ho) ∧ HRep P w K (as ++ [p]) (m ++ [o]) (upd H p ho) := by
  have np : p ∉ as := fun z => by
    obtain ⟨n, e⟩ := List.getElem?_of_mem z
    have hl : n < m.length := by rw [← r.len]; exact (List.getElem?_eq_some_iff.mp e).1
    obtain ⟨ho, h1, _⟩ := r.ob n m[n] p (by simp [hl]) e
    rw [hp] at h1; cases h1
  have kp : Kp as (as ++ [p]) H (upd H p ho) := ⟨⟨⟨[p], rfl⟩, fun b o h n => by
    have e : b ≠ p := ne_of_none h hp
    exact ⟨by rw [upd_ne e]; exact h, by simp [n, e]⟩⟩, fun b o u h => by rw [upd_ne (ne_of_none h hp)]; exact h⟩
  refine ⟨kp, by simp [r.len], ?_, fun n o' a h1 h2 => ?_⟩
  · rw [List.nodup_append]
    exact ⟨r.nd, by simp, fun a ha b hb => by simp at hb; subst hb; intro e; subst e; exact np ha⟩
  · by_cases hn : n < m.length
    · rw [List.getElem?_append_left hn] at h1
      rw [List.getElem?_append_left (by rw [r.len]; exact hn)] at h2
      obtain ⟨ho', h3, h4⟩ := r.ob n o' a h1 h2
      exact ⟨ho', by rw [upd_ne (ne_of_none h3 hp)]; exact h3, h4.mono r kp⟩
    · have e : n = m.length := by
        have := (List.getElem?_eq_some_iff.mp h1).1
        simp at this
        omega
      subst e
      rw [List.getElem?_append_right (Nat.le_refl _)] at h1
      rw [← r.len, List.getElem?_append_right (Nat.le_refl _)] at h2
      simp at h1 h2
      subst h1 h2
      exact ⟨ho, upd_same, q⟩
theorem HRep.tup (r : HRep P w K as m H) {p : Addr} {xs : List V} (hp : H p = none) : Kp as as H (upd H p (.tup xs)) ∧ HRep P w K as m (upd H p (.tup xs)) := by
  have np : p ∉ as := fun z => by
    obtain ⟨n, e⟩ := List.getElem?_of_mem z
    have hl : n < m.length := by rw [← r.len]; exact (List.getElem?_eq_some_iff.mp e).1
    obtain ⟨ho, h1, _⟩ := r.ob n m[n] p (by simp [hl]) e
    rw [hp] at h1; cases h1
  have kp : Kp as as H (upd H p (.tup xs)) := ⟨⟨⟨[], by simp⟩, fun b o h n => ⟨by rw [upd_ne (ne_of_none h hp)]; exact h, n⟩⟩, fun b o u h => by rw [upd_ne (ne_of_none h hp)]; exact h⟩
  refine ⟨kp, r.len, r.nd, fun n o a h1 h2 => ?_⟩
  obtain ⟨ho', h3, h4⟩ := r.ob n o a h1 h2
  exact ⟨ho', by rw [upd_ne (ne_of_none h3 hp)]; exact h3, h4.mono r kp⟩
def Wr : Option HO → Prop
  | some (.tup _) => False
  | some (.frz _ _) => False
  | _ => True
theorem HRep.upd0 (r : HRep P w K as m H) {p : Addr} {n : Nat} {ho : HO} {o : O} (hp : as[n]? = some p) (q : (Kp0 as as H (upd H p ho)) → ORep P w K (L2.upd H p ho) as p ho o) : Kp0 as as H (L2.upd H p ho) ∧ HRep P w K as (m.set n o) (L2.upd H p ho) := by
  have kp : Kp0 as as H (L2.upd H p ho) := ⟨⟨[], by simp⟩, fun b o h hb => by
    have e : b ≠ p := fun z => hb (by rw [z]; exact List.mem_of_getElem? hp)
    exact ⟨by rw [upd_ne e]; exact h, hb⟩⟩
  refine ⟨kp, by simp [r.len], r.nd, fun k o' a h1 h2 => ?_⟩
  by_cases hk : k = n
  · subst hk
    rw [hp] at h2; cases h2
    have hl : k < m.length := by rw [← r.len]; exact (List.getElem?_eq_some_iff.mp hp).1
    rw [List.getElem?_set_self hl] at h1
    cases h1
    exact ⟨ho, upd_same, q kp⟩
  · rw [List.getElem?_set_ne (Ne.symm hk)] at h1
    obtain ⟨ho', h3, h4⟩ := r.ob k o' a h1 h2
    have ne : a ≠ p := fun z => hk (by
      subst z
      obtain ⟨l1, e1⟩ := List.getElem?_eq_some_iff.mp h2
      obtain ⟨l2, e2⟩ := List.getElem?_eq_some_iff.mp hp
      exact (List.getElem_inj r.nd).mp (e1.trans e2.symm))
    exact ⟨ho', by rw [upd_ne ne]; exact h3, h4.mono0 r kp⟩
theorem HRep.upd (r : HRep P w K as m H) {p : Addr} {n : Nat} {ho : HO} {o : O} (hp : as[n]? = some p) (nt : Wr (H p)) (q : (Kp as as H (upd H p ho)) → ORep P w K (L2.upd H p ho) as p ho o) : Kp as as H (L2.upd H p ho) ∧ HRep P w K as (m.set n o) (L2.upd H p ho) := by
  have fr : ∀ b o u, H b = some (.frz o u) → L2.upd H p ho b = some (.frz o u) := fun b o u h => by
    have e : b ≠ p := fun z => by rw [← z, h] at nt; exact nt
    rw [upd_ne e]; exact h
  obtain ⟨k, h⟩ := r.upd0 hp (ho := ho) (o := o) fun k => q ⟨k, fr⟩
  exact ⟨⟨k, fr⟩, h⟩
theorem HRep.at (r : HRep P w K as m H) {a : Addr} {n : Nat} {o : O} (hp : as[n]? = some a) (h : m[n]? = some o) : ∃ ho, H a = some ho ∧ ORep P w K H as a ho o := r.ob n o a h hp
theorem HRep.lst (r : HRep P w K as m H) {a : Addr} {n : Nat} {ds : List D} (hp : as[n]? = some a) (h : m[n]? = some (.lst ds)) : ∃ vs, H a = some (.lst vs) ∧ vs.length ≤ sizeLine ∧ Reps K H as vs ds := by
  obtain ⟨ho, h1, h2⟩ := r.ob n _ a h hp
  cases h2 with
  | lst z q => exact ⟨_, h1, z, q⟩
theorem HRep.fls (r : HRep P w K as m H) {a : Addr} {n : Nat} {ds : List D} (hp : as[n]? = some a) (h : m[n]? = some (.fls ds)) : ∃ o vs, H a = some (.frz o (.lst vs)) ∧ vs.length ≤ sizeLine ∧ Reps K H as vs ds := by
  obtain ⟨ho, h1, h2⟩ := r.ob n _ a h hp
  cases h2 with
  | fls z q => exact ⟨_, _, h1, z, q⟩
def DOb (H : Hp) (a : Addr) (φ : Heap → Prop) : Bool → Prop
  | false => H a = some (.ext φ)
  | true => ∃ o, H a = some (.frz o (.ext φ))
theorem HRep.dct (r : HRep P w K as m H) {a : Addr} {n : Nat} {fz : Bool} {kvs : List (D × D)} (hp : as[n]? = some a) (h : m[n]? = some (.dct fz kvs)) : ∃ l, DOb H a (DctAt P w a l) fz ∧ kvs.length ≤ sizeLine ∧ (l.map (·.1)).Nodup ∧ DRel K H as l kvs := by
  obtain ⟨ho, h1, h2⟩ := r.ob n _ a h hp
  cases h2 with
  | dct z1 z2 z3 => exact ⟨_, h1, z1, z2, z3⟩
  | fdc z1 z2 z3 => exact ⟨_, ⟨_, h1⟩, z1, z2, z3⟩
theorem HRep.mpk (r : HRep P w K as m H) {a : Addr} {n : Nat} {ds : List (Int × D)} (hp : as[n]? = some a) (h : m[n]? = some (.mp ds)) : ∃ kv, H a = some (.dK kv) ∧ kv.map (·.1) = ds.map (fun p => Sum.inl p.1) ∧ Reps K H as (kv.map (·.2)) (ds.map (·.2)) := by
  obtain ⟨ho, h1, h2⟩ := r.ob n _ a h hp
  cases h2 with
  | mp z q => exact ⟨_, h1, z, q⟩
theorem HRep.insk (r : HRep P w K as m H) {a : Addr} {n : Nat} {c : Str} {ds : List (Str × D)} (hp : as[n]? = some a) (h : m[n]? = some (.ins c ds)) : ∃ dx fs, H a = some (.ins (He.ga K c) dx fs) ∧ H dx = some (.own a) ∧ dx ∉ as ∧ fs.map (·.1) = ds.map (·.1) ∧ Reps K H as (fs.map (·.2)) (ds.map (·.2)) := by
  obtain ⟨ho, h1, h2⟩ := r.ob n _ a h hp
  cases h2 with
  | ins z1 z2 z3 z4 => exact ⟨_, _, h1, z1, z2, z3, z4⟩
theorem fldI_rep {c : Str} {d : D} {f : Str} : ∀ {fs : List (Str × V)} {ds : List (Str × D)}, fs.map (·.1) = ds.map (·.1) → Reps K H as (fs.map (·.2)) (ds.map (·.2)) → ds.lookup f = some d → ∃ v, fs.lookup f = some v ∧ Rep K H as v d
  | [], [], _, _, h => by cases h
  | [], _ :: _, e, _, _ => by cases e
  | _ :: _, [], e, _, _ => by cases e
  | (g, v) :: fs, (g', d') :: ds, e, r, h => by
    simp only [List.map_cons, List.cons.injEq] at e
    obtain ⟨e1, e2⟩ := e
    have e1 : g = g' := e1
    subst e1
    rw [List.map_cons, List.map_cons] at r
    cases r with
    | cons r1 r2 =>
      rw [List.lookup_cons] at h ⊢
      cases q : f == g with
      | true =>
        rw [q] at h
        cases h
        exact ⟨v, rfl, r1⟩
      | false =>
        rw [q] at h
        exact fldI_rep (c := c) e2 r2 h
theorem fldI_none {f : Str} : ∀ {fs : List (Str × V)} {ds : List (Str × D)}, fs.map (·.1) = ds.map (·.1) → ds.lookup f = none → fs.lookup f = none
  | [], [], _, _ => rfl
  | [], _ :: _, e, _ => by cases e
  | _ :: _, [], e, _ => by cases e
  | (g, v) :: fs, (g', d') :: ds, e, h => by
    simp only [List.map_cons, List.cons.injEq] at e
    obtain ⟨e1, e2⟩ := e
    have e1 : g = g' := e1
    subst e1
    rw [List.lookup_cons] at h ⊢
    cases q : f == g with
    | true => rw [q] at h; cases h
    | false =>
      rw [q] at h
      exact fldI_none e2 h
theorem putI_keys {f : Str} {v : V} {d : D} : ∀ {fs : List (Str × V)} {ds : List (Str × D)}, fs.map (·.1) = ds.map (·.1) → (L2.putF f v fs).map (·.1) = (putFD f d ds).map (·.1)
  | [], [], _ => rfl
  | [], _ :: _, e => by cases e
  | _ :: _, [], e => by cases e
  | (g, x) :: fs, (g', y) :: ds, e => by
    simp only [List.map_cons, List.cons.injEq] at e
    obtain ⟨e1, e2⟩ := e
    have e1 : g = g' := e1
    subst e1
    unfold L2.putF putFD
    by_cases c : g = f
    · rw [if_pos c, if_pos c, List.map_cons, List.map_cons, e2]
    · rw [if_neg c, if_neg c, List.map_cons, List.map_cons, putI_keys e2]
theorem putI_rep {f : Str} {v : V} {d : D} (rv : Rep K H as v d) : ∀ {fs : List (Str × V)} {ds : List (Str × D)}, fs.map (·.1) = ds.map (·.1) → Reps K H as (fs.map (·.2)) (ds.map (·.2)) → Reps K H as ((L2.putF f v fs).map (·.2)) ((putFD f d ds).map (·.2))
  | [], [], _, _ => .cons rv .nil
  | [], _ :: _, e, _ => by cases e
  | _ :: _, [], e, _ => by cases e
  | (g, x) :: fs, (g', y) :: ds, e, r => by
    simp only [List.map_cons, List.cons.injEq] at e
    obtain ⟨e1, e2⟩ := e
    have e1 : g = g' := e1
    subst e1
    rw [List.map_cons, List.map_cons] at r
    cases r with
    | cons r1 r2 =>
      unfold L2.putF putFD
      by_cases c : g = f
      · rw [if_pos c, if_pos c, List.map_cons, List.map_cons]
        exact .cons rv r2
      · rw [if_neg c, if_neg c, List.map_cons, List.map_cons]
        exact .cons r1 (putI_rep rv e2 r2)
theorem HRep.newI (r : HRep P w K as m H) {p dx : Addr} {c : Str} (hp : H p = none) (hd : H dx = none) (ne : dx ≠ p) : Kp as (as ++ [p]) H (L2.upd (L2.upd H dx (.own p)) p (.ins (He.ga K c) dx [])) ∧ HRep P w K (as ++ [p]) (m ++ [.ins c []]) (L2.upd (L2.upd H dx (.own p)) p (.ins (He.ga K c) dx [])) := by
  have nd : dx ∉ as := fun z => by
    obtain ⟨n, e⟩ := List.getElem?_of_mem z
    have hl : n < m.length := by rw [← r.len]; exact (List.getElem?_eq_some_iff.mp e).1
    obtain ⟨ho, h1, _⟩ := r.ob n m[n] dx (by simp [hl]) e
    rw [hd] at h1; cases h1
  have kp : Kp as as H (L2.upd H dx (.own p)) := ⟨⟨⟨[], by simp⟩, fun b o h n => ⟨by rw [upd_ne (ne_of_none h hd)]; exact h, n⟩⟩, fun b o u h => by rw [upd_ne (ne_of_none h hd)]; exact h⟩
  have r1 : HRep P w K as m (L2.upd H dx (.own p)) := ⟨r.len, r.nd, fun n o a h1 h2 => by
    obtain ⟨ho', h3, h4⟩ := r.ob n o a h1 h2
    exact ⟨ho', by rw [upd_ne (ne_of_none h3 hd)]; exact h3, h4.mono r kp⟩⟩
  obtain ⟨k2, r2⟩ := r1.new (p := p) (ho := .ins (He.ga K c) dx []) (o := .ins c []) (by rw [upd_ne (Ne.symm ne)]; exact hp) (.ins (by rw [upd_ne ne, upd_same]) (by simp [nd, ne]) rfl .nil)
  exact ⟨kp.trans k2, r2⟩
theorem HRep.read (r : HRep P w K as m H) {a : Addr} {n : Nat} {ds : List D} (hp : as[n]? = some a) (h : lstAt m n = some ds) : ∃ vs, SqL K H a vs ∧ vs.length ≤ sizeLine ∧ Reps K H as vs ds := by
  unfold lstAt at h
  split at h
  · rename_i e
    cases h
    obtain ⟨vs, h1, h2, h3⟩ := r.lst hp e
    exact ⟨vs, SqL.of h1, h2, h3⟩
  · rename_i e
    cases h
    obtain ⟨o, vs, h1, h2, h3⟩ := r.fls hp e
    exact ⟨vs, .inl (.inr ⟨o, h1⟩), h2, h3⟩
  · cases h
end
section
variable (P : Program) (w : World) (K : PySem.W.Frag) (mg : Str → Option Value)
def XRep (H : Hp) (as : List Addr) (d : Option Addr) (fs : List (Str × D)) : Prop :=
  (fs = [] ∧ d = none) ∨ fs ≠ [] ∧ ∃ dx vs, d = some dx ∧ H dx = some (.xd vs) ∧ dx ∉ as ∧ vs.map (·.1) = fs.map (·.1) ∧ Reps K H as (vs.map (·.2)) (fs.map (·.2))
def Vg {α β : Type} (R : List Addr → Hp → β → α → Prop) (as : List Addr) (H : Hp) (r : Res α) (Q : β → Hp → Prop) (E : XK) : Prop := match r with
  | .ok a m' => ∀ b as' H', Kp as as' H H' → HRep P w K as' m' H' → R as' H' b a → Q b H'
  | .exc c fs m' => ∀ C d as' H', mg c = some (.ref C) → Kp as as' H H' → HRep P w K as' m' H' → XRep K H' as' d fs → E (.ref C) d H'
  | .bad => False
abbrev RD : List Addr → Hp → V → D → Prop := fun as H v d => Rep K H as v d
abbrev RDs : List Addr → Hp → List V → List D → Prop := fun as H v d => Reps K H as v d
abbrev RB : List Addr → Hp → Bool → Bool → Prop := fun _ _ a b => a = b
end
section
variable {P : Program} {w : World} {K : PySem.W.Frag} {mg : Str → Option Value} {α β γ δ : Type} {R : List Addr → Hp → β → α → Prop} {R' : List Addr → Hp → δ → γ → Prop} {as as1 : List Addr} {H H1 : Hp} {m : Mu} {Q Q' : β → Hp → Prop} {Q2 : δ → Hp → Prop} {E : XK}
theorem Vg.mono {r : Res α} (h : Vg P w K mg R as H r Q E) (i : ∀ b H, Q b H → Q' b H) : Vg P w K mg R as H r Q' E := by
  cases r with
  | ok a m' => exact fun b as' H' k hr x => i _ _ (h b as' H' k hr x)
  | exc c fs m' => exact h
  | bad => exact h
theorem Vg.kp {r : Res α} (h : Vg P w K mg R as H r Q E) (k : Kp as as1 H H1) : Vg P w K mg R as1 H1 r Q E := by
  cases r with
  | ok a m' => exact fun b as' H' k' hr x => h b as' H' (k.trans k') hr x
  | exc c fs m' => exact fun C d as' H' e k' hr x => h C d as' H' e (k.trans k') hr x
  | bad => exact h
theorem Vg.bd {x : M α} {f : α → M γ} (h : Vg P w K mg R' as H (bd x f m) Q2 E) :
    Vg P w K mg R as H (x m) (fun b H1 => ∃ as1 m1 a, Kp as as1 H H1 ∧ HRep P w K as1 m1 H1 ∧ R as1 H1 b a ∧ Vg P w K mg R' as1 H1 (f a m1) Q2 E) E := by
  unfold Af.bd at h
  cases e : x m with
  | ok a m' =>
    rw [e] at h
    exact fun b as' H' k hr q => ⟨as', m', a, k, hr, q, Vg.kp h k⟩
  | exc c fs m' =>
    rw [e] at h
    exact h
  | bad =>
    rw [e] at h
    exact h
theorem Vg.ret {a : α} {b : β} (h : Vg P w K mg R as H (ret a m) Q E) (hr : HRep P w K as m H) (r : R as H b a) : Q b H := h b as H Kp.refl hr r
theorem Vg.chk {p : Prop} [Decidable p] {x : M α} (h : Vg P w K mg R as H (chk p x m) Q E) : p ∧ Vg P w K mg R as H (x m) Q E := by
  unfold Af.chk at h
  by_cases c : p
  · rw [if_pos c] at h
    exact ⟨c, h⟩
  · rw [if_neg c] at h
    exact h.elim
theorem Vg.opt {a : Option α} (h : Vg P w K mg R as H (opt a m) Q E) : ∃ x, a = some x ∧ Vg P w K mg R as H (Af.ret x m) Q E := by
  cases a with
  | none => exact h.elim
  | some x => exact ⟨x, rfl, h⟩
theorem Vg.alc {o : O} {Q : V → Hp → Prop} (h : Vg P w K mg (RD K) as H (alc o m) Q E) (hr : HRep P w K as m H) {p : Addr} {ho : HO} (hp : H p = none) (q : Kp as (as ++ [p]) H (upd H p ho) → ORep P w K (upd H p ho) (as ++ [p]) p ho o) : Q (.ref p) (upd H p ho) := by
  have kp : Kp as (as ++ [p]) H (upd H p ho) := ⟨⟨⟨[p], rfl⟩, fun b o' h n => by
    have e : b ≠ p := ne_of_none h hp
    exact ⟨by rw [upd_ne e]; exact h, by simp [n, e]⟩⟩, fun b o u h => by rw [upd_ne (ne_of_none h hp)]; exact h⟩
  obtain ⟨_, hr'⟩ := hr.new hp (q kp)
  exact h (.ref p) (as ++ [p]) _ kp hr' (.ref (by rw [← hr.len]; simp))
end
def Sl (K : PySem.W.Frag) (H : Hp) (as : List Addr) (σ : L2.St) (ρ : Env) : Prop := σ.length = ρ.length ∧ ∀ (i : Nat) d, ρ[i]? = some (some d) → ∃ v, σ[i]? = some (some v) ∧ Rep K H as v d
theorem Sl.mono {P : Program} {w : World} {K : PySem.W.Frag} {H H' : Hp} {as as' : List Addr} {m : Mu} {σ : L2.St} {ρ : Env} (s : Sl K H as σ ρ) (r : HRep P w K as m H) (k : Kp as as' H H') : Sl K H' as' σ ρ :=
  ⟨s.1, fun i d h => let ⟨v, h1, h2⟩ := s.2 i d h; ⟨v, h1, h2.mono r k⟩⟩
theorem Sl.set {K : PySem.W.Frag} {H : Hp} {as : List Addr} {σ : L2.St} {ρ : Env} (s : Sl K H as σ ρ) {v : V} {d : D} (r : Rep K H as v d) (i : Nat) : Sl K H as (σ.set i (some v)) (ρ.set i (some d)) := by
  refine ⟨by simp [s.1], fun j e h => ?_⟩
  by_cases hj : i = j
  · subst hj
    by_cases hl : i < ρ.length
    · rw [List.getElem?_set_self hl] at h
      cases h
      exact ⟨v, List.getElem?_set_self (by rw [s.1]; exact hl), r⟩
    · rw [List.getElem?_eq_none (by simpa using hl)] at h
      cases h
  · rw [List.getElem?_set_ne hj] at h
    obtain ⟨u, h1, h2⟩ := s.2 j e h
    exact ⟨u, by rw [List.getElem?_set_ne hj]; exact h1, h2⟩
theorem Sl.unset {K : PySem.W.Frag} {H : Hp} {as : List Addr} {σ : L2.St} {ρ : Env} (s : Sl K H as σ ρ) (i : Nat) : Sl K H as (σ.set i none) (ρ.set i none) := by
  refine ⟨by simp [s.1], fun j e h => ?_⟩
  by_cases hj : i = j
  · subst hj
    by_cases hl : i < ρ.length
    · rw [List.getElem?_set_self hl] at h
      cases h
    · rw [List.getElem?_eq_none (by simpa using hl)] at h
      cases h
  · rw [List.getElem?_set_ne hj] at h
    obtain ⟨u, h1, h2⟩ := s.2 j e h
    exact ⟨u, by rw [List.getElem?_set_ne hj]; exact h1, h2⟩
theorem Sl.wipe {K : PySem.W.Frag} {H : Hp} {as : List Addr} {σ : L2.St} {ρ : Env} (s : Sl K H as σ ρ) : ∀ own : List Nat, Sl K H as (wipe σ own) (wipeD ρ own)
  | [] => s
  | v :: vs => by
    unfold L2.wipe wipeD
    exact (Sl.wipe s vs).unset v
def tE (X : Cx) (W : WX) (f : Env → M D) : TE := fun σ H Q => ∃ as m ρ, Sl X.K H as σ ρ ∧ HRep X.prog X.w X.K as m H ∧ Vg X.prog X.w X.K X.mg (RD X.K) as H (f ρ m) Q fun c d H' => W c d σ H'
def tA (X : Cx) (W : WX) (f : Env → M (List D)) : TA := fun σ H Q => ∃ as m ρ, Sl X.K H as σ ρ ∧ HRep X.prog X.w X.K as m H ∧ Vg X.prog X.w X.K X.mg (RDs X.K) as H (f ρ m) Q fun c d H' => W c d σ H'
def tT (X : Cx) (W : WX) (f : Env → M Bool) : TT := fun σ H Q => ∃ as m ρ, Sl X.K H as σ ρ ∧ HRep X.prog X.w X.K as m H ∧ Vg X.prog X.w X.K X.mg RB as H (f ρ m) Q fun c d H' => W c d σ H'
end Af
namespace Af
open PySem PySem.Spec PyProof.Rows L2
section
variable {X : Cx} {pins : List (Addr × Obj)} {σ : L2.St} {H : Hp} {s : Shared} {as : List Addr} {m : Mu}
mutual
/-- a value is its key -/
theorem key_is (I : Inv X pins σ H s) : ∀ (f : Nat) (d : D) (k : NestedKey) (v : V) (u : Value), keyD f d = some k → Rep X.K H as v d → RelV v u → NestedIs s.heap k u ∧ k.depth ≤ f + 1
  | f, .non, k, v, u, e, r, rv => by
    have e : some NestedKey.none = some k := by cases f <;> exact e
    cases e
    cases r
    cases rv
    exact ⟨.none, by simp [NestedKey.depth]⟩
  | f, .bl b, k, v, u, e, r, rv => by
    have e : some (NestedKey.num (if b then 1 else 0)) = some k := by cases f <;> exact e
    cases e
    cases r
    cases rv
    exact ⟨.bool rfl, by simp [NestedKey.depth]⟩
  | f, .int i, k, v, u, e, r, rv => by
    have e : some (NestedKey.num i) = some k := by cases f <;> exact e
    cases e
    cases r
    obtain ⟨t, rfl⟩ := rv
    exact ⟨.int i t, by simp [NestedKey.depth]⟩
  | f, .str x, k, v, u, e, r, rv => by
    have e : some (NestedKey.text x) = some k := by cases f <;> exact e
    cases e
    cases r
    obtain ⟨t, rfl⟩ := rv
    exact ⟨.text x t, by simp [NestedKey.depth]⟩
  | 0, .tup xs, k, v, u, e, r, rv => by cases e
  | f + 1, .tup xs, k, v, u, e, r, rv => by
    have e : (mapO (keyD f) xs).map NestedKey.tup = some k := e
    cases e2 : mapO (keyD f) xs with
    | none => rw [e2] at e; cases e
    | some ks =>
      rw [e2] at e
      cases e
      cases r with
      | @tup a vs _ h1 h2 h3 =>
        cases rv
        obtain ⟨its, rr, ⟨o, ho, hc, n, hd⟩, hz⟩ := I.tuple h1
        obtain ⟨p1, p2⟩ := key_all I f xs ks vs its e2 h3 rr
        refine ⟨.tup ho hc hd (by simpa using p1), ?_⟩
        rw [NestedKey.depth]
        omega
  | f, .ref n, k, v, u, e, r, rv => by cases f <;> cases e
  | f, .exo n, k, v, u, e, r, rv => by cases f <;> cases e
termination_by f => (f, 0)
theorem key_all (I : Inv X pins σ H s) : ∀ (f : Nat) (ds : List D) (ks : List NestedKey) (vs : List V) (us : List Value), mapO (keyD f) ds = some ks → Reps X.K H as vs ds → Vals vs us → NestedAll s.heap ks us ∧ NestedKey.depthAll ks ≤ f + 1
  | f, [], ks, vs, us, e, r, rv => by
    cases e
    cases r
    cases rv
    exact ⟨.nil, by simp [NestedKey.depthAll]⟩
  | f, d :: ds, ks, vs, us, e, r, rv => by
    unfold mapO at e
    cases e1 : keyD f d with
    | none => rw [e1] at e; cases e
    | some k =>
      rw [e1] at e
      dsimp only at e
      cases e2 : mapO (keyD f) ds with
      | none => rw [e2] at e; cases e
      | some ks' =>
        rw [e2] at e
        cases e
        cases r with
        | cons r1 r2 =>
          cases rv with
          | cons q1 q2 =>
            obtain ⟨p1, p2⟩ := key_is I f d k _ _ e1 r1 q1
            obtain ⟨p3, p4⟩ := key_all I f ds ks' _ _ e2 r2 q2
            refine ⟨.cons p1 p3, ?_⟩
            rw [NestedKey.depthAll]
            omega
termination_by f ds => (f, ds.length + 1)
end
theorem key_at (I : Inv X pins σ H s) {d : D} {k : NestedKey} {b : Addr} (e : kd d = some k) (r : Rep X.K H as (.ref b) d) : (nestedKind X.prog X.w).is s.heap k b := by
  cases d with
  | tup xs => exact key_is I 7 (.tup xs) k (.ref b) (.ref b) e r rfl
  | _ => cases e
abbrev PX : (NestedKey × Addr × V) → (NestedKey × Addr × Value) → Prop := fun p x => x.1 = p.1 ∧ x.2.1 = p.2.1 ∧ RelV p.2.2 x.2.2
theorem px_keys : ∀ {l : List (NestedKey × Addr × V)} {xs : List (NestedKey × Addr × Value)}, Paired PX l xs → xs.map (·.1) = l.map (·.1)
  | _, _, .nil => rfl
  | _, _, .cons h t => by rw [List.map_cons, List.map_cons, h.1, px_keys t]
theorem px_is (I : Inv X pins σ H s) : ∀ {l : List (NestedKey × Addr × V)} {kvs : List (D × D)} {xs : List (NestedKey × Addr × Value)}, DRel X.K H as l kvs → Paired PX l xs → ∀ x ∈ xs, (nestedKind X.prog X.w).is s.heap x.1 x.2.1
  | _, _, _, .nil, .nil, x, hx => by cases hx
  | _, _, _, .cons h1 h2 h3 t, .cons p q, x, hx => by
    rcases List.mem_cons.mp hx with e | hx
    · rw [e, p.1, p.2.1]
      exact key_at I h1 h2
    · exact px_is I t q x hx
theorem DRel.length : ∀ {l : List (NestedKey × Addr × V)} {kvs : List (D × D)}, DRel X.K H as l kvs → l.length = kvs.length
  | _, _, .nil => rfl
  | _, _, .cons _ _ _ t => by rw [List.length_cons, List.length_cons, t.length]
theorem px_len : ∀ {l : List (NestedKey × Addr × V)} {xs : List (NestedKey × Addr × Value)}, Paired PX l xs → xs.length = l.length
  | _, _, .nil => rfl
  | _, _, .cons _ t => by rw [List.length_cons, List.length_cons, px_len t]
theorem dob_at (I : Inv X pins σ H s) {a : Addr} {l : List (NestedKey × Addr × V)} : ∀ {fz : Bool}, DOb H a (DctAt X.prog X.w a l) fz → DctAt X.prog X.w a l s.heap
  | false, h => (I.hok a _ h).1
  | true, ⟨_, h⟩ => (I.hok a _ h).2.1
theorem dct_in (I : Inv X pins σ H s) (hr : HRep X.prog X.w X.K as m H) {a : Addr} {n : Nat} {fz : Bool} {kvs : List (D × D)} (h1 : as[n]? = some a) (h2 : m[n]? = some (.dct fz kvs)) :
    ∃ l xs, DOb H a (DctAt X.prog X.w a l) fz ∧ kvs.length ≤ sizeLine ∧ (l.map (·.1)).Nodup ∧ DRel X.K H as l kvs ∧ (a == sysModules) = false ∧ Paired PX l xs ∧ s.heap.DictOfH (nestedKind X.prog X.w) a xs := by
  obtain ⟨l, g1, g2, g3, g4⟩ := hr.dct h1 h2
  obtain ⟨hd, o, es, ep, xs, q1, q2, q3, q4, q5⟩ := dob_at I g1
  exact ⟨l, xs, g1, g2, g3, g4, hd, q5, o, es, ep, q1, q2, q3, q4, px_is I g4 q5, by rw [px_keys q5]; exact g3⟩
theorem dct_look {k : NestedKey} : ∀ {l : List (NestedKey × Addr × V)} {kvs : List (D × D)} {xs : List (NestedKey × Addr × Value)}, DRel X.K H as l kvs → Paired PX l xs →
    (dLook kvs k = none ∧ atKey xs k = none) ∨ ∃ d v p, dLook kvs k = some d ∧ atKey xs k = some p ∧ RelV v p.2 ∧ Rep X.K H as v d
  | _, _, _, .nil, .nil => .inl ⟨rfl, rfl⟩
  | _, _, _, @DRel.cons _ _ _ k' b v q d l kvs h1 h2 h3 t, @Paired.cons _ _ _ _ x _ xs p r => by
    by_cases c : k' = k
    · subst c
      refine .inr ⟨d, v, x.2, ?_, ?_, p.2.2, h3⟩
      · unfold dLook
        rw [List.find?_cons, h1]
        simp
      · unfold atKey
        rw [List.find?_cons, decide_eq_true p.1]
        rfl
    · have e1 : dLook ((q, d) :: kvs) k = dLook kvs k := by
        unfold dLook
        rw [List.find?_cons, h1]
        have : (some k' == some k) = false := beq_eq_false_iff_ne.mpr fun e => c (Option.some.inj e)
        rw [this]
      have e2 : atKey (x :: xs) k = atKey xs k := by
        unfold atKey
        rw [List.find?_cons, decide_eq_false (fun e => c (p.1.symm.trans e))]
      rw [e1, e2]
      exact dct_look t r
end
end Af
namespace Af
open PySem PySem.Spec PyProof.Rows L2
theorem mulS (l : Addr) (items : Array Value) (n : Nat) (dd : Option Addr) (sl : Array (Option Value)) (x : Int) (u : Tok) (c0 : (decide (x < -(2 ^ 63)) || decide (x ≥ 2 ^ 63)) = false) (c1 : (items.isEmpty || x == 1) = true) :
    Meets (Builtin.«tuple.__mul__» ⟨[.ref l, .int x u], []⟩) (fun _ R s => s.heap.get? l = some { cls := .type "tuple", dict := dd, data := .seq items n, slots := sl } ∧
      R (.ok (.ret (Value.ref l))) s) :=
  .of_wp fun prog w A R s h => by
    obtain ⟨hp, g, d, tk, os⟩ := s
    obtain ⟨hl, h⟩ := h
    have f1 := AutoSeq1.idx_int
    wp_walk using wpAny_loadPart' hl
    repeat (first
      | (refine wpAny_ite_false (decide_eq_false (by rw [c0]; exact Bool.false_ne_true)) ?_; wp_walk using wpAny_loadPart' hl)
      | (refine wpAny_ite_true (decide_eq_true c1) ?_; wp_walk using wpAny_loadPart' hl))
    exact ⟨_, rfl, h⟩
theorem mulE (l : Addr) (items : Array Value) (n : Nat) (dd : Option Addr) (sl : Array (Option Value)) (x : Int) (u : Tok) (c0 : (decide (x < -(2 ^ 63)) || decide (x ≥ 2 ^ 63)) = false) (c1 : (items.isEmpty || x == 1) = false) (c2 : (decide (x ≤ 0) || items.isEmpty) = true) :
    Meets (Builtin.«tuple.__mul__» ⟨[.ref l, .int x u], []⟩) (fun _ R s => s.heap.get? l = some { cls := .type "tuple", dict := dd, data := .seq items n, slots := sl } ∧
      R (.ok (.ret (Value.ref s.heap.objs.size))) { s with heap := s.heap.push { cls := Value.type "tuple", data := Data.seq #[] }, toks := s.toks }) :=
  .of_wp fun prog w A R s h => by
    obtain ⟨hp, g, d, tk, os⟩ := s
    obtain ⟨hl, h⟩ := h
    have f1 := AutoSeq1.idx_int
    wp_walk using wpAny_loadPart' hl
    repeat (first
      | (refine wpAny_ite_false (decide_eq_false (by rw [c0]; exact Bool.false_ne_true)) ?_; wp_walk using wpAny_loadPart' hl)
      | (refine wpAny_ite_false (decide_eq_false (by rw [c1]; exact Bool.false_ne_true)) ?_; wp_walk using wpAny_loadPart' hl)
      | (refine wpAny_ite_true (decide_eq_true c2) ?_; wp_walk using wpAny_loadPart' hl))
    exact ⟨_, rfl, h⟩
def rRepA (K : PySem.W.Frag) : R2 := fun x y H Q => ∃ l k xs, x = .ref l ∧ y = .int k ∧ SqT K H l xs ∧ -1000000 ≤ k ∧ k ≤ 1000 ∧ xs.length ≤ 1000 ∧ ((xs = [] ∨ k = 1) → Q (.ref l) H) ∧
  (∀ p, H p = none → Q (.ref p) (upd H p (.tup (List.replicate k.toNat xs).flatten)))
theorem op_repA {X : Cx} : OpR X (binaryOp .Mult) (rRepA X.K) := by
  intro pins s σ H x y v u Q I rx ry h
  obtain ⟨l, k, xs, rfl, rfl, hT, h1, h2, hz, q1, q2⟩ := h
  by_cases c : xs = [] ∨ k = 1
  · cases rx
    obtain ⟨t, rfl⟩ := ry
    obtain ⟨its, r, ⟨⟨cls, dd, data, sl⟩, ho, hc, n, hd⟩, hs⟩ := I.tuple hT
    simp only at hc hd
    subst hc hd
    have c0 : (decide (k < -(2 ^ 63)) || decide (k ≥ 2 ^ 63)) = false := by
      rw [decide_eq_false (by omega), decide_eq_false (by omega)] <;> rfl
    have c1 : (its.toArray.isEmpty || k == 1) = true := by
      rcases c with c | c
      · subst c
        cases r
        rfl
      · subst c
        simp
    refine wpAny_binaryOp_repeat_ref (T := "tuple") (U := "int") (by decide) ⟨_, ho, rfl⟩ (fun s' => typeIs_int s' k t) noFill_tuple_mul F.fills_int_mul F.slot_int_rmul repeat_tuple F.slot_int_index.lookup
      (call_meets F.slot_int_rmul (typeIs_int s k t) F.entry_int_rmul (F.args_int_rmul_2 _ _) (int_rmul_tuple k t l its.toArray n dd sl)
        ⟨ho, rfl, ⟨_, ho, rfl⟩, call_meets F.slot_tuple_mul ⟨_, ho, rfl⟩ F.entry_tuple_mul (F.args_tuple_mul_2 _ _) (mulS l its.toArray n dd sl k t c0 c1) ⟨ho, ?_⟩⟩)
    exact ⟨.ref l, H, I, rfl, q1 c⟩
  · have c' : xs ≠ [] ∧ k ≠ 1 := ⟨fun e => c (.inl e), fun e => c (.inr e)⟩
    by_cases hk : 2 ≤ k
    · exact op_repT pins s σ H _ _ v u Q I rx ry ⟨l, k, xs, rfl, rfl, hT, c'.1, hk, h2, hz, q2⟩
    · cases rx
      obtain ⟨t, rfl⟩ := ry
      obtain ⟨its, r, ⟨⟨cls, dd, data, sl⟩, ho, hc, n, hd⟩, hs⟩ := I.tuple hT
      simp only at hc hd
      subst hc hd
      have hk0 : k ≤ 0 := by have := c'.2; omega
      have hle : its.length = xs.length := r.length.symm
      have hi : its.toArray.isEmpty = false := by
        cases its with
        | nil => exact absurd (List.eq_nil_of_length_eq_zero hle.symm) c'.1
        | cons a b => rfl
      have c0 : (decide (k < -(2 ^ 63)) || decide (k ≥ 2 ^ 63)) = false := by
        rw [decide_eq_false (by omega), decide_eq_false (by omega)] <;> rfl
      have c1 : (its.toArray.isEmpty || k == 1) = false := by
        rw [hi, Bool.false_or]
        exact beq_eq_false_iff_ne.mpr c'.2
      have c2 : (decide (k ≤ 0) || its.toArray.isEmpty) = true := by
        rw [decide_eq_true hk0]; rfl
      refine wpAny_binaryOp_repeat_ref (T := "tuple") (U := "int") (by decide) ⟨_, ho, rfl⟩ (fun s' => typeIs_int s' k t) noFill_tuple_mul F.fills_int_mul F.slot_int_rmul repeat_tuple F.slot_int_index.lookup
        (call_meets F.slot_int_rmul (typeIs_int s k t) F.entry_int_rmul (F.args_int_rmul_2 _ _) (int_rmul_tuple k t l its.toArray n dd sl)
          ⟨ho, rfl, ⟨_, ho, rfl⟩, call_meets F.slot_tuple_mul ⟨_, ho, rfl⟩ F.entry_tuple_mul (F.args_tuple_mul_2 _ _) (mulE l its.toArray n dd sl k t c0 c1 c2) ⟨ho, ?_⟩⟩)
      have q2 := q2 s.heap.objs.size (I.hok.fresh (Nat.le_refl _))
      have e : (List.replicate k.toNat xs).flatten = [] := by
        rw [show k.toNat = 0 by omega]
        rfl
      rw [e] at q2
      refine ⟨.ref s.heap.objs.size, _, I.laid (t' := s.toks) (o := .tup []) (fun b ob q => Heap.get?_push_of_some _ q) (Nat.le_refl _) ?_, rfl, q2⟩
      exact ⟨Nat.zero_le _, [], .nil, IsTup.new _ _⟩
end Af
namespace Af
open PySem PySem.W PySem.Calls PyProof.Rows PySem.SeqAt
section
variable {prog : Program} {w : World} {A : Around} {s : Shared} {E : Value → Shared → Prop}
def headO (d : PyData) : Bool := match d with
  | .tuple (_ :: _) => true
  | _ => false
theorem tup_firsts {M : Model} : ∀ {vs : List Value} {ds : List PyData} {Q : List (Option Value) → Shared → Prop}, EachIs (fun v d => ∃ as, Reads s.heap v d as) vs ds → (∀ d ∈ ds, ∃ xs, d = .tuple xs) → (∀ fs : List (Option Value), fs.map (·.isSome) = ds.map headO → Q fs s) → wpAny M A (vs.mapM firstOfTuple') Q E s
  | _, _, Q, .nil, _, h => by
    rw [List.mapM_nil]
    exact wpAny_pure (h [] rfl)
  | _, _, Q, .cons (b := d) ⟨as, r⟩ t, ht, h => by
    obtain ⟨ys, rfl⟩ := ht d List.mem_cons_self
    cases r with
    | @tuple a o xs n _ _ ho hc hd hr =>
      rw [List.mapM_cons]
      refine wpAny_bind ?_
      rw [kas_first_eq]
      refine wpAny_bind (Looks.here (show Looks M s.heap (typeOf (.ref a)) o.cls from (Looks.ld ho).andThen .now) ?_)
      rw [hc, if_neg (by first | decide | simp)]
      refine wpAny_bind (listItems_at ho hd (wpAny_pure ?_))
      refine wpAny_bind (tup_firsts (Q := fun bs s' => wpAny M A (pure (xs[0]? :: bs)) Q E s') t (fun d hd => ht d (List.mem_cons_of_mem _ hd)) fun fs hf => wpAny_pure (h _ ?_))
      rw [List.map_cons, List.map_cons, hf]
      congr 1
      rw [← Array.getElem?_toList]
      cases q : xs.toList with
      | nil =>
        rw [q] at hr
        cases hr
        rfl
      | cons f fr =>
        rw [q] at hr
        cases hr
        rfl
theorem call_tup_lt {Q : Value → Shared → Prop} {l b : Addr} {items items2 : Array Value} {e r : Nat → Bool} (hl : s.heap.IsTuple l items) (hb : s.heap.IsTuple b items2)
    (he : ∀ j (h1 : j < items.size) (h2 : j < items2.size), EqAt A.in1 s items[j] items2[j] (e j)) (hr : ∀ j (h1 : j < items.size) (h2 : j < items2.size), e j = false → RcLt A.in1 s items[j] items2[j] (r j))
    (h : Q (.bool (firstLt e r (decide (items.size < items2.size)) (List.range (min items.size items2.size)))) s) : wpAny (model prog w) A (call (.builtin "tuple.__lt__") [.ref l, .ref b]) Q E s := by
  obtain ⟨⟨cls, dd, data, sl⟩, ho, hc, n, hd⟩ := id hl
  obtain ⟨⟨cls2, dd2, data2, sl2⟩, ho2, hc2, n2, hd2⟩ := id hb
  simp only at hc hd hc2 hd2
  subst hc hd hc2 hd2
  exact call_meets F.slot_tuple_lt ⟨_, ho, rfl⟩ F.entry_tuple_lt (F.args_tuple_lt_2 _ _) (tuple_ltAt l b items items2 n n2 dd dd2 sl sl2 e r) ⟨ho, ho2, he, hr, h⟩
theorem one_tup {da db : PyData} {a b : Value} {as bs : List Addr} {Q : Bool → Shared → Prop} (ra : Reads s.heap a da as) (rb : Reads s.heap b db bs) (h : alike da db = true) (ha : ∃ xs, da = .tuple xs)
    (hu : A.units + min da.depth db.depth < cLine) (hq : Q (dataLt da db) s) : wpAny (model prog w) A (oneLt' true a b) Q E s := by
  obtain ⟨xs, rfl⟩ := ha
  cases db with
  | tuple ys =>
    have hal : alikeAll xs ys = true := by simpa [alike] using h
    cases ra with
    | @tuple l o vs n _ as₁ h1 h2 h3 h4 =>
      cases rb with
      | @tuple l' o' vs' n' _ bs₁ k1 k2 k3 k4 =>
        have n1 : vs.size = xs.length := by simpa using SeqAt.ReadsAll.length _ _ _ h4
        have n2 : vs'.size = ys.length := by simpa using SeqAt.ReadsAll.length _ _ _ k4
        rw [dataLt_tuple, ← firstLt_toks xs ys hal, ← n1, ← n2] at hq
        rw [oneLt'_eq]
        simp only [if_true]
        refine wpAny_bind (wpAny_cRoomFor (SeqAt.room_here hu) ?_)
        refine wpAny_bind (wpAny_callSpecialIfBound?_slot (T := "tuple") ⟨_, h1, h2⟩ F.slot_tuple_lt (call_tup_lt (e := pairEq xs ys) (r := fun j => dataLt (xs.getD j .none) (ys.getD j .none)) ⟨_, h1, h2, _, h3⟩ ⟨_, k1, k2, _, k3⟩ (fun j j1 j2 => ?_) (fun j j1 j2 hj => ?_) ?_))
        · have := eqAt_alikeAll xs ys A.in1 s vs.toList vs'.toList _ _ h4 k4 hal (SeqAt.room_in hu) j (by simpa using j1) (by simpa using j2)
          simpa using this
        · have := rcLt_alikeAll xs ys A.in1 s vs.toList vs'.toList _ _ h4 k4 hal (SeqAt.room_in hu) j (by simpa using j1) (by simpa using j2) hj
          simpa using this
        · exact wpAny_truthy_bool hq
  | _ => exact absurd h (by simp [alike])
theorem tup_kind {M : Model} {vs : List Value} {ds : List PyData} {Q : SortKind → Shared → Prop} (e : EachIs (fun v d => ∃ as, Reads s.heap v d as) vs ds) (ht : ∀ d ∈ ds, ∃ xs, d = .tuple xs) (hn : ds.all headO = false)
    (h : Q (match ds with | d :: _ => if headO d = true then general' else oneType' | [] => general') s) : wpAny M A (keyKind' vs.toArray) Q E s := by
  rw [kat_kind_eq, List.mapM_toArray, map_eq_pure_bind]
  refine wpAny_bind (wpAny_bind (tup_firsts e ht fun fs hf => wpAny_pure ?_))
  have hall : (fs.toArray.all fun x => x.isSome) = false := by
    rw [List.all_toArray]
    have : (fs.all fun x => x.isSome) = (fs.map (·.isSome)).all id := by rw [List.all_map]; rfl
    rw [this, hf, List.all_map]
    exact hn
  rw [if_neg (by rw [hall]; decide)]
  cases ds with
  | nil => simp at hn
  | cons d ds =>
    cases fs with
    | nil => simp at hf
    | cons f fs =>
      simp only [List.map_cons, List.cons.injEq] at hf
      have f0 : ((f :: fs).toArray[0]?.bind id).isSome = headO d := by
        rw [← hf.1]
        rfl
      rw [f0]
      dsimp only at h
      cases q : headO d with
      | true =>
        rw [q, if_pos rfl] at h
        rw [if_pos rfl]
        exact wpAny_pure h
      | false =>
        rw [q, if_neg (by decide)] at h
        rw [if_neg (by decide), oneTypeOnly'_eq, List.mapM_toArray, map_eq_pure_bind]
        refine wpAny_bind (wpAny_bind (wpAny_bind (kas_mapM (r := Value.type "tuple") _ (fun v hv Q' hq => ?_) (wpAny_pure ?_))))
        · obtain ⟨d', hd', as, r⟩ := e.left v hv
          obtain ⟨xs, rfl⟩ := ht d' hd'
          exact (looks_reads r).here hq
        · cases vs with
          | nil => cases e
          | cons v vs =>
            have hall2 : ((List.map (fun _ => Value.type "tuple") (v :: vs)).toArray.all fun x => x == Value.type "tuple") = true := by
              simp only [List.all_toArray, List.all_map, List.all_eq_true]
              intro _ _
              rfl
            have h0 : (List.map (fun _ => Value.type "tuple") (v :: vs)).toArray[0]? = some (Value.type "tuple") := by simp
            rw [h0]
            simp only [hall2, if_true]
            exact wpAny_pure (wpAny_pure h)
theorem sorts_tup {vs : List Value} {ds : List PyData} (e : EachIs (fun v d => ∃ as, Reads s.heap v d as) vs ds) (hal : AllAlike ds) (ht : ∀ d ∈ ds, ∃ xs, d = .tuple xs) (hn : ds.all headO = false) (hu : ∀ d, d ∈ ds → A.units + d.depth < cLine) : SortsAt prog w A s (dataKind s.heap ds) vs := by
  have room : ∀ {d d' : PyData}, d ∈ ds → A.units + min d.depth d'.depth < cLine := fun {d d'} hd => Nat.lt_of_le_of_lt (Nat.add_le_add_left (Nat.min_le_left _ _) _) (hu d hd)
  refine ⟨fun v hv => ?_, _, ?_, fun h2 E Q hq => tup_kind e ht hn hq⟩
  · obtain ⟨d, hd, as, r⟩ := e.left v hv
    exact ⟨_, dataKind_some hal hd r⟩
  · intro E x y a b Q ha hb hq
    obtain ⟨d, as, hd, ra, rfl⟩ := dataKind_inv ha
    obtain ⟨d', as', hd', rb, rfl⟩ := dataKind_inv hb
    have n0 : d ≠ .none := fun z => by
      obtain ⟨xs, q⟩ := ht d hd
      rw [z] at q
      cases q
    have lt1 : wpAny (model prog w) A (oneLt' true x y) Q E s := one_tup ra rb (hal d hd d' hd') (ht d hd) (room hd) hq
    have lt0 : wpAny (model prog w) A (oneLt' false x y) Q E s := oneLt_alike (fun z => by cases z) ra rb (hal d hd d' hd') n0 (room hd) hq
    have g0 : keyLt' general' x y = oneLt' false x y := rfl
    cases ds with
    | nil =>
      dsimp only
      rw [g0]
      exact lt0
    | cons d0 dr =>
      dsimp only
      by_cases c : headO d0 = true
      · rw [if_pos c, g0]
        exact lt0
      · rw [if_neg c, keyLt'_oneType]
        exact lt1
theorem sorts_all {vs : List Value} {ds : List PyData} (e : EachIs (fun v d => ∃ as, Reads s.heap v d as) vs ds) (hal : AllAlike ds) (hk : Sortable ds ∨ ∀ d ∈ ds, ∃ xs, d = .tuple xs) (hu : ∀ d, d ∈ ds → A.units + d.depth < cLine) : SortsAt prog w A s (dataKind s.heap ds) vs := by
  rcases hk with hk | ht
  · exact SortsAt.data e hal hk hu
  · by_cases c : ds.all headO = true
    · refine SortsAt.data e hal (.inl fun d hd => ?_) hu
      have := List.all_eq_true.mp c d hd
      obtain ⟨xs, rfl⟩ := ht d hd
      cases xs with
      | nil => cases this
      | cons x r => exact ⟨x, r, rfl⟩
    · exact sorts_tup e hal ht (by simpa using c) hu
theorem sorted_all {β : Type} {R : Value → β → Prop} {enc : β → PyData} {vs : List Value} {bs : List β} {l : Addr} {Q : Value → Shared → Prop} (hl : s.heap.IsList l vs.toArray) (e : EachIs R vs bs) (er : EachIs (fun v b => ∃ as, Reads s.heap v (enc b) as) vs bs) (hal : AllAlike (bs.map enc)) (hk : Sortable (bs.map enc) ∨ ∀ d ∈ bs.map enc, ∃ xs, d = .tuple xs) (hL : bs.length ≤ sizeLine)
    (hu : ∀ b, b ∈ bs → A.units + 2 + (enc b).depth < cLine) (h : ∀ out, out.length = bs.length → EachIs R out (bs.mergeSort (dataLe false enc)) → Q (.ref (s.heap.objs.size + 1)) { s with heap := sortedAll s.heap vs (List.toArray out) }) :
    wpAny (model prog w) A (call (.builtin "sorted") [.ref l]) Q E s := by
  have er' : EachIs (fun v b => ∃ as, Reads (sortingHeap (copyHeap s.heap vs) (s.heap.objs.size + 1) vs) v (enc b) as) vs bs := er.mono fun _ _ ⟨as, r⟩ => ⟨as, PyProof.Rows.Reads.keeps (fun _ _ => sorting_copy_old) r⟩
  exact sorted_vals hl (sorts_all (s := { s with heap := sortingHeap (copyHeap s.heap vs) (s.heap.objs.size + 1) vs }) (each_map (R := fun v d => ∃ as, Reads (sortingHeap (copyHeap s.heap vs) (s.heap.objs.size + 1) vs) v d as) enc er') hal hk (bound_map hu)) (by rw [e.length]; exact hL)
    (h _ (by rw [sortVals_length false rfl]; exact e.length) (sortVals_data false e er' hal))
theorem list_sort_all {β : Type} {R : Value → β → Prop} {enc : β → PyData} {vs : List Value} {bs : List β} {a : Addr} {n : Nat} {Q : Value → Shared → Prop} (ho : s.heap.get? a = some (seqObj "list" vs.toArray n)) (e : EachIs R vs bs) (er' : EachIs (fun v b => ∃ as, Reads (sortingHeap s.heap a vs) v (enc b) as) vs bs) (hal : AllAlike (bs.map enc)) (hk : Sortable (bs.map enc) ∨ ∀ d ∈ bs.map enc, ∃ xs, d = .tuple xs) (hL : bs.length ≤ sizeLine)
    (hu : ∀ b, b ∈ bs → A.units + 1 + (enc b).depth < cLine) (h : ∀ out, out.length = bs.length → EachIs R out (bs.mergeSort (dataLe false enc)) → Q .none { s with heap := sortedHeap s.heap a vs (List.toArray out) }) :
    wpAny (model prog w) A (call (.builtin "list.sort") [.ref a]) Q E s := by
  refine wpAny_call_entry slot_list_sort ⟨_, ho, rfl⟩ entry_list_sort (list_sort_vals (κ := dataKind (sortingHeap s.heap a vs) (bs.map enc)) ho (sorts_all (s := { s with heap := sortingHeap s.heap a vs }) (each_map (R := fun v d => ∃ as, Reads (sortingHeap s.heap a vs) v d as) enc er') hal hk (bound_map hu)) (by rw [e.length]; exact hL) ⟨.none, rfl, ?_⟩) (args_list_sort _)
  exact h _ (by rw [sortVals_length false rfl]; exact e.length) (sortVals_data false e er' hal)
end
end Af
namespace Af
open PySem PySem.Spec PyProof.Rows L2
section
variable {prog : Program} {w : World} {d r : Addr} {es : Array DictEntry} {ep : Nat}
theorem src_rawK (lo : (d == sysModules) = false) : PySem.W.KdlSrc prog w "dict" d d es.size (fun i v => ∃ hi : i < es.size, v = es[i].key) (fun h => h.DictRaw d es ep) where
  type := fun _ hm => let ⟨o, ho, hc, _⟩ := hm; ⟨o, ho, hc.1⟩
  there := fun _ hm => let ⟨_, ho, _⟩ := hm; ⟨Heap.lt_size ho, Heap.lt_size ho⟩
  keep := fun _ _ hm hk => hm.at fun o e => hk d (.inl rfl) o e
  notList := by decide
  notTuple := by decide
  hint := fun _ _ _ _ hm hq => PySem.W.kdl_hint_dict (let ⟨o, ho, hc, _⟩ := hm; ⟨o, ho, hc.1⟩) hq
  iter := fun _ s hh hm => ⟨_, _, (fun _ _ hq => wpAny_pyIter_dict_raw lo hm hq), Walks.rawKeys hh _ d (Nat.ne_of_lt (let ⟨_, ho, _⟩ := hm; Heap.lt_size ho)) es ep, ⟨⟨_, Heap.get?_push_size _ rfl, rfl, rfl⟩, hm.at fun o e => Heap.get?_push_of_some _ e⟩⟩
theorem src_rawV : PySem.W.KdlSrc prog w "dict_values" r d es.size (fun i v => ∃ hi : i < es.size, v = es[i].val) (fun h => h.IsValuesView r d ∧ h.DictRaw d es ep) where
  type := fun _ hm => hm.1.typeIs
  there := fun _ hm => ⟨let ⟨_, ho, _⟩ := hm.1; Heap.lt_size ho, let ⟨_, ho, _⟩ := hm.2; Heap.lt_size ho⟩
  keep := fun _ _ hm hk => ⟨let ⟨o, ho, x⟩ := hm.1; ⟨o, hk r (.inl rfl) o ho, x⟩, hm.2.at fun o e => hk d (.inr rfl) o e⟩
  notList := by decide
  notTuple := by decide
  hint := fun _ _ _ _ hm hq => PySem.W.kdl_hint_values hm.1.typeIs hq
  iter := fun _ s hh hm => ⟨_, _, (fun _ _ hq => wpAny_pyIter_values_raw hm.1 hm.2 hq), Walks.rawValues hh _ d (Nat.ne_of_lt (let ⟨_, ho, _⟩ := hm.2; Heap.lt_size ho)) es ep, ⟨⟨_, Heap.get?_push_size _ rfl, rfl, rfl⟩, hm.2.at fun o e => Heap.get?_push_of_some _ e⟩⟩
theorem items_eq {f : DictEntry → Value} {acc : Array Value} (h : ItemsOf (fun i v => ∃ hi : i < es.size, v = f es[i]) acc es.size) : acc.toList = es.toList.map f := by
  refine List.ext_getElem? fun j => ?_
  rw [List.getElem?_map, Array.getElem?_toList, Array.getElem?_toList]
  by_cases c : j < es.size
  · have hj : j < acc.size := by rw [h.1]; exact c
    obtain ⟨_, e⟩ := h.2 j acc[j] (Array.getElem?_eq_getElem hj)
    rw [Array.getElem?_eq_getElem hj, Array.getElem?_eq_getElem c, e]
    rfl
  · rw [Array.getElem?_eq_none (by rw [h.1]; omega), Array.getElem?_eq_none (by omega)]
    rfl
theorem dct_keys {l : List (NestedKey × Addr × V)} : ∀ {xs : List (NestedKey × Addr × Value)} {es : List DictEntry}, es = xs.map (entryOfKey (nestedKind prog w)) → Paired PX l xs → es.map (·.key) = l.map fun p => Value.ref p.2.1 := by
  induction l with
  | nil =>
    intro xs es q p
    cases p
    rw [q]
    rfl
  | cons y l ih =>
    intro xs es q p
    cases p with
    | cons h t =>
      rw [q, List.map_cons, List.map_cons, List.map_cons, ih rfl t]
      congr 1
      show Value.ref _ = Value.ref _
      rw [h.2.1]
theorem dct_vals {l : List (NestedKey × Addr × V)} : ∀ {xs : List (NestedKey × Addr × Value)} {es : List DictEntry}, es = xs.map (entryOfKey (nestedKind prog w)) → Paired PX l xs → Vals (l.map fun p => p.2.2) (es.map (·.val)) := by
  induction l with
  | nil =>
    intro xs es q p
    cases p
    rw [q]
    exact .nil
  | cons y l ih =>
    intro xs es q p
    cases p with
    | cons h t =>
      rw [q, List.map_cons, List.map_cons, List.map_cons]
      exact .cons h.2.2 (ih rfl t)
theorem vals_refs : ∀ {l : List (NestedKey × Addr × V)}, Vals (l.map fun p => V.ref p.2.1) (l.map fun p => Value.ref p.2.1)
  | [] => .nil
  | _ :: _ => .cons rfl vals_refs
end
section
variable {K : PySem.W.Frag} {H : Hp} {as : List Addr}
theorem DRel.keys : ∀ {l : List (NestedKey × Addr × V)} {kvs : List (D × D)}, DRel K H as l kvs → Reps K H as (l.map fun p => V.ref p.2.1) (kvs.map (·.1))
  | _, _, .nil => .nil
  | _, _, .cons _ h2 _ t => .cons h2 t.keys
theorem DRel.vals : ∀ {l : List (NestedKey × Addr × V)} {kvs : List (D × D)}, DRel K H as l kvs → Reps K H as (l.map fun p => p.2.2) (kvs.map (·.2))
  | _, _, .nil => .nil
  | _, _, .cons _ _ h3 t => .cons h3 t.vals
end
section
variable {X : Cx} {pins : List (Addr × Obj)} {σ : L2.St} {H : Hp} {s : Shared} {as : List Addr} {m : Mu}
theorem dct_raw (I : Inv X pins σ H s) (hr : HRep X.prog X.w X.K as m H) {a : Addr} {n : Nat} {fz : Bool} {kvs : List (D × D)} (h1 : as[n]? = some a) (h2 : m[n]? = some (.dct fz kvs)) :
    ∃ l es ep, (a == sysModules) = false ∧ s.heap.DictRaw a es ep ∧ es.size = kvs.length ∧ kvs.length ≤ sizeLine ∧ DRel X.K H as l kvs ∧ es.toList.map (·.key) = (l.map fun p => Value.ref p.2.1) ∧ Vals (l.map fun p => p.2.2) (es.toList.map (·.val)) := by
  obtain ⟨l, xs, g1, g2, g3, g4, hd, px, o, es, ep, q1, q2, q3, q4, q5, q6⟩ := dct_in I hr h1 h2
  refine ⟨l, es, ep, hd, ⟨o, q1, q2, q3⟩, ?_, g2, g4, dct_keys q4 px, dct_vals q4 px⟩
  have := congrArg List.length q4
  rw [List.length_map, px_len px, Array.length_toList, g4.length] at this
  exact this
theorem listK_call (hc : X.calm = true) {Q : VK} {W : XK} (I : Inv X pins σ H s) (hr : HRep X.prog X.w X.K as m H) {a : Addr} {n : Nat} {fz : Bool} {kvs : List (D × D)} (h1 : as[n]? = some a) (h2 : m[n]? = some (.dct fz kvs))
    (q : Vg X.prog X.w X.K X.mg (RD X.K) as H (alc (.lst (kvs.map (·.1))) m) Q W) : wpAny (model X.prog X.w) X.A (call (.type "list") [.ref a]) (EP X pins σ Q) X.xe s := by
  obtain ⟨l, es, ep, hd, hraw, hsz, hz, dr, ek, _⟩ := dct_raw I hr h1 h2
  refine PySem.W.kdl_call (src_rawK hd) (I.ok.hd hc) hraw (by omega) fun h' tk acc c kp hS hi => ?_
  have ea := items_eq (f := (·.key)) hi
  rw [ek] at ea
  have hp : H s.heap.objs.size = none := I.hok.fresh (Nat.le_refl _)
  have hl : (l.map fun p => V.ref p.2.1).length ≤ sizeLine := by rw [List.length_map, dr.length]; exact hz
  have J := I.laid (t' := tk) (o := .lst (l.map fun p => V.ref p.2.1)) kp (Nat.le_refl _) ⟨hl, l.map fun p => Value.ref p.2.1, c, vals_refs, by rw [← ea, Array.toArray_toList]; exact hS⟩
  exact ⟨.ref s.heap.objs.size, _, J, rfl, Vg.alc q hr hp fun kp' => .lst hl (dr.keys.mono hr kp')⟩
theorem listV_call (hc : X.calm = true) {Q : VK} {W : XK} (I : Inv X pins σ H s) (hr : HRep X.prog X.w X.K as m H) {a r : Addr} {n : Nat} {fz : Bool} {kvs : List (D × D)} (h1 : as[n]? = some a) (h2 : m[n]? = some (.dct fz kvs)) (hv : s.heap.IsValuesView r a)
    (q : Vg X.prog X.w X.K X.mg (RD X.K) as H (alc (.lst (kvs.map (·.2))) m) Q W) : wpAny (model X.prog X.w) X.A (call (.type "list") [.ref r]) (EP X pins σ Q) X.xe s := by
  obtain ⟨l, es, ep, hd, hraw, hsz, hz, dr, _, ev⟩ := dct_raw I hr h1 h2
  refine PySem.W.kdl_call src_rawV (I.ok.hd hc) ⟨hv, hraw⟩ (by omega) fun h' tk acc c kp hS hi => ?_
  have ea := items_eq (f := (·.val)) hi
  have hp : H s.heap.objs.size = none := I.hok.fresh (Nat.le_refl _)
  have hl : (l.map fun p => p.2.2).length ≤ sizeLine := by rw [List.length_map, dr.length]; exact hz
  have J := I.laid (t' := tk) (o := .lst (l.map fun p => p.2.2)) kp (Nat.le_refl _) ⟨hl, es.toList.map (·.val), c, ev, by rw [← ea, Array.toArray_toList]; exact hS⟩
  exact ⟨.ref s.heap.objs.size, _, J, rfl, Vg.alc q hr hp fun kp' => .lst hl (dr.vals.mono hr kp')⟩
end
section
variable {prog : Program} {w : World} {A : Around} {E : Value → Shared → Prop} {s : Shared} {T : String} {r d : Addr} {n : Nat} {P : Nat → Value → Prop} {OK : Heap → Prop}
theorem src_collect {R : List Value → Shared → Prop} (K : PySem.W.KdlSrc prog w T r d n P OK) (hh : A.handled = none) (hok : OK s.heap) (hn : n ≤ sizeLine)
    (h : ∀ (h' : Heap) (tk : Nat) (acc : Array Value), (∀ b o, s.heap.get? b = some o → h'.get? b = some o) → s.heap.objs.size < h'.objs.size → ItemsOf P acc n → R acc.toList { s with heap := h', toks := tk }) :
    wpAny (model prog w) A (collect (.ref r)) R E s := by
  have hlt := K.there _ hok
  unfold collect
  refine wpAny_bind (wpAny_runValue (codeAny_builtin entry_proto_collect' ?_))
  rw [Around.under_plainId PySem.F.plain_proto_collect _]
  show wpAny _ A.in1 (newList [] >>= fun l => again (.builtin "list.__iadd__" ⟨[l, .ref r], []⟩)) _ _ s
  refine wpAny_bind (wpAny_newObj_type ?_)
  refine wpAny_pure ⟨plainId_quiet PySem.F.plain_list_iadd _, codeAny_builtin entry_list_iadd' ?_⟩
  rw [Around.under_plainId PySem.F.plain_list_iadd _]
  have hS₁ : (s.heap.push { cls := .type "list", data := .seq ([] : List Value).toArray }).get? s.heap.objs.size = some { cls := .type "list", data := .seq #[] } := Heap.get?_push_size _ rfl
  show wpAny _ A.in1 (Builtin.List.listExtendWith (.ref s.heap.objs.size) (.ref r) (.ref s.heap.objs.size)) _ _ _
  have key := PySem.W.kdl_extend (prog := prog) (w := w) (A := A) (s := { s with heap := s.heap.push { cls := .type "list", data := .seq ([] : List Value).toArray } })
    (R := fun (q : Result) (s' : Shared) => ∃ (h' : Heap) (tk : Nat) (acc' : Array Value) (c' : Nat), q = .ok (.ret (.ref s.heap.objs.size)) ∧ s' = { s with heap := h', toks := tk } ∧
      (∀ b o, s.heap.get? b = some o → h'.get? b = some o) ∧ h'.get? s.heap.objs.size = some { cls := .type "list", dict := none, data := .seq acc' c', slots := #[] } ∧ ItemsOf P acc' n)
    K hh (K.keep _ _ hok fun b _ o e => Heap.get?_push_of_some _ e) s.heap.objs.size (Nat.ne_of_gt hlt.1) (Nat.ne_of_gt hlt.2) (.ref s.heap.objs.size) 0 hS₁
    (fun h' tk acc' c' hk hS' hacc => ⟨h', tk, acc', c', rfl, rfl, fun b o e => hk b o (Nat.ne_of_lt (Heap.lt_size e)) (Heap.get?_push_of_some _ e), hS', hacc⟩) hn
  refine wpAny_mono key (fun fin s' x => ?_) fun e s' x => ?_
  · cases fin with
    | done f =>
      obtain ⟨h', tk, acc', c', e, rfl, hk, hS', hacc⟩ := x
      cases e
      show wpAny _ A (load s.heap.objs.size >>= _) _ _ _
      refine wpAny_bind (wpAny_load hS' ?_)
      exact wpAny_pure (h h' tk acc' hk (Heap.lt_size hS') hacc)
    | again c₁ =>
      refine ⟨x.1, codeAny_mono x.2 fun q s₂ y => ?_⟩
      obtain ⟨h', tk, acc', c', rfl, rfl, hk, hS', hacc⟩ := y
      show wpAny _ A (load s.heap.objs.size >>= _) _ _ _
      refine wpAny_bind (wpAny_load hS' ?_)
      exact wpAny_pure (h h' tk acc' hk (Heap.lt_size hS') hacc)
  · obtain ⟨_, _, _, _, e', _⟩ := x
    cases e'
theorem src_sorted {Q : Value → Shared → Prop} (K : PySem.W.KdlSrc prog w T r d n P OK) (hh : A.handled = none) (hok : OK s.heap) (hn : n ≤ sizeLine)
    (h : ∀ (h' : Heap) (tk : Nat) (acc : Array Value), (∀ b o, s.heap.get? b = some o → h'.get? b = some o) → s.heap.objs.size < h'.objs.size → ItemsOf P acc n →
      wpAny (model prog w) A.in1 (call (.builtin "list.sort") [.ref h'.objs.size]) (fun _ s' => Q (.ref h'.objs.size) s') E { s with heap := h'.push { cls := .type "list", data := .seq acc.toList.toArray }, toks := tk }) :
    wpAny (model prog w) A (call (.builtin "sorted") [.ref r]) Q E s := by
  refine call_function_entry_kw kind_sorted plain_sorted entry_sorted (args_sorted1 _) ?_
  unfold Builtin.«sorted»
  refine wpAny_bind (m := checkCount "sorted" 1 1 _) (wpAny_pure ?_)
  refine wpAny_bind (src_collect (A := A.in1) K hh hok hn fun h' tk acc hk hlt hacc => ?_)
  refine wpAny_bind (wpAny_newList ?_ (by rw [Array.length_toList, hacc.1]; exact hn))
  have hg := h h' tk acc hk hlt hacc
  refine wpAny_bind (wpAny_holding (wpAny_mono hg (fun _ s' x => ?_) fun _ _ e => e))
  exact wpAny_pure ⟨_, rfl, x⟩
end
section
theorem atk_some {k : NestedKey} : ∀ {xs : List (NestedKey × Addr × Value)}, (atKey xs k).isSome = true → k ∈ xs.map (·.1)
  | [], h => by cases h
  | x :: xs, h => by
    by_cases c : x.1 = k
    · rw [← c]
      simp
    · have e : atKey (x :: xs) k = atKey xs k := by
        unfold atKey
        rw [List.find?_cons_of_neg (by simpa using c)]
      rw [e] at h
      exact List.mem_cons_of_mem _ (atk_some h)
theorem nodup_some {α : Type} : ∀ {l : List α}, (l.map some).Nodup → l.Nodup
  | [], _ => .nil
  | x :: l, h => by
    rw [List.map_cons, List.nodup_cons] at h
    exact List.nodup_cons.mpr ⟨fun z => h.1 (List.mem_map_of_mem z), nodup_some h.2⟩
theorem stored_new {ps : List (NestedKey × Addr × Value)} : ∀ {acc : List (NestedKey × Addr × Value)}, ((acc ++ ps).map (·.1)).Nodup → storedAllH acc ps = acc ++ ps := by
  induction ps with
  | nil =>
    intro acc _
    simp [storedAllH]
  | cons p ps ih =>
    intro acc h
    have e : acc ++ p :: ps = (acc ++ [p]) ++ ps := by simp
    have hn : (atKey acc p.1).isSome = false := by
      cases q : atKey acc p.1 with
      | none => rfl
      | some z =>
        exfalso
        have hm := atk_some (k := p.1) (xs := acc) (by rw [q]; rfl)
        rw [List.map_append, List.nodup_append] at h
        exact h.2.2 _ hm p.1 (by simp) rfl
    have st : storedH acc p.1 p.2.1 p.2.2 = acc ++ [p] := by
      unfold storedH
      rw [if_neg (by rw [hn]; decide)]
    show storedAllH (storedH acc p.1 p.2.1 p.2.2) ps = _
    rw [st, e]
    exact ih (by rw [← e]; exact h)
theorem pairsT_rep {K : PySem.W.Frag} {H : Hp} {as : List Addr} : ∀ {xs : List D} {kvs : List (D × D)} {vs : List V}, pairsT xs = some kvs → Reps K H as vs xs → ∃ (ts : List Addr) (l : List (NestedKey × Addr × V)), vs = ts.map V.ref ∧ Paired (fun t p => SqT K H t [.ref p.2.1, p.2.2]) ts l ∧ DRel K H as l kvs ∧ (l.map fun p => some p.1) = kvs.map fun p => kd p.1
  | [], _, _, e, r => by
    cases e
    cases r
    exact ⟨[], [], rfl, .nil, .nil, rfl⟩
  | x :: xs, kvs, vs, e, r => by
    cases r with
    | cons r1 r2 =>
      cases x with
      | tup ys =>
        match ys, r1, e with
        | [k, d], r1, e =>
          have e : (match kd k with
            | some _ => (pairsT xs).map ((k, d) :: ·)
            | none => none) = some kvs := e
          cases ek : kd k with
          | none => rw [ek] at e; cases e
          | some kk =>
            rw [ek] at e
            obtain ⟨kvs', e1, rfl⟩ := Option.map_eq_some_iff.mp e
            obtain ⟨ts, l, rfl, h2, h3, h4⟩ := pairsT_rep e1 r2
            cases r1 with
            | @tup a zs _ q1 q2 q3 =>
              cases q3 with
              | cons p1 p2 =>
                cases p2 with
                | cons p3 p4 =>
                  cases p4
                  cases k with
                  | tup ks =>
                    cases p1 with
                    | @tup b ws _ w1 w2 w3 => exact ⟨a :: ts, (kk, b, _) :: l, rfl, .cons q1 h2, .cons ek (.tup w1 w2 w3) p3 h3, by rw [List.map_cons, List.map_cons, h4, ek]⟩
                  | _ => cases ek
        | [], r1, e => cases e
        | [z], r1, e => cases e
        | z :: _ :: _ :: _, r1, e => cases e
      | _ => cases e
theorem vals_two {a : Addr} {v : V} {us : List Value} (r : Vals [.ref a, v] us) : ∃ u, us = [.ref a, u] ∧ RelV v u := by
  cases r with
  | cons h t =>
    cases t with
    | cons h2 t2 =>
      cases t2
      have h : _ = Value.ref a := h
      subst h
      exact ⟨_, rfl, h2⟩
variable {X : Cx} {pins : List (Addr × Obj)} {σ : L2.St} {H : Hp} {s : Shared} {as : List Addr} {m : Mu}
theorem pairs_at (I : Inv X pins σ H s) : ∀ {ts : List Addr} {l : List (NestedKey × Addr × V)}, Paired (fun t p => SqT X.K H t [.ref p.2.1, p.2.2]) ts l → ∃ xs : List (NestedKey × Addr × Value), Paired PX l xs ∧ Paired (fun t (x : NestedKey × Addr × Value) => PairAt s.heap t (.ref x.2.1) x.2.2) ts xs
  | _, _, .nil => ⟨[], .nil, .nil⟩
  | t :: ts, p :: l, .cons h r => by
    obtain ⟨its, rv, ⟨o, ho, hc, n, hd⟩, _⟩ := I.tuple h
    obtain ⟨u, rfl, ru⟩ := vals_two rv
    obtain ⟨xs, h1, h2⟩ := pairs_at I r
    exact ⟨(p.1, p.2.1, u) :: xs, .cons ⟨rfl, rfl, ru⟩ h1, .cons (.inl ⟨o, ho, hc, n, hd⟩) h2⟩
theorem paired_get {α β : Type} {F : α → β → Prop} : ∀ {l : List α} {k : List β} {j : Nat} {y : β}, Paired F l k → k[j]? = some y → ∃ x, l[j]? = some x ∧ F x y
  | _, _, _, _, .nil, h => by simp at h
  | _, _, 0, _, .cons r _, h => by
    cases h
    exact ⟨_, rfl, r⟩
  | _, _, j + 1, _, .cons _ t, h => by
    obtain ⟨x, h1, h2⟩ := paired_get (j := j) t (by simpa using h)
    exact ⟨x, by simpa using h1, h2⟩
theorem vals_addr : ∀ {ts : List Addr} {us : List Value}, Vals (ts.map V.ref) us → us = ts.map Value.ref
  | [], us, r => by
    cases r
    rfl
  | t :: ts, us, r => by
    cases r with
    | cons h k =>
      have h : _ = Value.ref t := h
      rw [List.map_cons, ← vals_addr k, ← h]
theorem dictP_call (hc : X.calm = true) (hu : X.A.units + 200 < cLine) {Q : VK} {W : XK} (I : Inv X pins σ H s) (hr : HRep X.prog X.w X.K as m H) {a : Addr} {n : Nat} {ds : List D} {kvs : List (D × D)} (h1 : as[n]? = some a) (h2 : lstAt m n = some ds) (h3 : pairsT ds = some kvs) (hn : (kvs.map fun p => kd p.1).Nodup)
    (q : Vg X.prog X.w X.K X.mg (RD X.K) as H (alc (.dct false kvs) m) Q W) : wpAny (model X.prog X.w) X.A (call (.type "dict") [.ref a]) (EP X pins σ Q) X.xe s := by
  obtain ⟨vs, g1, g2, g3⟩ := hr.read h1 h2
  obtain ⟨ts, l, rfl, k1, k2, k3⟩ := pairsT_rep h3 g3
  obtain ⟨its, rv, ⟨o, k, ho, hcl, hdn, hd⟩, hz⟩ := I.list g1
  have eits := vals_addr rv
  subst eits
  obtain ⟨xs, px, pt⟩ := pairs_at I k1
  have lt : ts.length = xs.length := Paired.length pt
  have ndl : (l.map (·.1)).Nodup := by
    rw [← k3] at hn
    have : (l.map fun p => some p.1) = (l.map (·.1)).map some := by rw [List.map_map]; rfl
    rw [this] at hn
    exact nodup_some hn
  have ndx : (xs.map (·.1)).Nodup := by rw [px_keys px]; exact ndl
  have his := px_is I k2 px
  have hx : xs.length ≤ sizeLine := by rw [← lt]; simpa using hz
  refine call_dict_pairsH (knd := nestedKind X.prog X.w) (ps := xs) (PairArg.list a (ts.map Value.ref).toArray (fun j => ts.getD j 0) (xs.map fun x => (Value.ref x.2.1, x.2.2))) (I.ok.hd hc) (show X.A.units + 1 + 1 + 8 < cLine by omega)
    ⟨⟨o, k, ho, hcl, hdn, hd⟩, by simp [lt], fun j kk v hj => ?_⟩ ⟨by simp, fun i key v hi => ?_⟩ (fun h' hk x hx' => (nestedKind_stays (prog := X.prog) (w := X.w)).stays (fun b ob ww mm e1 _ => hk b ob (Nat.ne_of_lt (Heap.lt_size e1)) (by simp) e1) (his x hx')) (by simpa using hx) fun h' tk hm hk => ?_
  · rw [List.getElem?_map] at hj
    obtain ⟨x, e1, e2⟩ := Option.map_eq_some_iff.mp hj
    cases e2
    obtain ⟨t, e3, e4⟩ := paired_get pt e1
    have et : ts.getD j 0 = t := by rw [List.getD_eq_getElem?_getD, e3]; rfl
    dsimp only
    rw [et]
    refine ⟨?_, e4⟩
    rw [List.getElem?_toArray, List.getElem?_map, e3]
    rfl
  · have hi : (xs.map fun x => (Value.ref x.2.1, x.2.2))[i]? = some (key, v) := hi
    rw [List.getElem?_map] at hi
    obtain ⟨x, e1, e2⟩ := Option.map_eq_some_iff.mp hi
    cases e2
    exact ⟨x.1, x.2.1, e1, rfl⟩
  · rw [stored_new (acc := []) (by simpa using ndx)] at hm
    obtain ⟨od, es, ep, p1, p2, p3, p4, p5, p6⟩ := hm
    have hp : H s.heap.objs.size = none := I.hok.fresh (Nat.le_refl _)
    have at' : DctAt X.prog X.w s.heap.objs.size l h' := ⟨beq_eq_false_iff_ne.mpr (Ne.symm (Nat.ne_of_lt I.big)), od, es, ep, xs, p1, p2, p3, by simpa using p4, px⟩
    have J := I.laid (t' := tk) (o := .ext (DctAt X.prog X.w s.heap.objs.size l)) (fun b ob e => hk b ob (by simp) e) (Nat.le_refl _) ⟨at', ⟨_, p1⟩, fun h1 h2 p k => by
      obtain ⟨z1, o', es', ep', xs', z2, z3⟩ := p
      exact ⟨z1, o', es', ep', xs', k _ z2, z3⟩⟩
    have ln : kvs.length ≤ sizeLine := by rw [← k2.length, ← px_len px]; exact hx
    exact ⟨.ref s.heap.objs.size, _, J, rfl, Vg.alc q hr hp fun kp => .dct ln ndl (k2.mono hr kp)⟩
end
end Af
namespace Af
open PySem PySem.Spec PyProof.Rows L2
section
variable {X : Cx}
def r2 (X : Cx) (f : D → D → M D) : R2 := fun x y H Q => ∃ (E : XK) (as : List Addr) (m : Mu) (dx dy : D), HRep X.prog X.w X.K as m H ∧ Rep X.K H as x dx ∧ Rep X.K H as y dy ∧ Vg X.prog X.w X.K X.mg (RD X.K) as H (f dx dy m) Q E
def r1 (X : Cx) (f : D → M D) : V → Hp → VK → Prop := fun x H Q => ∃ (E : XK) (as : List Addr) (m : Mu) (dx : D), HRep X.prog X.w X.K as m H ∧ Rep X.K H as x dx ∧ Vg X.prog X.w X.K X.mg (RD X.K) as H (f dx m) Q E
def rn (X : Cx) (f : List D → M D) : List V → Hp → VK → Prop := fun xs H Q => ∃ (E : XK) (as : List Addr) (m : Mu) (ds : List D), HRep X.prog X.w X.K as m H ∧ Reps X.K H as xs ds ∧ Vg X.prog X.w X.K X.mg (RD X.K) as H (f ds m) Q E
def bopOf : Bop → Operator
  | .add => .Add | .sub => .Sub | .mul => .Mult | .mod => .Mod | .fdiv => .FloorDiv | .pow => .Pow | .mulB => .Mult
def copOf : Cop → CmpOp
  | .eq => .Eq | .ne => .NotEq | .lt => .Lt | .le => .LtE | .gt => .Gt | .ge => .GtE | .is => .Is | .isn => .IsNot | .in => .In | .nin => .NotIn
theorem mul_ok : OpR X (binaryOp .Mult) (r2 X (dBin .mul)) := by
  intro pins s σ H x y v u Q I rx ry ⟨E, as, m, dx, dy, hr, px, py, q⟩
  cases px <;> cases py <;> first | exact False.elim q | skip
  case int.int i j =>
    obtain ⟨c, q⟩ := Vg.chk q
    exact op_mul pins s σ H _ _ v u Q I rx ry ⟨i, j, rfl, rfl, c, Vg.ret q hr (.int _)⟩
  case tup.int a xs ds h1 h2 h3 j =>
    obtain ⟨⟨c1, c2, c3⟩, q⟩ := Vg.chk q
    have hl := h3.length
    refine op_repA pins s σ H _ _ v u Q I rx ry ⟨a, j, xs, rfl, rfl, h1, c3, c2, by omega, fun c => ?_, fun p hp => ?_⟩
    · have e : (List.replicate j.toNat ds).flatten = ds := by
        rcases c with c | c
        · subst c
          cases h3
          simp
        · subst c
          simp [List.replicate_succ]
      rw [e] at q
      exact Vg.ret q hr (.tup h1 h2 h3)
    · obtain ⟨kp, hr'⟩ := hr.tup (xs := (List.replicate j.toNat xs).flatten) hp
      have z : xs.length * j.toNat ≤ 1000 * 1000 := Nat.mul_le_mul (by omega) (by omega)
      exact q _ _ _ kp hr' (.tup (SqT.of upd_same) (by rw [List.length_flatten]; simp; rw [Nat.mul_comm]; exact Nat.le_trans z (by decide)) ((h3.rep _).mono hr kp))
  case ref.int a n h1 j =>
    have q : Vg X.prog X.w X.K X.mg (RD X.K) as H (match m[n]? with
      | some (.lst xs) => chk (j ≤ 1000000 ∧ -1000000 ≤ j ∧ xs.length * j.toNat ≤ sizeLine) (alc (.lst (List.replicate j.toNat xs).flatten)) m
      | _ => .bad) Q E := q
    split at q
    · rename_i xs e
      obtain ⟨⟨c1, c2, c3⟩, q⟩ := Vg.chk q
      obtain ⟨vs, g1, g2, g3⟩ := hr.lst h1 e
      refine op_rep pins s σ H _ _ v u Q I rx ry ⟨a, j, vs, rfl, rfl, g1, by omega, by omega, by rw [g3.length]; exact c3, fun p hp => ?_⟩
      exact Vg.alc q hr hp fun kp => .lst (by rw [List.length_flatten]; simp [g3.length]; rw [Nat.mul_comm]; exact c3) ((g3.rep j.toNat).mono hr kp)
    · exact False.elim q
theorem add_ok : OpR X (binaryOp .Add) (r2 X (dBin .add)) := by
  intro pins s σ H x y v u Q I rx ry ⟨E, as, m, dx, dy, hr, px, py, q⟩
  cases px <;> cases py <;> first | exact False.elim q | skip
  case int.int i j => exact op_add pins s σ H _ _ v u Q I rx ry ⟨i, j, rfl, rfl, Vg.ret q hr (.int _)⟩
  case str.str i j =>
    obtain ⟨c, q⟩ := Vg.chk q
    exact op_add_str pins s σ H _ _ v u Q I rx ry ⟨i, j, rfl, rfl, c, Vg.ret q hr (.str _)⟩
  case tup.tup a xs ds h1 h2 h3 b ys es k1 k2 k3 =>
    obtain ⟨c, q⟩ := Vg.chk q
    have hl := h3.length
    have kl := k3.length
    refine op_catA pins s σ H _ _ v u Q I rx ry ⟨a, b, xs, ys, rfl, rfl, h1, k1, by omega, fun e => ?_, fun _ e => ?_, fun _ _ p hp => ?_⟩
    · subst e
      cases h3
      exact Vg.ret q hr (.tup k1 k2 (by simpa using k3))
    · subst e
      cases k3
      rw [List.append_nil] at q
      exact Vg.ret q hr (.tup h1 h2 h3)
    · obtain ⟨kp, hr'⟩ := hr.tup (xs := xs ++ ys) hp
      exact q _ _ _ kp hr' (.tup (SqT.of upd_same) (by rw [List.length_append]; omega) ((h3.app k3).mono hr kp))
  case ref.ref a n h1 b k h2 =>
    have q : Vg X.prog X.w X.K X.mg (RD X.K) as H (match m[n]?, m[k]? with
      | some (.lst xs), some (.lst ys) => chk (xs.length + ys.length ≤ sizeLine) (alc (.lst (xs ++ ys))) m
      | _, _ => .bad) Q E := q
    split at q
    · rename_i xs ys e1 e2
      obtain ⟨c, q⟩ := Vg.chk q
      obtain ⟨vs, g1, g2, g3⟩ := hr.lst h1 e1
      obtain ⟨ws, f1, f2, f3⟩ := hr.lst h2 e2
      have cl : vs.length + ws.length ≤ sizeLine := by rw [g3.length, f3.length]; exact c
      refine op_cat pins s σ H _ _ v u Q I rx ry ⟨a, b, vs, ws, rfl, rfl, g1, f1, cl, fun p hp => ?_⟩
      exact Vg.alc q hr hp fun kp => .lst (by rw [List.length_append]; exact cl) ((g3.app f3).mono hr kp)
    · exact False.elim q
theorem bin_ok : ∀ o : Bop, OpR X (binaryOp (bopOf o)) (r2 X (dBin o))
  | .add => add_ok
  | .mul => mul_ok
  | .sub => by
    intro pins s σ H x y v u Q I rx ry ⟨E, as, m, dx, dy, hr, px, py, q⟩
    cases px <;> cases py <;> first | exact False.elim q | skip
    case int.int i j => exact op_sub pins s σ H _ _ v u Q I rx ry ⟨i, j, rfl, rfl, Vg.ret q hr (.int _)⟩
  | .mod => by
    intro pins s σ H x y v u Q I rx ry ⟨E, as, m, dx, dy, hr, px, py, q⟩
    cases px <;> cases py <;> first | exact False.elim q | skip
    case int.int i j =>
      obtain ⟨c, q⟩ := Vg.chk q
      exact op_modN pins s σ H _ _ v u Q I rx ry ⟨i, j, rfl, rfl, c, Vg.ret q hr (.int _)⟩
  | .fdiv => by
    intro pins s σ H x y v u Q I rx ry ⟨E, as, m, dx, dy, hr, px, py, q⟩
    cases px <;> cases py <;> first | exact False.elim q | skip
    case int.int i j =>
      obtain ⟨c, q⟩ := Vg.chk q
      exact op_fdivN pins s σ H _ _ v u Q I rx ry ⟨i, j, rfl, rfl, c, Vg.ret q hr (.int _)⟩
  | .pow => by
    intro pins s σ H x y v u Q I rx ry ⟨E, as, m, dx, dy, hr, px, py, q⟩
    cases px <;> cases py <;> first | exact False.elim q | skip
    case int.int i j =>
      obtain ⟨c, q⟩ := Vg.chk q
      exact op_pow pins s σ H _ _ v u Q I rx ry ⟨i, j, rfl, rfl, c, Vg.ret q hr (.int _)⟩
  | .mulB => by
    intro pins s σ H x y v u Q I rx ry ⟨E, as, m, dx, dy, hr, px, py, q⟩
    cases px <;> cases py <;> first | exact False.elim q | skip
    case int.int i j =>
      obtain ⟨c, q⟩ := Vg.chk q
      exact op_mulW pins s σ H _ _ v u Q I rx ry ⟨i, j, rfl, rfl, wide_mul c.1 c.2 (by decide) (by decide) (by decide), Vg.ret q hr (.int _)⟩
theorem neg_ok : UnR X (unaryOp .USub) (r1 X dNeg) := by
  intro pins s σ H x v Q I rx ⟨E, as, m, dx, hr, px, q⟩
  cases px <;> first | exact False.elim q | skip
  case int i => exact un_neg pins s σ H _ v Q I rx ⟨i, rfl, Vg.ret q hr (.int _)⟩
end
section
variable {P : Program} {w : World} {K : PySem.W.Frag} {H : Hp} {as : List Addr} {m : Mu}
theorem mapO_cons {α β : Type} {f : α → Option β} {x : α} {xs : List α} {ys : List β} (h : mapO f (x :: xs) = some ys) : ∃ y zs, f x = some y ∧ mapO f xs = some zs ∧ ys = y :: zs := by
  unfold mapO at h
  cases e : f x with
  | none => rw [e] at h; cases h
  | some y =>
    rw [e] at h
    obtain ⟨zs, h1, h2⟩ := Option.map_eq_some_iff.mp h
    exact ⟨y, zs, rfl, h1, h2.symm⟩
theorem pd_all {n : Nat} (ih : ∀ (d : D) (v : V) (p : PyData), pd m n d = some p → Rep K H as v d → Dp K H v p ∧ p.canLay0 = true ∧ p.depth ≤ n) : ∀ (ds : List D) (vs : List V) (ps : List PyData), mapO (pd m n) ds = some ps → Reps K H as vs ds → DpAll K H vs ps ∧ PyData.canLayAll0 ps = true ∧ PyData.depthAll ps ≤ n
  | [], vs, ps, h, r => by
    cases h
    cases r
    exact ⟨.nil, rfl, Nat.zero_le _⟩
  | d :: ds, vs, ps, h, r => by
    obtain ⟨y, zs, h1, h2, rfl⟩ := mapO_cons h
    cases r with
    | cons r1 r2 =>
      obtain ⟨a1, a2, a3⟩ := ih _ _ _ h1 r1
      obtain ⟨b1, b2, b3⟩ := pd_all ih ds _ zs h2 r2
      exact ⟨.cons a1 b1, by simp [PyData.canLayAll0, a2, b2], by simp only [PyData.depthAll]; omega⟩
theorem pd_ok (hr : HRep P w K as m H) : ∀ (n : Nat) (d : D) (v : V) (p : PyData), pd m n d = some p → Rep K H as v d → Dp K H v p ∧ p.canLay0 = true ∧ p.depth ≤ n := by
  intro n
  induction n with
  | zero =>
    intro d v p h r
    cases r with
    | non => cases h; exact ⟨.non, rfl, Nat.zero_le _⟩
    | bl b => cases h; exact ⟨.bl b, rfl, Nat.zero_le _⟩
    | int i => cases h; exact ⟨.int i, rfl, Nat.zero_le _⟩
    | str x =>
      have h : (if PyData.strOk x then some (PyData.str x) else none) = some p := h
      split at h
      · rename_i e
        cases h; exact ⟨.str x, e, Nat.zero_le _⟩
      · cases h
    | tup _ _ _ => cases h
    | ref _ => cases h
    | exo _ => cases h
  | succ n ih =>
    intro d v p h r
    cases r with
    | non => cases h; exact ⟨.non, rfl, Nat.zero_le _⟩
    | bl b => cases h; exact ⟨.bl b, rfl, Nat.zero_le _⟩
    | int i => cases h; exact ⟨.int i, rfl, Nat.zero_le _⟩
    | str x =>
      have h : (if PyData.strOk x then some (PyData.str x) else none) = some p := h
      split at h
      · rename_i e
        cases h; exact ⟨.str x, e, Nat.zero_le _⟩
      · cases h
    | @tup a xs ds h1 h2 h3 =>
      have h : (mapO (pd m n) ds).map .tuple = some p := h
      obtain ⟨ps, e1, rfl⟩ := Option.map_eq_some_iff.mp h
      obtain ⟨b1, b2, b3⟩ := pd_all ih ds xs ps e1 h3
      exact ⟨.tup h1 b1, by simpa [PyData.canLay0] using b2, by simp only [PyData.depth]; omega⟩
    | @ref a k h1 =>
      have h : (match lstAt m k with
        | some xs => (mapO (pd m n) xs).map .list
        | none => none) = some p := h
      split at h
      · rename_i xs e
        obtain ⟨ps, e1, rfl⟩ := Option.map_eq_some_iff.mp h
        obtain ⟨vs, g1, g2, g3⟩ := hr.read h1 e
        obtain ⟨b1, b2, b3⟩ := pd_all ih xs vs ps e1 g3
        exact ⟨.lst g1 b1, by simpa [PyData.canLay0] using b2, by simp only [PyData.depth]; omega⟩
      · cases h
    | exo _ => cases h
theorem pd_shaped (hr : HRep P w K as m H) {n : Nat} (hn : n ≤ 60) {d : D} {v : V} {p : PyData} (h : pd m n d = some p) (r : Rep K H as v d) : Dp K H v p ∧ SeqAt.shaped p = true := by
  obtain ⟨h1, h2, h3⟩ := pd_ok hr n d v p h r
  exact ⟨h1, by unfold SeqAt.shaped; rw [h2, Bool.true_and]; exact decide_eq_true (by omega)⟩
end
section
variable {X : Cx}
theorem Vg.cmp {P : Program} {w : World} {K : PySem.W.Frag} {mg : Str → Option Value} {as : List Addr} {H : Hp} {m : Mu} {Q : V → Hp → Prop} {E : XK} {o : Cop} {x y : D} (h : Vg P w K mg (RD K) as H (cmpM o x y m) Q E) : ∃ d, dCmp m o x y = some d ∧ Vg P w K mg (RD K) as H (Af.ret d m) Q E := by
  unfold cmpM at h
  exact Vg.opt h
theorem eq_ok (hu : X.A.units + 200 < cLine) : OpR X (compareOp .Eq) (r2 X (cmpM .eq)) := by
  intro pins s σ H x y v u Q I rx ry ⟨E, as, m, dx, dy, hr, px, py, q⟩
  obtain ⟨d, e, q⟩ := Vg.cmp q
  obtain ⟨b, e1, rfl⟩ := Option.map_eq_some_iff.mp (show (eqD m dx dy).map D.bl = some d from e)
  have fin := Vg.ret q hr (.bl b)
  unfold eqD at e1
  split at e1
  · cases px
    cases py
    cases e1
    refine op_eq pins s σ H _ _ v u Q I rx ry ⟨rfl, ?_⟩
    rw [dec_str]
    exact fin
  · split at e1
    · rename_i a b' h1 h2
      cases e1
      obtain ⟨g1, g2⟩ := pd_shaped hr (by decide) h1 px
      obtain ⟨f1, f2⟩ := pd_shaped hr (by decide) h2 py
      exact op_eqD (by omega) pins s σ H _ _ v u Q I rx ry ⟨a, b', g1, f1, g2, f2, fin⟩
    · cases e1
theorem ne_ok (hu : X.A.units + 200 < cLine) : OpR X (compareOp .NotEq) (r2 X (cmpM .ne)) := by
  intro pins s σ H x y v u Q I rx ry ⟨E, as, m, dx, dy, hr, px, py, q⟩
  obtain ⟨d, e, q⟩ := Vg.cmp q
  obtain ⟨b, e1, rfl⟩ := Option.map_eq_some_iff.mp (show (eqD m dx dy).map (fun b => D.bl (!b)) = some d from e)
  have fin := Vg.ret q hr (.bl (!b))
  unfold eqD at e1
  split at e1
  · cases px
    cases py
    cases e1
    refine op_ne pins s σ H _ _ v u Q I rx ry ⟨rfl, ?_⟩
    rw [dec_str]
    exact fin
  · split at e1
    · rename_i a b' h1 h2
      cases e1
      obtain ⟨g1, g2⟩ := pd_shaped hr (by decide) h1 px
      obtain ⟨f1, f2⟩ := pd_shaped hr (by decide) h2 py
      exact op_neD (by omega) pins s σ H _ _ v u Q I rx ry ⟨a, b', g1, f1, g2, f2, fin⟩
    · cases e1
theorem ord_ok {o : Cop} {g : Int → Int → Bool} (hd : ∀ m x y d, dCmp m o x y = some d → ∃ i j, x = .int i ∧ y = .int j ∧ d = .bl (g i j)) (h : OpR X (compareOp (copOf o)) (rI0 fun i j => .bl (g i j))) : OpR X (compareOp (copOf o)) (r2 X (cmpM o)) := by
  intro pins s σ H x y v u Q I rx ry ⟨E, as, m, dx, dy, hr, px, py, q⟩
  obtain ⟨d, e, q⟩ := Vg.cmp q
  obtain ⟨i, j, rfl, rfl, rfl⟩ := hd m dx dy d e
  cases px
  cases py
  exact h pins s σ H _ _ v u Q I rx ry ⟨i, j, rfl, rfl, Vg.ret q hr (Rep.bl _)⟩
theorem is_ok : OpR X (compareOp .Is) (r2 X (cmpM .is)) := by
  intro pins s σ H x y v u Q I rx ry ⟨E, as, m, dx, dy, hr, px, py, q⟩
  obtain ⟨d, e, q⟩ := Vg.cmp q
  obtain ⟨b, e1, rfl⟩ := Option.map_eq_some_iff.mp (show (dIs dx dy).map D.bl = some d from e)
  have fin := Vg.ret q hr (Rep.bl b)
  cases py with
  | non =>
    cases ry
    cases px with
    | non => cases rx; cases e1; exact op_isN pins s σ H .non .non _ _ Q I rfl rfl ⟨rfl, fin⟩
    | bl c => cases rx; cases e1; exact op_isN pins s σ H (.bl c) .non _ _ Q I rfl rfl ⟨rfl, fin⟩
    | int i => cases e1; exact op_isN pins s σ H (.int i) .non _ _ Q I rx rfl ⟨rfl, fin⟩
    | str i => cases e1; exact op_isN pins s σ H (.str i) .non _ _ Q I rx rfl ⟨rfl, fin⟩
    | @tup a _ _ _ _ _ => cases e1; exact op_isN pins s σ H (.ref a) .non _ _ Q I rx rfl ⟨rfl, fin⟩
    | @ref a _ _ => cases e1; exact op_isN pins s σ H (.ref a) .non _ _ Q I rx rfl ⟨rfl, fin⟩
    | exo a => cases e1; exact op_isN pins s σ H (.ref a) .non _ _ Q I rx rfl ⟨rfl, fin⟩
  | bl c =>
    cases ry
    cases px with
    | non => cases rx; cases e1; exact wpAny_is_other rfl (fun z => by cases z) ⟨.bl false, H, I, rfl, fin⟩
    | bl c' => cases rx; cases e1; exact op_isBl pins s σ H (.bl c') (.bl c) _ _ Q I rfl rfl ⟨c', c, rfl, rfl, by rw [show decide (c' = c) = (c' == c) from by cases c <;> cases c' <;> rfl]; exact fin⟩
    | int i => obtain ⟨t, rfl⟩ := rx; cases e1; exact wpAny_is_other rfl (fun z => by cases z) ⟨.bl false, H, I, rfl, fin⟩
    | _ => cases e1
  | _ => cases px <;> cases e1
theorem isn_ok : OpR X (compareOp .IsNot) (r2 X (cmpM .isn)) := by
  intro pins s σ H x y v u Q I rx ry ⟨E, as, m, dx, dy, hr, px, py, q⟩
  obtain ⟨d, e, q⟩ := Vg.cmp q
  obtain ⟨b, e1, rfl⟩ := Option.map_eq_some_iff.mp (show (dIs dx dy).map (fun b => D.bl (!b)) = some d from e)
  have fin := Vg.ret q hr (Rep.bl (!b))
  cases py with
  | non =>
    cases ry
    cases px with
    | non => cases rx; cases e1; exact op_notN pins s σ H .non .non _ _ Q I rfl rfl ⟨rfl, fin⟩
    | bl c => cases rx; cases e1; exact op_notN pins s σ H (.bl c) .non _ _ Q I rfl rfl ⟨rfl, fin⟩
    | int i => cases e1; exact op_notN pins s σ H (.int i) .non _ _ Q I rx rfl ⟨rfl, fin⟩
    | str i => cases e1; exact op_notN pins s σ H (.str i) .non _ _ Q I rx rfl ⟨rfl, fin⟩
    | @tup a _ _ _ _ _ => cases e1; exact op_notN pins s σ H (.ref a) .non _ _ Q I rx rfl ⟨rfl, fin⟩
    | @ref a _ _ => cases e1; exact op_notN pins s σ H (.ref a) .non _ _ Q I rx rfl ⟨rfl, fin⟩
    | exo a => cases e1; exact op_notN pins s σ H (.ref a) .non _ _ Q I rx rfl ⟨rfl, fin⟩
  | bl c =>
    cases ry
    cases px with
    | non => cases rx; cases e1; exact wpAny_isNot_other rfl (fun z => by cases z) ⟨.bl true, H, I, rfl, fin⟩
    | bl c' => cases rx; cases e1; exact op_notBl pins s σ H (.bl c') (.bl c) _ _ Q I rfl rfl ⟨c', c, rfl, rfl, by rw [show decide (c' = c) = (c' == c) from by cases c <;> cases c' <;> rfl]; exact fin⟩
    | int i => obtain ⟨t, rfl⟩ := rx; cases e1; exact wpAny_isNot_other rfl (fun z => by cases z) ⟨.bl true, H, I, rfl, fin⟩
    | _ => cases e1
  | _ => cases px <;> cases e1
theorem inL_ok {pins : List (Addr × Obj)} {s : Shared} {σ : L2.St} {H : Hp} {as : List Addr} {m : Mu} {x : V} {v : Value} {dx : D} {vs : List V} {its : List Value} {ds : List D} {b : Bool} (I : Inv X pins σ H s) (hr : HRep X.prog X.w X.K as m H) (rx : RelV x v) (px : Rep X.K H as x dx) (rs : Vals vs its) (ps : Reps X.K H as vs ds)
    (e : inL m dx ds = some b) : ∃ (xs : List PyData) (d : PyData) (as' bs : List Addr), ReadsAll s.heap its xs as' ∧ Reads s.heap v d bs ∧ PyData.canLayAll0 xs = true ∧ d.canLay0 = true ∧ d.depth ≤ 19 ∧ PyData.depthAll xs ≤ 19 ∧ b = xs.any fun y => PyData.eqv y d := by
  unfold inL at e
  split at e
  · rename_i xs d h1 h2
    cases e
    obtain ⟨g1, g2, g3⟩ := pd_ok hr 19 dx x d h2 px
    obtain ⟨f1, f2, f3⟩ := pd_all (pd_ok hr 19) ds vs xs h1 ps
    obtain ⟨bs, q1⟩ := Dp.reads I d x v g1 rx
    obtain ⟨as', q2⟩ := Dp.readsAll I xs vs its f1 rs
    exact ⟨xs, d, as', bs, q2, q1, f2, g2, g3, f3, rfl⟩
  · cases e
theorem in_ok (hu : X.A.units + 200 < cLine) {neg : Bool} {o : Cop} (ho : ∀ m x y, dCmp m o x y = (dIn m x y).map fun b => D.bl (if neg then !b else b)) (hc : copOf o = if neg then .NotIn else .In) (hdct : ∀ (pins : List (Addr × Obj)) (s : Shared) (σ : L2.St) (H : Hp) (as : List Addr) (m : Mu) (x : V) (v : Value) (dx : D) (a : Addr) (n : Nat) (fz : Bool) (kvs : List (D × D)) (k : NestedKey) (Q : VK), Inv X pins σ H s → HRep X.prog X.w X.K as m H → RelV x v → Rep X.K H as x dx → as[n]? = some a → m[n]? = some (.dct fz kvs) → kd dx = some k → Q (.bl (if neg then !(dLook kvs k).isSome else (dLook kvs k).isSome)) H → wpAny (model X.prog X.w) X.A (compareOp (copOf o) v (.ref a)) (EP X pins σ Q) X.xe s) : OpR X (compareOp (copOf o)) (r2 X (cmpM o)) := by
  intro pins s σ H x y v u Q I rx ry ⟨E, as, m, dx, dy, hr, px, py, q⟩
  obtain ⟨d, e, q⟩ := Vg.cmp q
  rw [ho] at e
  obtain ⟨b, e1, rfl⟩ := Option.map_eq_some_iff.mp e
  have fin := Vg.ret q hr (Rep.bl _)
  cases py with
  | @tup a vs ds h1 h2 h3 =>
    cases ry
    obtain ⟨its, rv, ⟨ob, h4, h5, n, h6⟩, _⟩ := I.tuple h1
    obtain ⟨xs, d, as', bs, q2, q1, f2, g2, g3, f3, rfl⟩ := inL_ok I hr rx px rv h3 e1
    rw [hc]
    cases neg with
    | false => exact SeqAt.in_tuple_reads (Reads.tuple h4 h5 h6 (by simpa using q2)) q1 f2 g2 (by have : min (PyData.depthAll xs) d.depth ≤ d.depth := Nat.min_le_right _ _; omega) ⟨.bl _, H, I, rfl, fin⟩
    | true => exact SeqAt.notIn_tuple_reads (Reads.tuple h4 h5 h6 (by simpa using q2)) q1 f2 g2 (by have : min (PyData.depthAll xs) d.depth ≤ d.depth := Nat.min_le_right _ _; omega) ⟨.bl _, H, I, rfl, fin⟩
  | @ref a n h1 =>
    cases ry
    have e1 : (match m[n]? with
      | some (.lst xs) => inL m dx xs
      | some (.fls xs) => inL m dx xs
      | some (.dct _ kvs) => (kd dx).map fun k => (dLook kvs k).isSome
      | _ => none) = some b := e1
    have go : ∀ ds, lstAt m n = some ds → inL m dx ds = some b → wpAny (model X.prog X.w) X.A (compareOp (copOf o) v (.ref a)) (EP X pins σ Q) X.xe s := fun ds hl e1 => by
      obtain ⟨vs, g1, g2, g3⟩ := hr.read h1 hl
      obtain ⟨its, rv, ⟨ob, nn, h4, h5, _, h6⟩, _⟩ := I.list g1
      obtain ⟨xs, d, as', bs, q2, q1, f2, g2, g3, f3, rfl⟩ := inL_ok I hr rx px rv g3 e1
      rw [hc]
      cases neg with
      | false => exact SeqAt.in_list_reads (Reads.list h4 h5 h6 (by simpa using q2)) q1 f2 g2 (by have : min (PyData.depthAll xs) d.depth ≤ d.depth := Nat.min_le_right _ _; omega) ⟨.bl _, H, I, rfl, fin⟩
      | true => exact SeqAt.notIn_list_reads (Reads.list h4 h5 h6 (by simpa using q2)) q1 f2 g2 (by have : min (PyData.depthAll xs) d.depth ≤ d.depth := Nat.min_le_right _ _; omega) ⟨.bl _, H, I, rfl, fin⟩
    split at e1
    · rename_i xs e2
      exact go xs (by unfold lstAt; rw [e2]) e1
    · rename_i xs e2
      exact go xs (by unfold lstAt; rw [e2]) e1
    · rename_i fz kvs e2
      obtain ⟨k, e3, rfl⟩ := Option.map_eq_some_iff.mp e1
      exact hdct pins s σ H as m x v dx a n fz kvs k Q I hr rx px h1 e2 e3 fin
    · cases e1
  | str z =>
    cases px with
    | str z' =>
      cases e1
      rw [hc]
      cases neg with
      | false => exact op_in_str pins s σ H _ _ v u Q I rx ry ⟨z', z, rfl, rfl, fin⟩
      | true => exact op_notin_str pins s σ H _ _ v u Q I rx ry ⟨z', z, rfl, rfl, fin⟩
    | _ => cases e1
  | _ => cases e1
theorem atI_rel {K : PySem.W.Frag} {H : Hp} {as : List Addr} {vs : List V} {ds : List D} {i : Int} {d : D} (r : Reps K H as vs ds) (h : atI ds i = some d) : ∃ v, atI vs i = some v ∧ Rep K H as v d := by
  unfold atI at h ⊢
  rw [r.length]
  obtain ⟨j, h1, h2⟩ := Option.bind_eq_some_iff.mp h
  obtain ⟨v, h3, h4⟩ := r.get h2
  exact ⟨v, by rw [h1]; exact h3, h4⟩
theorem ix_ok (hdct : IxR X (fun x y H Q => ∃ (as : List Addr) (m : Mu) (a : Addr) (n : Nat) (dy : D) (fz : Bool) (kvs : List (D × D)) (k : NestedKey) (d : D), HRep X.prog X.w X.K as m H ∧ x = .ref a ∧ as[n]? = some a ∧ m[n]? = some (.dct fz kvs) ∧ Rep X.K H as y dy ∧ kd dy = some k ∧ dLook kvs k = some d ∧ ∀ v, Rep X.K H as v d → Q v H)) : IxR X (r2 X dIx) := by
  intro value slice pins s σ H x y v u Q I rx ry ⟨E, as, m, dx, dy, hr, px, py, q⟩ hs
  cases px with
  | @tup a xs ds h1 h2 h3 =>
    cases py with
    | int i =>
      obtain ⟨d, e, q⟩ := Vg.opt q
      obtain ⟨w, e1, r1⟩ := atI_rel h3 e
      exact ix_tup value slice pins s σ H _ _ v u Q I rx ry ⟨a, xs, i, w, rfl, rfl, h1, e1, Vg.ret q hr r1⟩ hs
    | _ => exact False.elim q
  | str z =>
    cases py with
    | int i =>
      obtain ⟨c, q⟩ := Vg.chk q
      obtain ⟨d, e, q⟩ := Vg.opt q
      obtain ⟨c0, e1, rfl⟩ := Option.map_eq_some_iff.mp e
      exact ix_str value slice pins s σ H _ _ v u Q I rx ry ⟨z, i, c0, rfl, rfl, c, e1, Vg.ret q hr (.str _)⟩ hs
    | _ => exact False.elim q
  | @ref a n h1 =>
    have q : Vg X.prog X.w X.K X.mg (RD X.K) as H (match (generalizing := false) m[n]?, dy with
      | some (.lst xs), .int i => opt (L2.atI xs i) m
      | some (.fls xs), .int i => opt (L2.atI xs i) m
      | some (.dct _ kvs), k => opt ((kd k).bind (dLook kvs)) m
      | _, _ => .bad) Q E := q
    have go : ∀ ds i, lstAt m n = some ds → y = .int i → Vg X.prog X.w X.K X.mg (RD X.K) as H (opt (L2.atI ds i) m) Q E → wpAny (model X.prog X.w) X.A (subscriptTail value slice v u) (EP X pins σ Q) X.xe s := fun ds i hl ey q => by
      subst ey
      obtain ⟨vs, g1, g2, g3⟩ := hr.read h1 hl
      obtain ⟨d, e, q⟩ := Vg.opt q
      obtain ⟨w, e1, r1⟩ := atI_rel g3 e
      exact ix_list value slice pins s σ H _ _ v u Q I rx ry ⟨a, vs, i, w, rfl, rfl, g1, e1, Vg.ret q hr r1⟩ hs
    cases e1 : m[n]? with
    | none => rw [e1] at q; exact False.elim q
    | some o =>
      rw [e1] at q
      cases o with
      | lst xs =>
        cases py with
        | int i => exact go xs i (by unfold lstAt; rw [e1]) rfl q
        | _ => exact False.elim q
      | fls xs =>
        cases py with
        | int i => exact go xs i (by unfold lstAt; rw [e1]) rfl q
        | _ => exact False.elim q
      | dct fz kvs =>
        have q : Vg X.prog X.w X.K X.mg (RD X.K) as H (opt ((kd dy).bind (dLook kvs)) m) Q E := by
          cases py <;> exact q
        obtain ⟨d, e, q⟩ := Vg.opt q
        obtain ⟨kk, e2, e3⟩ := Option.bind_eq_some_iff.mp e
        exact hdct value slice pins s σ H _ _ v u Q I rx ry ⟨as, m, a, n, dy, fz, kvs, kk, d, hr, rfl, h1, e1, py, e2, e3, fun v rv => Vg.ret q hr rv⟩ hs
      | ins c fs => cases py <;> exact False.elim q
      | mp kvs => cases py <;> exact False.elim q
  | _ => exact False.elim q
def rsl (X : Cx) (f : D → Option Int → Option Int → M D) : V → Option Int → Option Int → Hp → VK → Prop := fun x lo hi H Q => ∃ (E : XK) (as : List Addr) (m : Mu) (dx : D), HRep X.prog X.w X.K as m H ∧ Rep X.K H as x dx ∧ Vg X.prog X.w X.K X.mg (RD X.K) as H (f dx lo hi m) Q E
theorem cutV_len (xs : List V) (lo hi : Option Int) : (cutV xs lo hi).length ≤ xs.length := by
  unfold cutV
  rw [List.length_take, List.length_drop]
  omega
theorem cut_all {α : Type} {xs : List α} {lo hi : Option Int} (h : HT.sIx xs.length 0 lo = 0 ∧ HT.sIx xs.length xs.length hi = xs.length) : cut xs lo hi = xs := by
  unfold cut
  rw [h.1, h.2]
  simp
theorem sl_ok : SlR X (rsl X dSl) := by
  intro pins s σ H x v vl vu lo hi sl Q I rx hs pl pu ⟨E, as, m, dx, hr, px, q⟩
  cases px with
  | @tup a xs ds h1 h2 h3 =>
    have hl := h3.length
    refine sl_tupA pins s σ H _ v vl vu lo hi sl Q I rx hs pl pu ⟨a, xs, rfl, h1, fun c => ?_, fun _ p hp => ?_⟩
    · have e : cut ds lo hi = ds := cut_all (by rw [← hl]; exact c)
      refine Vg.ret (a := D.tup ds) (by rw [← e]; exact q) hr (Rep.tup h1 h2 h3)
    · obtain ⟨kp, hr'⟩ := hr.tup (xs := cutV xs lo hi) hp
      exact q _ _ _ kp hr' (.tup (SqT.of upd_same) (Nat.le_trans (cutV_len _ _ _) h2) ((h3.cut _ _).mono hr kp))
  | @ref a n h1 =>
    have q : Vg X.prog X.w X.K X.mg (RD X.K) as H (match lstAt m n with
      | some xs => alc (.lst (cut xs lo hi)) m
      | none => .bad) Q E := q
    split at q
    · rename_i ds e
      obtain ⟨vs, g1, g2, g3⟩ := hr.read h1 e
      refine sl_list pins s σ H _ v vl vu lo hi sl Q I rx hs pl pu ⟨a, vs, rfl, g1, fun p hp => ?_⟩
      exact Vg.alc q hr hp fun kp => .lst (Nat.le_trans (cutV_len _ _ _) g2) ((g3.cut _ _).mono hr kp)
    · exact False.elim q
  | str z =>
    obtain ⟨c, q⟩ := Vg.chk q
    refine sl_str pins s σ H _ v vl vu lo hi sl Q I rx hs pl pu ⟨z, rfl, c, ?_⟩
    have e : cutS z lo hi = ⟨(cut z.cps.toList lo hi).toArray⟩ := by
      unfold cutS cut
      rw [Array.length_toList]
      rfl
    rw [e]
    exact Vg.ret q hr (Rep.str _)
  | _ => exact False.elim q
def biName : Bi → Str
  | .len => "len" | .abs => "abs" | .min2 => "min" | .max2 => "max" | .int => "int" | .str => "str" | .tuple => "tuple" | .list => "list" | .sorted => "sorted" | .any => "any" | .all => "all" | .sum => "sum" | .repr => "repr" | .dict => "dict" | .dictP => "dict" | .listK => "list" | .sortK => "sorted"
def biVal : Bi → Value
  | .len => .builtin "len" | .abs => .builtin "abs" | .min2 => .builtin "min" | .max2 => .builtin "max" | .int => .type "int" | .str => .type "str" | .tuple => .type "tuple" | .list => .type "list" | .sorted => .builtin "sorted" | .any => .builtin "any" | .all => .builtin "all" | .sum => .builtin "sum" | .repr => .builtin "repr" | .dict => .type "dict" | .dictP => .type "dict" | .listK => .type "list" | .sortK => .builtin "sorted"
theorem bi_boot : ∀ b : Bi, bootBuiltins (biName b) = some (biVal b) := by
  intro b
  cases b <;> decide +kernel
theorem len_ok : CallR X (.builtin "len") (rn X (biF .len)) := by
  intro pins s σ H xs us Q I r ⟨E, as, m, ds, hr, px, q⟩
  cases px with
  | nil => exact False.elim q
  | cons p1 pr =>
    cases pr with
    | cons _ _ => cases p1 <;> exact False.elim q
    | nil =>
      cases p1 with
      | str z =>
        obtain ⟨c, q⟩ := Vg.chk q
        exact call_len_str pins s σ H _ us Q I r ⟨z, rfl, c, Vg.ret q hr (Rep.int _)⟩
      | @tup a xs ds h1 h2 h3 =>
        exact call_len_seq pins s σ H _ us Q I r ⟨a, xs, rfl, .inr h1, by rw [h3.length]; exact Vg.ret q hr (Rep.int _)⟩
      | @ref a n h1 =>
        have q : Vg X.prog X.w X.K X.mg (RD X.K) as H (match m[n]? with
          | some (.lst xs) => .ok (.int xs.length) m
          | some (.fls xs) => .ok (.int xs.length) m
          | some (.dct _ kvs) => .ok (.int kvs.length) m
          | _ => .bad) Q E := q
        have go : ∀ ds, lstAt m n = some ds → Vg X.prog X.w X.K X.mg (RD X.K) as H (Af.ret (.int ds.length) m) Q E → wpAny (model X.prog X.w) X.A (call (.builtin "len") us) (EP X pins σ Q) X.xe s := fun ds hl q => by
          obtain ⟨vs, g1, g2, g3⟩ := hr.read h1 hl
          exact call_len_seq pins s σ H _ us Q I r ⟨a, vs, rfl, .inl g1, by rw [g3.length]; exact Vg.ret q hr (Rep.int _)⟩
        split at q
        · rename_i xs e1
          exact go xs (by unfold lstAt; rw [e1]) q
        · rename_i xs e1
          exact go xs (by unfold lstAt; rw [e1]) q
        · rename_i fz kvs e1
          obtain ⟨l, xs, g1, g2, g3, g4, g5, g6, g7⟩ := dct_in I hr h1 e1
          obtain rfl : us = [Value.ref a] := by
            cases r with
            | cons r1 r2 =>
              cases r2
              cases r1
              rfl
          have hk : s.heap.DictKeyed (nestedKind X.prog X.w) a (pairsH xs) := ⟨xs, g7, rfl⟩
          have hl : (pairsH xs).length = kvs.length := by rw [pairsH_length, px_len g6, g4.length]
          refine PyProof.Rows.call_len_slot (n := (pairsH xs).length) hk.typeIs F.slot_dict_len (fun Q' hq => len_keyed g5 hk hq) (by omega) (by rw [hl]; rw [sizeLine_eq] at g2; omega) ?_
          refine ⟨.int kvs.length, H, I.tok _, ?_, Vg.ret (a := D.int kvs.length) q hr (Rep.int _)⟩
          exact ⟨_, by rw [hl]⟩
        · exact False.elim q
      | _ => exact False.elim q
theorem abs_ok : CallR X (.builtin "abs") (rn X (biF .abs)) := by
  intro pins s σ H xs us Q I r ⟨E, as, m, ds, hr, px, q⟩
  cases px with
  | nil => exact False.elim q
  | cons p1 pr =>
    cases pr with
    | cons _ _ => cases p1 <;> exact False.elim q
    | nil =>
      cases p1 with
      | int i => exact call_abs pins s σ H _ us Q I r ⟨i, rfl, Vg.ret q hr (Rep.int _)⟩
      | _ => exact False.elim q
theorem ints_of {K : PySem.W.Frag} {H : Hp} {as : List Addr} : ∀ {ds : List D} {bs : List Int} {vs : List V}, intsO ds = some bs → Reps K H as vs ds → vs = bs.map V.int
  | [], _, _, h, r => by cases h; cases r; rfl
  | d :: ds, bs, _, h, r => by
    cases d with
    | int b =>
      obtain ⟨bs', h1, rfl⟩ := Option.map_eq_some_iff.mp (show (intsO ds).map (b :: ·) = some bs from h)
      cases r with
      | cons r1 r2 =>
        cases r1
        rw [ints_of h1 r2]
        rfl
    | _ => cases h
theorem foldl_min : ∀ (bs : List Int) (b : Int), bs.foldl min b ∈ b :: bs ∧ ∀ y ∈ b :: bs, bs.foldl min b ≤ y
  | [], b => ⟨List.mem_cons_self, fun y hy => by rw [List.mem_singleton.mp hy]; exact Int.le_refl _⟩
  | c :: bs, b => by
    obtain ⟨h1, h2⟩ := foldl_min bs (min b c)
    rw [List.foldl_cons]
    refine ⟨?_, fun y hy => ?_⟩
    · rcases List.mem_cons.mp h1 with h | h
      · rw [h]
        rcases Int.le_total b c with q | q
        · rw [Int.min_eq_left q]; exact List.mem_cons_self
        · rw [Int.min_eq_right q]; exact List.mem_cons_of_mem _ List.mem_cons_self
      · exact List.mem_cons_of_mem _ (List.mem_cons_of_mem _ h)
    · have hm := h2 _ List.mem_cons_self
      rcases List.mem_cons.mp hy with rfl | hy
      · exact Int.le_trans hm (Int.min_le_left _ _)
      · rcases List.mem_cons.mp hy with rfl | hy
        · exact Int.le_trans hm (Int.min_le_right _ _)
        · exact h2 y (List.mem_cons_of_mem _ hy)
theorem foldl_max : ∀ (bs : List Int) (b : Int), bs.foldl max b ∈ b :: bs ∧ ∀ y ∈ b :: bs, y ≤ bs.foldl max b
  | [], b => ⟨List.mem_cons_self, fun y hy => by rw [List.mem_singleton.mp hy]; exact Int.le_refl _⟩
  | c :: bs, b => by
    obtain ⟨h1, h2⟩ := foldl_max bs (max b c)
    rw [List.foldl_cons]
    refine ⟨?_, fun y hy => ?_⟩
    · rcases List.mem_cons.mp h1 with h | h
      · rw [h]
        rcases Int.le_total b c with q | q
        · rw [Int.max_eq_right q]; exact List.mem_cons_of_mem _ List.mem_cons_self
        · rw [Int.max_eq_left q]; exact List.mem_cons_self
      · exact List.mem_cons_of_mem _ (List.mem_cons_of_mem _ h)
    · have hm := h2 _ List.mem_cons_self
      rcases List.mem_cons.mp hy with rfl | hy
      · exact Int.le_trans (Int.le_max_left _ _) hm
      · rcases List.mem_cons.mp hy with rfl | hy
        · exact Int.le_trans (Int.le_max_right _ _) hm
        · exact h2 _ (List.mem_cons_of_mem _ hy)
theorem max2_ok (hc : X.calm = true) : CallR X (.builtin "max") (rn X (biF .max2)) := by
  intro pins s σ H xs us Q I r ⟨E, as, m, ds, hr, px, q⟩
  cases px with
  | nil => exact False.elim q
  | cons p1 pr =>
    cases pr with
    | nil =>
      cases p1 with
      | @ref a n h1 =>
        have q : Vg X.prog X.w X.K X.mg (RD X.K) as H (match (lstAt m n).bind intsO with
          | some (b :: bs) => .ok (.int (bs.foldl max b)) m
          | _ => .bad) Q E := q
        split at q
        · rename_i b bs e1
          obtain ⟨xs, e2, e3⟩ := Option.bind_eq_some_iff.mp e1
          obtain ⟨vs, g1, g2, g3⟩ := hr.read h1 e2
          rw [ints_of e3 g3] at g1
          refine cr_max hc pins s σ H _ us Q I r ⟨a, b :: bs, rfl, g1, by simp, fun M hM hL => ?_⟩
          obtain ⟨k1, k2⟩ := foldl_max bs b
          have : M = bs.foldl max b := Int.le_antisymm (k2 _ hM) (hL _ k1)
          rw [this]
          exact q _ _ _ Kp.refl hr (Rep.int _)
        · exact False.elim q
      | _ => exact False.elim q
    | cons p2 pr =>
      cases pr with
      | cons _ _ => cases p1 <;> cases p2 <;> exact False.elim q
      | nil =>
        cases p1 <;> cases p2 <;> first | exact False.elim q | skip
        case int.int i j => exact call_max2 hc pins s σ H _ us Q I r ⟨i, j, rfl, Vg.ret q hr (Rep.int _)⟩
theorem int_ok : CallR X (.type "int") (rn X (biF .int)) := by
  intro pins s σ H xs us Q I r ⟨E, as, m, ds, hr, px, q⟩
  cases px with
  | nil => exact False.elim q
  | cons p1 pr =>
    cases pr with
    | cons _ _ => cases p1 <;> exact False.elim q
    | nil =>
      cases p1 with
      | int i => exact call_int1 pins s σ H _ us Q I r (.inl ⟨i, rfl, Vg.ret q hr (Rep.int _)⟩)
      | bl i => exact call_int1 pins s σ H _ us Q I r (.inr ⟨i, rfl, Vg.ret q hr (Rep.int _)⟩)
      | _ => exact False.elim q
theorem str_ok : CallR X (.type "str") (rn X (biF .str)) := by
  intro pins s σ H xs us Q I r ⟨E, as, m, ds, hr, px, q⟩
  cases px with
  | nil => exact False.elim q
  | cons p1 pr =>
    cases pr with
    | cons _ _ => cases p1 <;> exact False.elim q
    | nil =>
      cases p1 with
      | int i =>
        obtain ⟨c, q⟩ := Vg.chk q
        exact call_str_int pins s σ H _ us Q I r ⟨i, rfl, c, Vg.ret q hr (Rep.str _)⟩
      | _ => exact False.elim q
theorem tuple_ok : CallR X (.type "tuple") (rn X (biF .tuple)) := by
  intro pins s σ H xs us Q I r ⟨E, as, m, ds, hr, px, q⟩
  cases px with
  | nil => exact False.elim q
  | cons p1 pr =>
    cases pr with
    | cons _ _ => cases p1 <;> exact False.elim q
    | nil =>
      cases p1 with
      | @tup a xs ds h1 h2 h3 => exact call_tuple_of pins s σ H _ us Q I r ⟨a, xs, rfl, .inr ⟨h1, Vg.ret q hr (Rep.tup h1 h2 h3)⟩⟩
      | @ref a n h1 =>
        have q : Vg X.prog X.w X.K X.mg (RD X.K) as H (match lstAt m n with
          | some xs => .ok (.tup xs) m
          | none => .bad) Q E := q
        split at q
        · rename_i xs e1
          obtain ⟨vs, g1, g2, g3⟩ := hr.read h1 e1
          refine call_tuple_of pins s σ H _ us Q I r ⟨a, vs, rfl, .inl ⟨g1, fun p hp => ?_⟩⟩
          obtain ⟨kp, hr'⟩ := hr.tup (xs := vs) hp
          exact q _ _ _ kp hr' (Rep.tup (SqT.of upd_same) g2 (g3.mono hr kp))
        · exact False.elim q
      | _ => exact False.elim q
theorem seqOf_read {P : Program} {w : World} {K : PySem.W.Frag} {H : Hp} {as : List Addr} {m : Mu} {d : D} {v : V} {ds : List D} (hr : HRep P w K as m H) (h : seqOf m d = some ds) (r : Rep K H as v d) : ∃ a vs, v = .ref a ∧ (SqL K H a vs ∨ SqT K H a vs) ∧ vs.length ≤ sizeLine ∧ Reps K H as vs ds := by
  cases r with
  | @tup a xs es h1 h2 h3 => cases h; exact ⟨a, xs, rfl, .inr h1, h2, h3⟩
  | @ref a n h1 =>
    obtain ⟨vs, g1, g2, g3⟩ := hr.read h1 h
    exact ⟨a, vs, rfl, .inl g1, g2, g3⟩
  | _ => cases h
theorem list_ok : CallR X (.type "list") (rn X (biF .list)) := by
  intro pins s σ H xs us Q I r ⟨E, as, m, ds, hr, px, q⟩
  cases px with
  | nil => exact False.elim q
  | cons p1 pr =>
    cases pr with
    | cons _ _ => exact False.elim q
    | @nil =>
      rename_i v d
      have q : Vg X.prog X.w X.K X.mg (RD X.K) as H (match seqOf m d with
        | some xs => alc (.lst xs) m
        | none => .bad) Q E := q
      split at q
      · rename_i xs e1
        obtain ⟨a, vs, rfl, g1, g2, g3⟩ := seqOf_read hr e1 p1
        exact call_list_of pins s σ H _ us Q I r ⟨a, vs, rfl, g1, fun p hp => Vg.alc q hr hp fun kp => .lst g2 (g3.mono hr kp)⟩
      · exact False.elim q
theorem bls_of {K : PySem.W.Frag} {H : Hp} {as : List Addr} : ∀ {ds : List D} {bs : List Bool} {vs : List V}, blsO ds = some bs → Reps K H as vs ds → vs = bs.map V.bl
  | [], _, _, h, r => by cases h; cases r; rfl
  | d :: ds, bs, _, h, r => by
    cases d with
    | bl b =>
      obtain ⟨bs', h1, rfl⟩ := Option.map_eq_some_iff.mp (show (blsO ds).map (b :: ·) = some bs from h)
      cases r with
      | cons r1 r2 =>
        cases r1
        rw [bls_of h1 r2]
        rfl
    | _ => cases h
theorem any_ok (hc : X.calm = true) : CallR X (.builtin "any") (rn X (biF .any)) := by
  intro pins s σ H xs us Q I r ⟨E, as, m, ds, hr, px, q⟩
  cases px with
  | nil => exact False.elim q
  | cons p1 pr =>
    cases pr with
    | cons _ _ => cases p1 <;> exact False.elim q
    | nil =>
      cases p1 with
      | @ref a n h1 =>
        have q : Vg X.prog X.w X.K X.mg (RD X.K) as H (match (lstAt m n).bind blsO with
          | some bs => .ok (.bl (bs.any id)) m
          | none => .bad) Q E := q
        split at q
        · rename_i bs e1
          obtain ⟨xs, e2, e3⟩ := Option.bind_eq_some_iff.mp e1
          obtain ⟨vs, g1, g2, g3⟩ := hr.read h1 e2
          rw [bls_of e3 g3] at g1
          exact cr_any hc pins s σ H _ us Q I r ⟨a, bs, rfl, g1, q _ _ _ Kp.refl hr (Rep.bl _)⟩
        · exact False.elim q
      | _ => exact False.elim q
theorem all_ok (hc : X.calm = true) : CallR X (.builtin "all") (rn X (biF .all)) := by
  intro pins s σ H xs us Q I r ⟨E, as, m, ds, hr, px, q⟩
  cases px with
  | nil => exact False.elim q
  | cons p1 pr =>
    cases pr with
    | cons _ _ => cases p1 <;> exact False.elim q
    | nil =>
      cases p1 with
      | @ref a n h1 =>
        have q : Vg X.prog X.w X.K X.mg (RD X.K) as H (match (lstAt m n).bind blsO with
          | some bs => .ok (.bl (bs.all id)) m
          | none => .bad) Q E := q
        split at q
        · rename_i bs e1
          obtain ⟨xs, e2, e3⟩ := Option.bind_eq_some_iff.mp e1
          obtain ⟨vs, g1, g2, g3⟩ := hr.read h1 e2
          rw [bls_of e3 g3] at g1
          exact cr_all hc pins s σ H _ us Q I r ⟨a, bs, rfl, g1, q _ _ _ Kp.refl hr (Rep.bl _)⟩
        · exact False.elim q
      | _ => exact False.elim q
theorem sum_ok (hc : X.calm = true) : CallR X (.builtin "sum") (rn X (biF .sum)) := by
  intro pins s σ H xs us Q I r ⟨E, as, m, ds, hr, px, q⟩
  cases px with
  | nil => exact False.elim q
  | cons p1 pr =>
    cases pr with
    | cons _ _ => cases p1 <;> exact False.elim q
    | nil =>
      cases p1 with
      | @ref a n h1 =>
        have q : Vg X.prog X.w X.K X.mg (RD X.K) as H (match (lstAt m n).bind intsO with
          | some bs => .ok (.int bs.sum) m
          | none => .bad) Q E := q
        split at q
        · rename_i bs e1
          obtain ⟨xs, e2, e3⟩ := Option.bind_eq_some_iff.mp e1
          obtain ⟨vs, g1, g2, g3⟩ := hr.read h1 e2
          rw [ints_of e3 g3] at g1
          exact cr_sum hc pins s σ H _ us Q I r ⟨a, bs, rfl, g1, q _ _ _ Kp.refl hr (Rep.int _)⟩
        · exact False.elim q
      | _ => exact False.elim q
theorem noDict_all : ∀ ds : List PyData, (∀ d ∈ ds, d.canLay0 = true → d.hasDict = false) → PyData.canLayAll0 ds = true → PyData.hasDictAll ds = false
  | [], _, _ => rfl
  | d :: ds, ih, h => by
    have h' : d.canLay0 = true ∧ PyData.canLayAll0 ds = true := by simpa [PyData.canLayAll0] using h
    simp only [PyData.hasDictAll, ih d List.mem_cons_self h'.1, noDict_all ds (fun e he => ih e (List.mem_cons_of_mem _ he)) h'.2, Bool.or_self]
theorem noDict : ∀ (n : Nat) (d : PyData), d.depth ≤ n → d.canLay0 = true → d.hasDict = false
  | n, .none, _, _ => rfl
  | n, .bool _, _, _ => rfl
  | n, .int _, _, _ => rfl
  | n, .str _, _, _ => rfl
  | 0, .list xs, h, _ => by simp [PyData.depth] at h
  | 0, .tuple xs, h, _ => by simp [PyData.depth] at h
  | n + 1, .list xs, h, c => by
    have h1 : PyData.depthAll xs ≤ n := by simp only [PyData.depth] at h; omega
    have c1 : PyData.canLayAll0 xs = true := by simpa [PyData.canLay0] using c
    show PyData.hasDictAll xs = false
    exact noDict_all xs (fun d hd cd => noDict n d (Nat.le_trans (PyData.depth_le_depthAll xs d hd) h1) cd) c1
  | n + 1, .tuple xs, h, c => by
    have h1 : PyData.depthAll xs ≤ n := by simp only [PyData.depth] at h; omega
    have c1 : PyData.canLayAll0 xs = true := by simpa [PyData.canLay0] using c
    show PyData.hasDictAll xs = false
    exact noDict_all xs (fun d hd cd => noDict n d (Nat.le_trans (PyData.depth_le_depthAll xs d hd) h1) cd) c1
  | n, .dict _, _, c => by cases c
theorem repr_ok (hu : X.A.units + 200 < cLine) (hg : X.A.guards = some []) : CallR X (.builtin "repr") (rn X (biF .repr)) := by
  intro pins s σ H xs us Q I r ⟨E, as, m, ds, hr, px, q⟩
  cases px with
  | nil => exact False.elim q
  | cons p1 pr =>
    cases pr with
    | cons _ _ => exact False.elim q
    | @nil =>
      rename_i v d
      have q : Vg X.prog X.w X.K X.mg (RD X.K) as H (match pd m 20 d with
        | some x => if x.showable ∧ x.shown.length ≤ sizeLine then .ok (.str x.shown) m else .bad
        | none => .bad) Q E := q
      split at q
      · rename_i x e1
        split at q
        · rename_i c
          obtain ⟨c1, c2⟩ := c
          obtain ⟨g1, g2, g3⟩ := pd_ok hr 20 d v x e1 p1
          have fin := q _ _ _ Kp.refl hr (Rep.str x.shown)
          obtain ⟨u, rfl, ru⟩ := Vals.one r
          cases p1 with
          | non => cases ru; cases e1; exact PySem.P.repr_of_none ⟨.str _, H, I.tok _, ⟨_, rfl⟩, fin⟩
          | bl b => cases ru; cases e1; exact PySem.P.repr_of_bool ⟨.str _, H, I.tok _, ⟨_, rfl⟩, fin⟩
          | int i =>
            obtain ⟨t, rfl⟩ := ru
            cases e1
            exact PySem.P.repr_of_int (by simpa [PyData.showable] using c1) ⟨.str _, H, I.tok _, ⟨_, rfl⟩, fin⟩
          | str z =>
            obtain ⟨t, rfl⟩ := ru
            have e1 : (if PyData.strOk z then some (PyData.str z) else none) = some x := e1
            split at e1
            · cases e1
              exact PySem.P.repr_of_str ⟨.str _, H, I.tok _, ⟨_, rfl⟩, fin⟩ c2
            · cases e1
          | @tup a _ _ _ _ _ =>
            cases ru
            obtain ⟨as', q1⟩ := Dp.reads I x (.ref a) (.ref a) g1 rfl
            exact repr_of_reads' q1 c1 (fun z => by rw [noDict 20 x g3 g2] at z; cases z) hg (by omega) (fun _ _ e => e) (fun h' u tk hk => ⟨.str _, H, I.kept hk, ⟨_, rfl⟩, fin⟩) c2
          | @ref a _ _ =>
            cases ru
            obtain ⟨as', q1⟩ := Dp.reads I x (.ref a) (.ref a) g1 rfl
            exact repr_of_reads' q1 c1 (fun z => by rw [noDict 20 x g3 g2] at z; cases z) hg (by omega) (fun _ _ e => e) (fun h' u tk hk => ⟨.str _, H, I.kept hk, ⟨_, rfl⟩, fin⟩) c2
          | exo _ => cases e1
        · exact False.elim q
      · exact False.elim q
theorem each_of_mapO {pins : List (Addr × Obj)} {s : Shared} {σ : L2.St} {H : Hp} {as : List Addr} {m : Mu} (I : Inv X pins σ H s) (hr : HRep X.prog X.w X.K as m H) : ∀ {ds : List D} {ps : List PyData} {vs : List V} {us : List Value}, mapO (pd m 20) ds = some ps → Reps X.K H as vs ds → Vals vs us →
    ps = ds.map (encD m) ∧ PySem.W.EachIs (fun u d => ∃ v, RelV v u ∧ Rep X.K H as v d) us ds ∧ PySem.W.EachIs (fun u d => ∃ bs, Reads s.heap u (encD m d) bs) us ds ∧ ∀ d ∈ ds, (encD m d).depth ≤ 20
  | [], _, _, _, h, r, v => by cases h; cases r; cases v; exact ⟨rfl, .nil, .nil, fun _ z => nomatch z⟩
  | d :: ds, _, _, _, h, r, v => by
    obtain ⟨y, zs, h1, h2, rfl⟩ := mapO_cons h
    cases r with
    | cons r1 r2 =>
      cases v with
      | cons v1 v2 =>
        obtain ⟨g1, g2, g3⟩ := pd_ok hr 20 _ _ _ h1 r1
        obtain ⟨bs, q1⟩ := Dp.reads I y _ _ g1 v1
        obtain ⟨a1, a2, a3, a4⟩ := each_of_mapO I hr h2 r2 v2
        have e : encD m d = y := by unfold encD; rw [h1]; rfl
        refine ⟨by rw [List.map_cons, e, a1], .cons ⟨_, v1, r1⟩ a2, .cons ⟨bs, by rw [e]; exact q1⟩ a3, fun z hz => ?_⟩
        rcases List.mem_cons.mp hz with rfl | hz
        · rw [e]; exact g3
        · exact a4 z hz
theorem vals_of_each {K : PySem.W.Frag} {H : Hp} {as : List Addr} : ∀ {us : List Value} {ds : List D}, PySem.W.EachIs (fun u d => ∃ v, RelV v u ∧ Rep K H as v d) us ds → ∃ vs, Vals vs us ∧ Reps K H as vs ds
  | _, _, .nil => ⟨[], .nil, .nil⟩
  | _, _, .cons ⟨v, h1, h2⟩ t => by
    obtain ⟨vs, h3, h4⟩ := vals_of_each t
    exact ⟨v :: vs, .cons h1 h3, .cons h2 h4⟩
theorem sortOk_sp {ds : List PyData} (h : sortOk ds = true) : PySem.W.AllAlike ds ∧ (PySem.W.Sortable ds ∨ ∀ d ∈ ds, ∃ xs, d = .tuple xs) := by
  unfold sortOk at h
  obtain ⟨h1, h2⟩ := Bool.and_eq_true_iff.mp h
  refine ⟨fun d hd d' hd' => ?_, ?_⟩
  · exact List.all_eq_true.mp (List.all_eq_true.mp h1 d hd) d' hd'
  · rcases Bool.or_eq_true_iff.mp h2 with h2 | h2
    · refine .inr fun d hd => ?_
      have z := List.all_eq_true.mp h2 d hd
      cases d with
      | tuple xs => exact ⟨xs, rfl⟩
      | _ => cases z
    · refine .inl (.inr fun d hd => ?_)
      have z := List.all_eq_true.mp h2 d hd
      cases d with
      | none => cases z
      | tuple xs => cases z
      | _ => exact ⟨(fun q => nomatch q), (fun xs q => nomatch q)⟩
theorem reads_of_each {h : Heap} {f : D → PyData} : ∀ {us : List Value} {ds : List D}, PySem.W.EachIs (fun u d => ∃ bs, Reads h u (f d) bs) us ds → ∃ as, ReadsAll h us (ds.map f) as
  | _, _, .nil => ⟨[], .nil⟩
  | _, _, .cons ⟨bs, h1⟩ t => by
    obtain ⟨as, h2⟩ := reads_of_each t
    exact ⟨_, .cons h1 h2⟩
theorem each_get {p q : Value → D → Prop} : ∀ {us : List Value} {ds : List D} {i : Nat} {u : Value}, PySem.W.EachIs p us ds → PySem.W.EachIs q us ds → us[i]? = some u → ∃ d, ds[i]? = some d ∧ p u d ∧ q u d
  | _, _, _, _, .nil, _, h => by simp at h
  | _, _, 0, _, .cons h1 _, .cons h2 _, h => by
    cases h
    exact ⟨_, rfl, h1, h2⟩
  | _, _, i + 1, _, .cons _ t1, .cons _ t2, h => by
    obtain ⟨d, h3, h4⟩ := each_get (i := i) t1 t2 h
    exact ⟨d, h3, h4⟩
theorem depthAll_le {f : D → PyData} : ∀ {ds : List D}, (∀ d ∈ ds, (f d).depth ≤ 20) → PyData.depthAll (ds.map f) ≤ 20
  | [], _ => by simp [PyData.depthAll]
  | d :: ds, h => by
    rw [List.map_cons, PyData.depthAll]
    exact Nat.max_le.mpr ⟨h d List.mem_cons_self, depthAll_le fun e he => h e (List.mem_cons_of_mem _ he)⟩
theorem mapO_get {α β : Type} {f : α → Option β} : ∀ {xs : List α} {ys : List β}, mapO f xs = some ys → ∀ {x : α}, x ∈ xs → ∃ y, f x = some y
  | [], _, _, _, h => by cases h
  | a :: xs, ys, e, x, h => by
    unfold mapO at e
    cases e1 : f a with
    | none => rw [e1] at e; cases e
    | some y =>
      rcases List.mem_cons.mp h with rfl | h
      · exact ⟨y, e1⟩
      · rw [e1] at e
        dsimp only at e
        cases e2 : mapO f xs with
        | none => rw [e2] at e; cases e
        | some zs => exact mapO_get e2 h
theorem min2_ok (hc : X.calm = true) (hu : X.A.units + 200 < cLine) : CallR X (.builtin "min") (rn X (biF .min2)) := by
  intro pins s σ H xs us Q I r ⟨E, as, m, ds, hr, px, q⟩
  cases px with
  | nil => exact False.elim q
  | cons p1 pr =>
    cases pr with
    | nil =>
      cases p1 with
      | @ref a n h1 =>
        have q : Vg X.prog X.w X.K X.mg (RD X.K) as H (match (lstAt m n).bind intsO with
          | some (b :: bs) => .ok (.int (bs.foldl min b)) m
          | some [] => .bad
          | none => match lstAt m n with
            | some xs => dMin xs m
            | none => .bad) Q E := q
        split at q
        · rename_i b bs e1
          obtain ⟨xs, e2, e3⟩ := Option.bind_eq_some_iff.mp e1
          obtain ⟨vs, g1, g2, g3⟩ := hr.read h1 e2
          rw [ints_of e3 g3] at g1
          refine cr_min hc pins s σ H _ us Q I r ⟨a, b :: bs, rfl, g1, by simp, fun M hM hL => ?_⟩
          obtain ⟨k1, k2⟩ := foldl_min bs b
          have : M = bs.foldl min b := Int.le_antisymm (hL _ k1) (k2 _ hM)
          rw [this]
          exact q _ _ _ Kp.refl hr (Rep.int _)
        · exact False.elim q
        · split at q
          · rename_i ds e2
            unfold dMin at q
            split at q
            · rename_i x xs e4
              split at q
              · rename_i hmin
                obtain ⟨vs, g1, g2, g3⟩ := hr.read h1 e2
                obtain ⟨its, rv, pl, hz⟩ := I.list g1
                obtain ⟨u, rfl, ru⟩ := Vals.one r
                cases ru
                obtain ⟨e5, a2, a3, a4⟩ := each_of_mapO I hr e4 g3 rv
                obtain ⟨bs0, ra⟩ := reads_of_each a3
                rw [← e5] at ra
                obtain ⟨cm, cp, cu⟩ := Classical.choose_spec hmin.2
                have dep : PyData.depthAll (x :: xs) ≤ 20 := by
                  rw [e5]
                  exact depthAll_le a4
                refine PySem.W.min_list_data (I.ok.hd hc) pl.isList (by rw [List.toList_toArray]; exact ra) hmin.1 (by omega) fun i v h' tk bs hv rd kp => ?_
                rw [List.getElem?_toArray] at hv
                obtain ⟨d, hd, ⟨v', rel, rep⟩, rds⟩ := each_get a2 a3 hv
                obtain ⟨bs', rds⟩ := rds
                have e6 := (Reads.unique (Reads.keeps kp rds) _ _ rd).1
                have hdm : d ∈ ds := List.mem_of_getElem? hd
                have e7 : pd m 20 d = some (PySem.W.minD x xs) := by
                  obtain ⟨y, hy⟩ := mapO_get e4 hdm
                  rw [hy, ← e6]
                  unfold encD
                  rw [hy]
                  rfl
                have e8 := cu d hdm e7
                refine ⟨v', H, I.kept kp, rel, ?_⟩
                have q2 := q v' as H Kp.refl hr
                exact q2 (by rw [← e8]; exact rep)
              · exact False.elim q
            · exact False.elim q
          · exact False.elim q
      | _ => exact False.elim q
    | cons p2 pr =>
      cases pr with
      | cons _ _ => cases p1 <;> cases p2 <;> exact False.elim q
      | nil =>
        cases p1 <;> cases p2 <;> first | exact False.elim q | skip
        case int.int i j => exact call_min2 hc pins s σ H _ us Q I r ⟨i, j, rfl, Vg.ret q hr (Rep.int _)⟩
theorem sorted_ok (hu : X.A.units + 200 < cLine) : CallR X (.builtin "sorted") (rn X (biF .sorted)) := by
  intro pins s σ H xs us Q I r ⟨E, as, m, ds, hr, px, q⟩
  cases px with
  | nil => exact False.elim q
  | cons p1 pr =>
    cases pr with
    | cons _ _ => cases p1 <;> exact False.elim q
    | nil =>
      cases p1 with
      | @ref a n h1 =>
        have q : Vg X.prog X.w X.K X.mg (RD X.K) as H (match (lstAt m n).bind (dSort m) with
          | some xs => alc (.lst xs) m
          | none => .bad) Q E := q
        split at q
        · rename_i zs e1
          obtain ⟨ds, e2, e3⟩ := Option.bind_eq_some_iff.mp e1
          unfold dSort at e3
          split at e3
          · rename_i ps e4
            split at e3
            · rename_i e5
              cases e3
              obtain ⟨vs, g1, g2, g3⟩ := hr.read h1 e2
              obtain ⟨its, rv, pl, hz⟩ := I.list g1
              obtain ⟨u, rfl, ru⟩ := Vals.one r
              cases ru
              obtain ⟨rfl, a2, a3, a4⟩ := each_of_mapO I hr e4 g3 rv
              obtain ⟨al, so⟩ := sortOk_sp e5
              refine sorted_all pl.isList a2 a3 al so (by rw [← g3.length]; exact g2) (fun b hb => by have := a4 b hb; omega) fun out hl eo => ?_
              obtain ⟨ws, w1, w2⟩ := vals_of_each eo
              obtain ⟨e, he⟩ := sortedAll_at s.heap its out.toArray
              have hp : H (s.heap.objs.size + 1) = none := I.hok.fresh (Nat.le_succ _)
              have hwl : ws.length ≤ sizeLine := by rw [w1.length, hl, ← g3.length]; exact g2
              refine ⟨.ref (s.heap.objs.size + 1), _, I.laid (t' := s.toks) (o := .lst ws) (fun b ob z => sortedAll_old z) (Nat.le_succ _) ⟨hwl, out, e, w1, he⟩, rfl, Vg.alc q hr hp fun kp => .lst hwl (w2.mono hr kp)⟩
            · cases e3
          · cases e3
        · exact False.elim q
      | _ => exact False.elim q
theorem pairs_rep {K : PySem.W.Frag} {H : Hp} {as : List Addr} : ∀ {xs : List D} {kvs : List (Int × D)} {vs : List V}, pairsI xs = some kvs → Reps K H as vs xs → ∃ (ps : List Addr) (kv : List (Key × V)), vs = ps.map V.ref ∧ Paired (fun p kv => SqT K H p [kV kv.1, kv.2]) ps kv ∧ kv.map (·.1) = kvs.map (fun p => Sum.inl p.1) ∧ Reps K H as (kv.map (·.2)) (kvs.map (·.2))
  | [], _, _, e, r => by
    cases e
    cases r
    exact ⟨[], [], rfl, .nil, rfl, .nil⟩
  | x :: xs, kvs, vs, e, r => by
    cases r with
    | cons r1 r2 =>
      cases x with
      | tup ys =>
        match ys, r1, e with
        | [.int k, d], r1, e =>
          obtain ⟨kvs', e1, rfl⟩ := Option.map_eq_some_iff.mp (show (pairsI xs).map ((k, d) :: ·) = some kvs from e)
          obtain ⟨ps, kv, rfl, h2, h3, h4⟩ := pairs_rep e1 r2
          cases r1 with
          | @tup a zs _ q1 q2 q3 =>
            cases q3 with
            | cons p1 p2 =>
              cases p2 with
              | cons p3 p4 =>
                cases p4
                cases p1
                exact ⟨a :: ps, (Sum.inl k, _) :: kv, rfl, .cons q1 h2, by rw [List.map_cons, List.map_cons, h3], .cons p3 h4⟩
        | [], r1, e => cases e
        | [z], r1, e => cases z <;> cases e
        | .non :: _ :: _, r1, e => cases e
        | .bl _ :: _ :: _, r1, e => cases e
        | .str _ :: _ :: _, r1, e => cases e
        | .tup _ :: _ :: _, r1, e => cases e
        | .ref _ :: _ :: _, r1, e => cases e
        | .int _ :: _ :: _ :: _, r1, e => cases e
      | _ => cases e
theorem put_rep {K : PySem.W.Frag} {H : Hp} {as : List Addr} {k : Int} {v : V} {d : D} (rv : Rep K H as v d) {kv : List (Key × V)} {ds : List (Int × D)} (h1 : kv.map (·.1) = ds.map (fun p => Sum.inl p.1)) (h2 : Reps K H as (kv.map (·.2)) (ds.map (·.2))) :
    (putK kv (Sum.inl k) v).map (·.1) = (putI ds k d).map (fun p => Sum.inl p.1) ∧ Reps K H as ((putK kv (Sum.inl k) v).map (·.2)) ((putI ds k d).map (·.2)) := by
  have any : ∀ {kv : List (Key × V)} {ds : List (Int × D)}, kv.map (·.1) = ds.map (fun p => Sum.inl p.1) → (kv.any fun p => decide (p.1 = Sum.inl k)) = (ds.any fun p => decide (p.1 = k)) := by
    intro kv
    induction kv with
    | nil =>
      intro ds h
      cases ds with
      | nil => rfl
      | cons _ _ => cases h
    | cons p r ih =>
      intro ds h
      cases ds with
      | nil => cases h
      | cons q s =>
        rw [List.map_cons, List.map_cons] at h
        obtain ⟨e1, e2⟩ := List.cons.inj h
        rw [List.any_cons, List.any_cons, ih e2]
        congr 1
        rw [e1]
        by_cases c : q.1 = k
        · rw [decide_eq_true c, decide_eq_true (by rw [c])]
        · rw [decide_eq_false c, decide_eq_false (fun z => c (Sum.inl.inj z))]
  unfold putK putI
  rw [any h1]
  by_cases c : (ds.any fun p => decide (p.1 = k)) = true
  · rw [if_pos c, if_pos c]
    clear any c
    induction kv generalizing ds with
    | nil =>
      cases ds with
      | nil => exact ⟨rfl, .nil⟩
      | cons _ _ => cases h1
    | cons p r ih =>
      cases ds with
      | nil => cases h1
      | cons q s =>
        rw [List.map_cons, List.map_cons] at h1
        obtain ⟨e1, e2⟩ := List.cons.inj h1
        rw [List.map_cons, List.map_cons] at h2
        cases h2 with
        | cons r1 r2 =>
          obtain ⟨i1, i2⟩ := ih e2 r2
          simp only [List.map_cons]
          by_cases c : q.1 = k
          · rw [if_pos c, if_pos (by rw [e1, c])]
            exact ⟨by rw [i1, e1], .cons rv i2⟩
          · rw [if_neg c, if_neg (by rw [e1]; exact fun z => c (Sum.inl.inj z))]
            exact ⟨by rw [i1, e1], .cons r1 i2⟩
  · rw [if_neg c, if_neg c]
    rw [List.map_append, List.map_append, List.map_append, List.map_append, h1]
    exact ⟨rfl, h2.app (.cons rv .nil)⟩
theorem merge_rep {K : PySem.W.Frag} {H : Hp} {as : List Addr} : ∀ {kv : List (Key × V)} {ds : List (Int × D)} {kv0 : List (Key × V)} {ds0 : List (Int × D)}, kv.map (·.1) = ds.map (fun p => Sum.inl p.1) → Reps K H as (kv.map (·.2)) (ds.map (·.2)) → kv0.map (·.1) = ds0.map (fun p => Sum.inl p.1) → Reps K H as (kv0.map (·.2)) (ds0.map (·.2)) →
    (mergeK kv0 kv).map (·.1) = (mergeI ds0 ds).map (fun p => Sum.inl p.1) ∧ Reps K H as ((mergeK kv0 kv).map (·.2)) ((mergeI ds0 ds).map (·.2))
  | [], [], _, _, _, _, h3, h4 => ⟨h3, h4⟩
  | [], _ :: _, _, _, h1, _, _, _ => by cases h1
  | _ :: _, [], _, _, h1, _, _, _ => by cases h1
  | (k, v) :: r, (i, d) :: s, _, _, h1, h2, h3, h4 => by
    rw [List.map_cons, List.map_cons] at h1
    obtain ⟨e1, e2⟩ := List.cons.inj h1
    rw [List.map_cons, List.map_cons] at h2
    dsimp only at e1
    subst e1
    cases h2 with
    | cons r1 r2 =>
      obtain ⟨g1, g2⟩ := put_rep r1 h3 h4 (k := i)
      have h := merge_rep (kv := r) (ds := s) e2 r2 g1 g2
      exact h
theorem look_rep {K : PySem.W.Frag} {H : Hp} {as : List Addr} {k : Int} : ∀ {kv : List (Key × V)} {ds : List (Int × D)}, kv.map (·.1) = ds.map (fun p => Sum.inl p.1) → Reps K H as (kv.map (·.2)) (ds.map (·.2)) → (valV kv (Sum.inl k) = none ∧ lookI ds k = none) ∨ ∃ v d, valV kv (Sum.inl k) = some v ∧ lookI ds k = some d ∧ Rep K H as v d
  | [], [], _, _ => .inl ⟨rfl, rfl⟩
  | [], _ :: _, h1, _ => by cases h1
  | _ :: _, [], h1, _ => by cases h1
  | (j, v) :: r, (i, d) :: s, h1, h2 => by
    rw [List.map_cons, List.map_cons] at h1
    obtain ⟨e1, e2⟩ := List.cons.inj h1
    rw [List.map_cons, List.map_cons] at h2
    dsimp only at e1
    subst e1
    cases h2 with
    | cons r1 r2 =>
      by_cases c : i = k
      · refine .inr ⟨v, d, valV_pos (by rw [c]), ?_, r1⟩
        unfold lookI
        rw [List.find?_cons, decide_eq_true c]
        rfl
      · have hv : valV ((Sum.inl i, v) :: r) (Sum.inl k : Key) = valV r (Sum.inl k) := valV_neg (fun z => c (Sum.inl.inj z))
        have hd : lookI ((i, d) :: s) k = lookI s k := by
          unfold lookI
          rw [List.find?_cons, decide_eq_false c]
        rw [hv, hd]
        exact look_rep e2 r2
theorem dict_ok (hc : X.calm = true) : CallR X (.type "dict") (rn X (biF .dict)) := by
  intro pins s σ H xs us Q I r ⟨E, as, m, ds, hr, px, q⟩
  cases px with
  | nil => exact False.elim q
  | cons p1 pr =>
    cases pr with
    | cons _ _ => cases p1 <;> exact False.elim q
    | nil =>
      cases p1 with
      | @ref a n h1 =>
        have q : Vg X.prog X.w X.K X.mg (RD X.K) as H (match (lstAt m n).bind pairsI with
          | some kvs => alc (.mp (mergeI [] kvs)) m
          | none => .bad) Q E := q
        split at q
        · rename_i kvs e1
          obtain ⟨xs, e2, e3⟩ := Option.bind_eq_some_iff.mp e1
          obtain ⟨vs, g1, g2, g3⟩ := hr.read h1 e2
          obtain ⟨ps, kv, rfl, k2, k3, k4⟩ := pairs_rep e3 g3
          obtain ⟨j1, j2⟩ := merge_rep (kv0 := []) (ds0 := []) k3 k4 rfl .nil
          exact call_dictP hc pins s σ H _ us Q I r ⟨a, ps, kv, rfl, g1, k2, fun p hp => Vg.alc q hr hp fun kp => .mp j1 (j2.mono hr kp)⟩
        · exact False.elim q
      | _ => exact False.elim q
theorem dictP_ok (hc : X.calm = true) (hu : X.A.units + 200 < cLine) : CallR X (.type "dict") (rn X (biF .dictP)) := by
  intro pins s σ H xs us Q I r ⟨E, as, m, ds, hr, px, q⟩
  cases px with
  | nil => exact False.elim q
  | cons p1 pr =>
    cases pr with
    | cons _ _ => cases p1 <;> exact False.elim q
    | nil =>
      cases p1 with
      | @ref a n h1 =>
        have q : Vg X.prog X.w X.K X.mg (RD X.K) as H (match (lstAt m n).bind pairsT with
          | some kvs => if (kvs.map fun p => kd p.1).Nodup then alc (.dct false kvs) m else .bad
          | none => .bad) Q E := q
        split at q
        · rename_i kvs e1
          obtain ⟨xs, e2, e3⟩ := Option.bind_eq_some_iff.mp e1
          by_cases hn : (kvs.map fun p => kd p.1).Nodup
          · rw [if_pos hn] at q
            obtain ⟨u, rfl, ru⟩ := Vals.one r
            cases ru
            exact dictP_call hc hu I hr h1 e2 e3 hn q
          · rw [if_neg hn] at q
            exact False.elim q
        · exact False.elim q
      | _ => exact False.elim q
theorem listK_ok (hc : X.calm = true) : CallR X (.type "list") (rn X (biF .listK)) := by
  intro pins s σ H xs us Q I r ⟨E, as, m, ds, hr, px, q⟩
  cases px with
  | nil => exact False.elim q
  | cons p1 pr =>
    cases pr with
    | cons _ _ => cases p1 <;> exact False.elim q
    | nil =>
      cases p1 with
      | @ref a n h1 =>
        have q : Vg X.prog X.w X.K X.mg (RD X.K) as H (match m[n]? with
          | some (.dct _ kvs) => alc (.lst (kvs.map (·.1))) m
          | _ => .bad) Q E := q
        split at q
        · rename_i kvs e1
          obtain ⟨u, rfl, ru⟩ := Vals.one r
          cases ru
          exact listK_call hc I hr h1 e1 q
        · exact False.elim q
      | _ => exact False.elim q
theorem sortK_ok (hc : X.calm = true) (hu : X.A.units + 200 < cLine) : CallR X (.builtin "sorted") (rn X (biF .sortK)) := by
  intro pins s σ H xs us Q I r ⟨E, as, m, ds, hr, px, q⟩
  cases px with
  | nil => exact False.elim q
  | cons p1 pr =>
    cases pr with
    | cons _ _ => cases p1 <;> exact False.elim q
    | nil =>
      cases p1 with
      | @ref a n h1 =>
        have q : Vg X.prog X.w X.K X.mg (RD X.K) as H (match m[n]? with
          | some (.dct _ kvs) => (match dSort m (kvs.map (·.1)) with
            | some xs => alc (.lst xs) m
            | none => .bad)
          | _ => .bad) Q E := q
        split at q
        · rename_i kvs e1
          split at q
          · rename_i zs e3
            unfold dSort at e3
            split at e3
            · rename_i ps e4
              split at e3
              · rename_i e5
                cases e3
                obtain ⟨u, rfl, ru⟩ := Vals.one r
                cases ru
                obtain ⟨l, es, ep, hd, hraw, hsz, hz, dr, ek, _⟩ := dct_raw I hr h1 e1
                obtain ⟨al, so⟩ := sortOk_sp e5
                obtain ⟨rfl, a2, a3, a4⟩ := each_of_mapO I hr e4 dr.keys vals_refs
                refine src_sorted (src_rawK hd) (I.ok.hd hc) hraw (by omega) fun h' tk acc kp hg hi => ?_
                have ea := items_eq (f := (·.key)) hi
                rw [ek] at ea
                rw [ea]
                have lz : (kvs.map (·.1)).length ≤ sizeLine := by rw [List.length_map]; exact hz
                have hl0 : (h'.push (seqObj "list" (l.map fun p => Value.ref p.2.1).toArray 0)).get? h'.objs.size = some (seqObj "list" (l.map fun p => Value.ref p.2.1).toArray 0) := Heap.get?_push_size _ rfl
                have old : ∀ b o, s.heap.get? b = some o → b ≠ h'.objs.size := fun b o e => Nat.ne_of_lt (Heap.lt_size (kp b o e))
                refine list_sort_all (s := { s with heap := h'.push (seqObj "list" (l.map fun p => Value.ref p.2.1).toArray 0), toks := tk }) hl0 a2 (a3.mono fun v d ⟨as', rd⟩ => ⟨as', PyProof.Rows.Reads.keeps (fun b o e => PySem.W.sortingHeap_old (old b o e) (Heap.get?_push_of_some _ (kp b o e))) rd⟩) al so lz (fun b hb => by have := a4 b hb; show X.A.units + 1 + 1 + _ < cLine; omega) fun out ho eo => ?_
                obtain ⟨ws, w1, w2⟩ := vals_of_each eo
                have hp : H h'.objs.size = none := I.hok.fresh (Nat.le_of_lt hg)
                have hwl : ws.length ≤ sizeLine := by rw [w1.length, ho]; exact lz
                obtain ⟨e, he⟩ := sortedHeap_at (out := out.toArray) hl0
                refine ⟨.ref h'.objs.size, _, I.laid (t' := tk) (o := .lst ws) (fun b ob z => ?_) (Nat.le_of_lt hg) ⟨hwl, out, e, w1, he⟩, rfl, Vg.alc q hr hp fun kp => .lst hwl (w2.mono hr kp)⟩
                have hb := kp b ob z
                show (sortedHeap _ h'.objs.size _ _).get? b = some ob
                rw [sortedHeap_old (old b ob z) (by rw [size_push']; exact Nat.lt_succ_of_lt (Heap.lt_size hb))]
                exact Heap.get?_push_of_some _ hb
              · cases e3
            · cases e3
          · exact False.elim q
        · exact False.elim q
      | _ => exact False.elim q
def coolB : Bi → Bool
  | .len => true | .abs => true | .int => true | .str => true | .tuple => true | .list => true | .sorted => true
  | _ => false
theorem bi_ok (hu : X.A.units + 200 < cLine) : ∀ b : Bi, (coolB b = false → X.calm = true) → (coolB b = false → X.A.guards = some []) → CallR X (biVal b) (rn X (biF b))
  | .len, _, _ => len_ok
  | .abs, _, _ => abs_ok
  | .min2, hc, _ => min2_ok (hc rfl) hu
  | .max2, hc, _ => max2_ok (hc rfl)
  | .int, _, _ => int_ok
  | .str, _, _ => str_ok
  | .tuple, _, _ => tuple_ok
  | .list, _, _ => list_ok
  | .sorted, _, _ => sorted_ok hu
  | .any, hc, _ => any_ok (hc rfl)
  | .all, hc, _ => all_ok (hc rfl)
  | .sum, hc, _ => sum_ok (hc rfl)
  | .repr, _, hg => repr_ok hu (hg rfl)
  | .dict, hc, _ => dict_ok (hc rfl)
  | .dictP, hc, _ => dictP_ok (hc rfl) hu
  | .listK, hc, _ => listK_ok (hc rfl)
  | .sortK, hc, _ => sortK_ok (hc rfl) hu
def tyName : Ty → String
  | .tuple => "tuple" | .bool => "bool" | .int => "int" | .list => "list" | .str => "str"
theorem ty_boot : ∀ t : Ty, bootBuiltins (Str.ofString (tyName t)) = some (.type (tyName t)) := by
  intro b
  cases b <;> decide +kernel
def isTy0 (t : Ty) : String → Bool
  | "tuple" => (match t with | .tuple => true | _ => false)
  | "bool" => (match t with | .bool => true | .int => true | _ => false)
  | "int" => (match t with | .int => true | _ => false)
  | "list" => (match t with | .list => true | _ => false)
  | "str" => (match t with | .str => true | _ => false)
  | _ => false
theorem kit_tab : ∀ t : Ty, kitB "tuple" (tyName t) = some (isTy0 t "tuple") ∧ kitB "bool" (tyName t) = some (isTy0 t "bool") ∧ kitB "int" (tyName t) = some (isTy0 t "int") ∧ kitB "list" (tyName t) = some (isTy0 t "list") ∧ kitB "str" (tyName t) = some (isTy0 t "str") ∧ kitB "NoneType" (tyName t) = some false ∧ kitB "dict" (tyName t) = some false := by
  intro t
  cases t <;> refine ⟨?_, ?_, ?_, ?_, ?_, ?_, ?_⟩ <;> decide +kernel
theorem isi_ok (t : Ty) : CallR X (.builtin "isinstance") (fun xs H Q => ∃ (E : XK) (as : List Addr) (m : Mu) (x : V) (d : D) (b : Bool), xs = [x, .ty (tyName t)] ∧ HRep X.prog X.w X.K as m H ∧ Rep X.K H as x d ∧ isTy m t d = some b ∧ Q (.bl b) H) := by
  intro pins s σ H xs us Q I r ⟨E, as, m, x, d, b, hx, hr, px, hb, q⟩
  subst hx
  obtain ⟨k1, k2, k3, k4, k5, k6, k7⟩ := kit_tab t
  have go : ∀ (T : String) (c : Bool), TyX X.K H x (.type T) → kitB T (tyName t) = some c → c = b → wpAny (model X.prog X.w) X.A (call (.builtin "isinstance") us) (EP X pins σ Q) X.xe s := fun T c ty hk e => by
    subst e
    exact call_isi pins s σ H _ us Q I r ⟨x, _, _, _, c, rfl, .ty _, ty, kit_ty hk, q⟩
  cases px with
  | non => exact go "NoneType" false (.base .non) k6 (by cases t <;> cases hb <;> rfl)
  | bl c => exact go "bool" _ (.base (.bl c)) k2 (by cases t <;> cases hb <;> rfl)
  | int c => exact go "int" _ (.base (.int c)) k3 (by cases t <;> cases hb <;> rfl)
  | str c => exact go "str" _ (.base (.str c)) k5 (by cases t <;> cases hb <;> rfl)
  | @tup a xs ds h1 h2 h3 =>
    have e : isTy0 t "tuple" = b := by cases t <;> cases hb <;> rfl
    rcases h1 with (h1 | ⟨o, h1⟩) | ⟨o, its, n, h4, h5, _⟩
    · exact go "tuple" _ (.base (.tup h1)) k1 e
    · exact go "tuple" _ (.fTuple h1) k1 e
    · exact go "tuple" _ (.kTuple h4 h5) k1 e
  | @ref a n h1 =>
    have hb : (match m[n]? with
      | some (.lst _) => some t.isL
      | some (.fls _) => some t.isL
      | some (.dct _ _) => some false
      | _ => none) = some b := by cases t <;> exact hb
    have e : ∀ c, some t.isL = some c → isTy0 t "list" = c := fun c h => by cases t <;> cases h <;> rfl
    split at hb
    · rename_i xs e1
      obtain ⟨vs, g1, _, _⟩ := hr.lst h1 e1
      exact go "list" _ (.base (.lst g1)) k4 (e b hb)
    · rename_i xs e1
      obtain ⟨o, vs, g1, _, _⟩ := hr.fls h1 e1
      exact go "list" _ (.base (.frz g1)) k4 (e b hb)
    · rename_i fz kvs e1
      cases hb
      obtain ⟨l, g1, g2, g3, g4⟩ := hr.dct h1 e1
      obtain ⟨u1, u2, rfl, r1, r2⟩ := Vals.two r
      cases r1
      cases r2
      obtain ⟨hd, o, es, ep, zs, h2, h3, h4, h5⟩ := dob_at I g1
      exact PySem.W.kia_one PySem.W.kitx_dict I.kIn ⟨o, h2, h3.1⟩ (kit_ty k7) (fun z => nomatch z) fun tk => ⟨.bl false, H, I.tok tk, rfl, q⟩
    · cases hb
  | exo a => cases t <;> cases hb
theorem notTup {H : Hp} {p : Addr} {o : HO} (h : H p = some o) (n : Wr (some o)) : Wr (H p) := by
  rw [h]
  exact n
def rm (X : Cx) (f : D → List D → M D) : V → List V → Hp → VK → Prop := fun x xs H Q => ∃ (E : XK) (as : List Addr) (m : Mu) (dx : D) (ds : List D), HRep X.prog X.w X.K as m H ∧ Rep X.K H as x dx ∧ Reps X.K H as xs ds ∧ Vg X.prog X.w X.K X.mg (RD X.K) as H (f dx ds m) Q E
def meVal : Me → String
  | .append => "list.append" | .pop => "list.pop" | .popAt => "list.pop" | .extend => "list.extend" | .insert => "list.insert" | .count => "list.count" | .index => "list.index" | .clear => "list.clear"
def meName : Me → Str
  | .append => "append" | .pop => "pop" | .popAt => "pop" | .extend => "extend" | .insert => "insert" | .count => "count" | .index => "index" | .clear => "clear"
theorem mapO_plain {g : D → Option PyData} (h : ∀ x y, g x = some y → y.plain = true) : ∀ {xs : List D} {ys : List PyData}, mapO g xs = some ys → PyData.plainAll ys = true
  | [], ys, e => by cases e; rfl
  | x :: r, ys, e => by
    unfold mapO at e
    cases e1 : g x with
    | none => rw [e1] at e; cases e
    | some y =>
      rw [e1] at e
      dsimp only at e
      cases e2 : mapO g r with
      | none => rw [e2] at e; cases e
      | some zs =>
        rw [e2] at e
        cases e
        rw [PyData.plainAll, h x y e1, mapO_plain h e2]
        rfl
theorem pd_plain {m : Mu} : ∀ (f : Nat) (d : D) (x : PyData), pd m f d = some x → x.plain = true
  | f, .non, x, h => by cases f <;> cases h <;> rfl
  | f, .bl _, x, h => by cases f <;> cases h <;> rfl
  | f, .int _, x, h => by cases f <;> cases h <;> rfl
  | f, .exo _, x, h => by cases f <;> cases h
  | f, .str z, x, h => by
    have e : pd m f (.str z) = if PyData.strOk z then some (.str z) else none := by cases f <;> rfl
    rw [e] at h
    split at h
    · cases h; rfl
    · cases h
  | 0, .tup _, x, h => by cases h
  | 0, .ref _, x, h => by cases h
  | f + 1, .tup xs, x, h => by
    have h : (mapO (pd m f) xs).map PyData.tuple = some x := h
    obtain ⟨ys, e, rfl⟩ := Option.map_eq_some_iff.mp h
    rw [PyData.plain]
    exact mapO_plain (fun x y h => pd_plain f x y h) e
  | f + 1, .ref n, x, h => by
    have h : (match lstAt m n with
      | some xs => (mapO (pd m f) xs).map PyData.list
      | none => none) = some x := h
    split at h
    · obtain ⟨ys, e, rfl⟩ := Option.map_eq_some_iff.mp h
      rw [PyData.plain]
      exact mapO_plain (fun x y h => pd_plain f x y h) e
    · cases h
theorem count_ok (hu : X.A.units + 200 < cLine) : MtR X "list.count" (rm X (meF .count)) := by
  intro pins s σ H x xs v us Q I rx rs ⟨E, as, m, dx, ds, hr, px, ps, q⟩
  cases px with
  | @ref a n h1 =>
    cases ps with
    | nil => exact False.elim q
    | cons p1 pr =>
      cases pr with
      | cons _ _ => exact False.elim q
      | @nil =>
        rename_i y d
        have q : Vg X.prog X.w X.K X.mg (RD X.K) as H (match m[n]? with
          | some (.lst xs) => (match mapO (pd m 19) xs, pd m 19 d with
            | some ps, some p => .ok (.int (ps.countP fun q => PyData.eqv q p : Nat)) m
            | _, _ => .bad)
          | _ => .bad) Q E := q
        split at q
        · rename_i zs e1
          split at q
          · rename_i ps p e2 e3
            cases rx
            obtain ⟨u, rfl, ru⟩ := Vals.one rs
            obtain ⟨vs, g1, _, g3⟩ := hr.lst h1 e1
            obtain ⟨its, rv, pl, hz⟩ := I.list (SqL.of g1)
            obtain ⟨b1, b2, b3⟩ := pd_ok hr 19 d y p e3 p1
            obtain ⟨f1, f2, f3⟩ := pd_all (pd_ok hr 19) zs vs ps e2 g3
            obtain ⟨bs, q1⟩ := Dp.reads I p y u b1 ru
            obtain ⟨as', q2⟩ := Dp.readsAll I ps vs its f1 rv
            exact PySem.SeqAt.count_list_data pl.isList (by simpa using q2) q1 (mapO_plain (fun x y h => pd_plain 19 x y h) e2) (pd_plain 19 d p e3) (by have : min (PyData.depthAll ps) p.depth ≤ p.depth := Nat.min_le_right _ _; omega) ⟨.int _, H, I.tok _, ⟨_, rfl⟩, q _ _ _ Kp.refl hr (Rep.int _)⟩
          · exact False.elim q
        · exact False.elim q
  | _ => exact False.elim q
theorem holds_bls {h : Heap} : ∀ {bs : List Bool} {its : List Value}, Vals (bs.map V.bl) its → PySem.W.HoldAll h its bs
  | [], its, r => by cases r; exact PySem.W.HoldAll.nil
  | b :: bs, its, r => by
    cases r with
    | cons r1 r2 =>
      cases r1
      exact PySem.W.HoldAll.cons (PySem.W.holds_bool _) (holds_bls r2)
theorem index_ok (hu : X.A.units + 200 < cLine) : MtR X "list.index" (rm X (meF .index)) := by
  intro pins s σ H x xs v us Q I rx rs ⟨E, as, m, dx, ds, hr, px, ps, q⟩
  cases px with
  | @ref a n h1 =>
    cases ps with
    | nil => exact False.elim q
    | cons p1 pr =>
      cases pr with
      | cons _ _ => cases p1 <;> exact False.elim q
      | @nil =>
        cases p1 with
        | bl b =>
          have q : Vg X.prog X.w X.K X.mg (RD X.K) as H (match m[n]? with
            | some (.lst xs) => (match blsO xs with
              | some bs => if b ∈ bs ∧ bs.length ≤ sizeLine then .ok (.int (bs.idxOf b : Nat)) m else .bad
              | none => .bad)
            | _ => .bad) Q E := q
          split at q
          · rename_i zs e1
            split at q
            · rename_i bs e2
              split at q
              · rename_i c
                cases rx
                obtain ⟨u, rfl, ru⟩ := Vals.one rs
                cases ru
                obtain ⟨vs, g1, _, g3⟩ := hr.lst h1 e1
                obtain ⟨its, rv, pl, hz⟩ := I.list (SqL.of g1)
                rw [bls_of e2 g3] at rv
                exact PySem.W.index_list_datum pl.isList (holds_bls rv) (PySem.W.holds_bool _) (by show X.A.units + 1 + 0 < _; omega) c.2 c.1 ⟨.int _, H, I.tok _, ⟨_, rfl⟩, q _ _ _ Kp.refl hr (Rep.int _)⟩
              · exact False.elim q
            · exact False.elim q
          · exact False.elim q
        | _ => exact False.elim q
  | _ => exact False.elim q
theorem append_ok : MtR X "list.append" (rm X (meF .append)) := by
  intro pins s σ H x xs v us Q I rx rs ⟨E, as, m, dx, ds, hr, px, ps, q⟩
  cases px with
  | @ref a n h1 =>
    cases ps with
    | nil => exact False.elim q
    | cons p1 pr =>
      cases pr with
      | cons _ _ => exact False.elim q
      | @nil =>
        rename_i y d
        have q : Vg X.prog X.w X.K X.mg (RD X.K) as H (match m[n]? with
          | some (.lst xs) => if xs.length < sizeLine then .ok .non (m.set n (.lst (xs ++ [d]))) else .bad
          | _ => .bad) Q E := q
        split at q
        · rename_i zs e1
          split at q
          · rename_i c
            obtain ⟨vs, g1, g2, g3⟩ := hr.lst h1 e1
            have hl := g3.length
            refine mt_append pins s σ H _ _ v us Q I rx rs ⟨a, vs, y, rfl, rfl, g1, by omega, ?_⟩
            obtain ⟨kp, hr'⟩ := hr.upd (o := .lst (zs ++ [d])) (ho := .lst (vs ++ [y])) h1 (notTup g1 trivial) fun kp => .lst (by simp; omega) ((g3.app (.cons p1 .nil)).mono hr kp)
            exact q _ _ _ kp hr' .non
          · exact False.elim q
        · exact False.elim q
  | _ => exact False.elim q
theorem insert_ok : MtR X "list.insert" (rm X (meF .insert)) := by
  intro pins s σ H x xs v us Q I rx rs ⟨E, as, m, dx, ds, hr, px, ps, q⟩
  cases px with
  | @ref a n h1 =>
    cases ps with
    | nil => exact False.elim q
    | cons p1 pr =>
      cases pr with
      | nil => cases p1 <;> exact False.elim q
      | cons p2 pr =>
        cases pr with
        | cons _ _ => cases p1 <;> exact False.elim q
        | @nil =>
          cases p1 with
          | int i =>
            rename_i y d
            have q : Vg X.prog X.w X.K X.mg (RD X.K) as H (match m[n]? with
              | some (.lst xs) => if xs.length < sizeLine ∧ 0 ≤ i ∧ i < 2 ^ 63 then .ok .non (m.set n (.lst (xs.take i.toNat ++ [d] ++ xs.drop i.toNat))) else .bad
              | _ => .bad) Q E := q
            split at q
            · rename_i zs e1
              split at q
              · rename_i c
                obtain ⟨vs, g1, g2, g3⟩ := hr.lst h1 e1
                have hl := g3.length
                refine mt_insert pins s σ H _ _ v us Q I rx rs ⟨a, vs, i, y, rfl, rfl, g1, by omega, c.2.1, c.2.2, ?_⟩
                obtain ⟨kp, hr'⟩ := hr.upd (o := .lst (zs.take i.toNat ++ [d] ++ zs.drop i.toNat)) (ho := .lst (vs.take i.toNat ++ [y] ++ vs.drop i.toNat)) h1 (notTup g1 trivial) fun kp => .lst (by simp; omega) ((((g3.take _).app (.cons p2 .nil)).app (g3.drop _)).mono hr kp)
                exact q _ _ _ kp hr' .non
              · exact False.elim q
            · exact False.elim q
          | _ => exact False.elim q
  | _ => exact False.elim q
theorem extend_ok : MtR X "list.extend" (rm X (meF .extend)) := by
  intro pins s σ H x xs v us Q I rx rs ⟨E, as, m, dx, ds, hr, px, ps, q⟩
  cases px with
  | @ref a n h1 =>
    cases ps with
    | nil => exact False.elim q
    | cons p1 pr =>
      cases pr with
      | cons _ _ => cases p1 <;> exact False.elim q
      | nil =>
        cases p1 with
        | @ref b k h2 =>
          have q : Vg X.prog X.w X.K X.mg (RD X.K) as H (match m[n]?, m[k]? with
            | some (.lst xs), some (.lst ys) => if xs.length + ys.length ≤ sizeLine then .ok .non (m.set n (.lst (xs ++ ys))) else .bad
            | _, _ => .bad) Q E := q
          split at q
          · rename_i zs ws e1 e2
            split at q
            · rename_i c
              obtain ⟨vs, g1, g2, g3⟩ := hr.lst h1 e1
              obtain ⟨vs', f1, f2, f3⟩ := hr.lst h2 e2
              have hl := g3.length
              have hl' := f3.length
              refine mt_extend pins s σ H _ _ v us Q I rx rs ⟨a, b, vs, vs', rfl, rfl, g1, f1, by omega, ?_⟩
              obtain ⟨kp, hr'⟩ := hr.upd (o := .lst (zs ++ ws)) (ho := .lst (vs ++ vs')) h1 (notTup g1 trivial) fun kp => .lst (by simp; omega) ((g3.app f3).mono hr kp)
              exact q _ _ _ kp hr' .non
            · exact False.elim q
          · exact False.elim q
        | _ => exact False.elim q
  | _ => exact False.elim q
theorem pop_ok : MtR X "list.pop" (rm X (meF .pop)) := by
  intro pins s σ H x xs v us Q I rx rs ⟨E, as, m, dx, ds, hr, px, ps, q⟩
  cases px with
  | @ref a n h1 =>
    cases ps with
    | cons _ _ => exact False.elim q
    | nil =>
      have q : Vg X.prog X.w X.K X.mg (RD X.K) as H (match m[n]? with
        | some (.lst xs) => (match xs[xs.length - 1]? with
          | some y => .ok y (m.set n (.lst xs.dropLast))
          | none => .bad)
        | _ => .bad) Q E := q
      split at q
      · rename_i zs e1
        split at q
        · rename_i y e2
          obtain ⟨vs, g1, g2, g3⟩ := hr.lst h1 e1
          obtain ⟨w, e3, r3⟩ := g3.get e2
          refine mt_pop pins s σ H _ _ v us Q I rx rs ⟨a, vs, w, rfl, rfl, g1, by rw [g3.length]; exact e3, ?_⟩
          obtain ⟨kp, hr'⟩ := hr.upd (o := .lst zs.dropLast) (ho := .lst vs.dropLast) h1 (notTup g1 trivial) fun kp => .lst (by rw [List.length_dropLast]; omega) ((g3.last).mono hr kp)
          exact q _ _ _ kp hr' (r3.mono hr kp)
        · exact False.elim q
      · exact False.elim q
  | _ => exact False.elim q
theorem clear_ok : MtR X "list.clear" (rm X (meF .clear)) := by
  intro pins s σ H x xs v us Q I rx rs ⟨E, as, m, dx, ds, hr, px, ps, q⟩
  cases px with
  | @ref a n h1 =>
    cases ps with
    | cons _ _ => exact False.elim q
    | nil =>
      have q : Vg X.prog X.w X.K X.mg (RD X.K) as H (match m[n]? with
        | some (.lst _) => .ok .non (m.set n (.lst []))
        | _ => .bad) Q E := q
      split at q
      · rename_i zs e1
        obtain ⟨vs, g1, g2, g3⟩ := hr.lst h1 e1
        refine mt_clear pins s σ H _ _ v us Q I rx rs ⟨a, vs, rfl, rfl, g1, ?_⟩
        obtain ⟨kp, hr'⟩ := hr.upd (o := .lst []) (ho := .lst []) h1 (notTup g1 trivial) fun kp => .lst (Nat.zero_le _) .nil
        exact q _ _ _ kp hr' .non
      · exact False.elim q
  | _ => exact False.elim q
theorem popAt_ok : MtR X "list.pop" (rm X (meF .popAt)) := by
  intro pins s σ H x xs v us Q I rx rs ⟨E, as, m, dx, ds, hr, px, ps, q⟩
  cases px with
  | @ref a n h1 =>
    cases ps with
    | nil => exact False.elim q
    | cons p1 pr =>
      cases pr with
      | cons _ _ => cases p1 <;> exact False.elim q
      | nil =>
        cases p1 with
        | int i =>
          have q : Vg X.prog X.w X.K X.mg (RD X.K) as H (match m[n]? with
            | some (.lst xs) => (match L2.ixN xs.length i with
              | some k => (match xs[k]? with
                | some y => .ok y (m.set n (.lst (xs.eraseIdx k)))
                | none => .bad)
              | none => .bad)
            | _ => .bad) Q E := q
          split at q
          · rename_i zs e1
            split at q
            · rename_i k e2
              split at q
              · rename_i y e3
                obtain ⟨vs, g1, g2, g3⟩ := hr.lst h1 e1
                obtain ⟨w, e4, r4⟩ := g3.get e3
                have hl := g3.length
                have ea : atI zs i = some y := by unfold atI; rw [e2]; exact e3
                obtain ⟨j, b1, b2, b3, b4, b5⟩ := atI_get ea
                have ej : j = k := by
                  have e2' := e2
                  unfold ixN at e2'
                  unfold seqIndex? at b1
                  split at e2' <;> split at b1 <;> simp at e2' b1 <;> omega
                subst ej
                have hs : sizeLine = 16777216 := sizeLine_eq
                refine mt_popAt pins s σ H _ _ v us Q I rx rs ⟨a, vs, i, j, w, rfl, rfl, g1, by omega, by omega, by rw [hl]; exact b1, e4, ?_⟩
                obtain ⟨kp, hr'⟩ := hr.upd (o := .lst (zs.eraseIdx j)) (ho := .lst (vs.eraseIdx j)) h1 (notTup g1 trivial) fun kp => .lst (by rw [List.length_eraseIdx]; split <;> omega) ((g3.erase j).mono hr kp)
                exact q _ _ _ kp hr' (r4.mono hr kp)
              · exact False.elim q
            · exact False.elim q
          · exact False.elim q
        | _ => exact False.elim q
  | _ => exact False.elim q
end
end Af
namespace Af
open PySem PySem.Spec PyProof.Rows L2
section
variable {X : Cx} {W : WX} {a b c e : Expr} {es : List Expr} {fa fb fc : Env → M D} {fs : Env → M (List D)} {pos : Pos}
theorem tE_bd {α β : Type} {R : List Addr → Hp → β → α → Prop} {f : D → M α} {σ : L2.St} {H : Hp} {as : List Addr} {m : Mu} {ρ : Env} {Q : β → Hp → Prop} (sl : Sl X.K H as σ ρ) (hr : HRep X.prog X.w X.K as m H)
    (h : Vg X.prog X.w X.K X.mg R as H (bd (fa ρ) f m) Q fun c d H' => W c d σ H') :
    tE X W fa σ H fun x H1 => ∃ as1 m1 dx, Sl X.K H1 as1 σ ρ ∧ HRep X.prog X.w X.K as1 m1 H1 ∧ Kp as as1 H H1 ∧ Rep X.K H1 as1 x dx ∧ Vg X.prog X.w X.K X.mg R as1 H1 (f dx m1) Q fun c d H' => W c d σ H' :=
  ⟨as, m, ρ, sl, hr, (h.bd (R := RD X.K)).mono fun x H1 ⟨as1, m1, dx, k, hr1, rx, v⟩ => ⟨as1, m1, dx, sl.mono hr k, hr1, k, rx, v⟩⟩
theorem tE_mono {σ : L2.St} {H : Hp} {Q Q' : VK} {f : Env → M D} (h : tE X W f σ H Q) (i : ∀ x H', Q x H' → Q' x H') : tE X W f σ H Q' := by
  obtain ⟨as, m, ρ, sl, hr, v⟩ := h
  exact ⟨as, m, ρ, sl, hr, v.mono i⟩
theorem two {f : D → D → M D} {σ : L2.St} {H : Hp} {Q : VK} (h : tE X W (fun ρ => bd (fa ρ) fun x => bd (fb ρ) fun y => f x y) σ H Q) : tE X W fa σ H fun x H1 => tE X W fb σ H1 fun y H2 => r2 X f x y H2 Q := by
  obtain ⟨as, m, ρ, sl, hr, v⟩ := h
  refine tE_mono (tE_bd sl hr v) fun x H1 ⟨as1, m1, dx, sl1, hr1, k1, rx, v1⟩ => ?_
  exact tE_mono (tE_bd sl1 hr1 v1) fun y H2 ⟨as2, m2, dy, sl2, hr2, k2, ry, v2⟩ => ⟨_, as2, m2, dx, dy, hr2, rx.mono hr1 k2, ry, v2⟩
theorem one {f : D → M D} {σ : L2.St} {H : Hp} {Q : VK} (h : tE X W (fun ρ => bd (fa ρ) f) σ H Q) : tE X W fa σ H fun x H1 => r1 X f x H1 Q := by
  obtain ⟨as, m, ρ, sl, hr, v⟩ := h
  exact tE_mono (tE_bd sl hr v) fun x H1 ⟨as1, m1, dx, sl1, hr1, k1, rx, v1⟩ => ⟨_, as1, m1, dx, hr1, rx, v1⟩
theorem e_var {i : Nat} {x : Str} (hN : X.N[i]? = some x) (hv : Vis X.env.scope x) (hd : (x == ("__debug__" : Str)) = false) (hcd : (x == ("__classdict__" : Str)) = false) : PE X (.Name x pos) (tE X W (varM i)) :=
  PEimp (pe_var hN hv hd hcd) fun σ H Q ⟨as, m, ρ, sl, hr, v⟩ => by
    have v : Vg X.prog X.w X.K X.mg (RD X.K) as H ((match ρ[i]? with
      | some (some d) => ret d
      | _ => nope) m) Q fun c d H' => W c d σ H' := v
    cases e : ρ[i]? with
    | none => rw [e] at v; exact False.elim v
    | some od =>
      rw [e] at v
      cases od with
      | none => exact False.elim v
      | some d =>
        obtain ⟨w, h1, h2⟩ := sl.2 i d e
        exact ⟨w, h1, Vg.ret v hr h2⟩
theorem e_k {v : V} {d : D} (h : PE X e (tC v)) (r : ∀ H as, Rep X.K H as v d) : PE X e (tE X W fun _ => ret d) :=
  PEimp h fun σ H Q ⟨as, m, ρ, sl, hr, q⟩ => q.ret hr (r H as)
theorem e_bin {o : Bop} (ha : PE X a (tE X W fa)) (hb : PE X b (tE X W fb)) : PE X (.BinOp a (bopOf o) b pos) (tE X W fun ρ => bd (fa ρ) fun x => bd (fb ρ) fun y => dBin o x y) :=
  PEimp (pe_op (bin_ok o) ha hb) fun σ H Q h => two h
theorem e_neg (ha : PE X a (tE X W fa)) : PE X (.UnaryOp .USub a pos) (tE X W fun ρ => bd (fa ρ) dNeg) :=
  PEimp (pe_un neg_ok ha) fun σ H Q h => one h
theorem e_ix {f : IxR X (r2 X dIx)} (ha : PE X a (tE X W fa)) (hb : PE X b (tE X W fb)) (hs : PlainIx b) : PE X (.Subscript a b pos) (tE X W fun ρ => bd (fa ρ) fun x => bd (fb ρ) fun y => dIx x y) :=
  PEimp (pe_ix f ha hb hs) fun σ H Q h => two h
theorem tru_inv {α β : Type} {R : List Addr → Hp → β → α → Prop} {f : Bool → M α} {H : Hp} {as : List Addr} {m : Mu} {d : D} {x : V} {Q : β → Hp → Prop} {E : XK} (h : Vg X.prog X.w X.K X.mg R as H (bd (tru d) f m) Q E) (rx : Rep X.K H as x d) : ∃ k, d = .bl k ∧ x = .bl k ∧ Vg X.prog X.w X.K X.mg R as H (f k m) Q E := by
  cases rx with
  | bl k => exact ⟨k, rfl, rfl, h⟩
  | _ => exact False.elim h
theorem e_not (ha : PE X a (tE X W fa)) : PE X (.UnaryOp .Not a pos) (tE X W fun ρ => bd (fa ρ) fun x => bd (tru x) fun b => ret (.bl (!b))) :=
  PEimp (pe_not ha) fun σ H Q ⟨as, m, ρ, sl, hr, v⟩ => tE_mono (tE_bd sl hr v) fun x H1 ⟨as1, m1, dx, sl1, hr1, k1, rx, v1⟩ => by
    obtain ⟨k, rfl, rfl, v2⟩ := tru_inv v1 rx
    exact ⟨k, rfl, v2.ret hr1 (Rep.bl _)⟩
theorem e_and {rest : List Expr} (ha : PE X a (tE X W fa)) (hb : PE X (.BoolOp .And (b :: rest) pos) (tE X W fb)) : PE X (.BoolOp .And (a :: b :: rest) pos) (tE X W fun ρ => bd (fa ρ) fun x => bd (tru x) fun c => if c then fb ρ else ret (.bl false)) :=
  PEimp (pe_and ha hb) fun σ H Q ⟨as, m, ρ, sl, hr, v⟩ => tE_mono (tE_bd sl hr v) fun x H1 ⟨as1, m1, dx, sl1, hr1, k1, rx, v1⟩ => by
    obtain ⟨k, rfl, rfl, v2⟩ := tru_inv v1 rx
    refine ⟨k, rfl, ?_⟩
    cases k with
    | true => exact ⟨as1, m1, ρ, sl1, hr1, v2⟩
    | false => exact v2.ret hr1 (Rep.bl _)
theorem e_or {rest : List Expr} (ha : PE X a (tE X W fa)) (hb : PE X (.BoolOp .Or (b :: rest) pos) (tE X W fb)) : PE X (.BoolOp .Or (a :: b :: rest) pos) (tE X W fun ρ => bd (fa ρ) fun x => bd (tru x) fun c => if c then ret (.bl true) else fb ρ) :=
  PEimp (pe_or ha hb) fun σ H Q ⟨as, m, ρ, sl, hr, v⟩ => tE_mono (tE_bd sl hr v) fun x H1 ⟨as1, m1, dx, sl1, hr1, k1, rx, v1⟩ => by
    obtain ⟨k, rfl, rfl, v2⟩ := tru_inv v1 rx
    refine ⟨k, rfl, ?_⟩
    cases k with
    | false => exact ⟨as1, m1, ρ, sl1, hr1, v2⟩
    | true => exact v2.ret hr1 (Rep.bl _)
abbrev tTr (X : Cx) (W : WX) (f : Env → M D) : TT := tT X W fun ρ => bd (f ρ) tru
theorem tTr_tE {σ : L2.St} {H : Hp} {Q : Bool → Hp → Prop} (h : tTr X W fa σ H Q) : tE X W fa σ H fun x H1 => ∃ k, x = .bl k ∧ Q k H1 := by
  obtain ⟨as, m, ρ, sl, hr, v⟩ := h
  refine tE_mono (tE_bd sl hr v) fun x H1 ⟨as1, m1, dx, sl1, hr1, k1, rx, v1⟩ => ?_
  cases rx with
  | bl k => exact ⟨k, rfl, Vg.ret v1 hr1 rfl⟩
  | _ => exact False.elim v1
theorem t_val (h : PE X e (tE X W fa)) (he : ∀ whole, isTrue e X.env whole = (do let v ← whole; standAt e.pos; holding [v] (truthy v))) : PT X e (tTr X W fa) :=
  PTimp (pt_val h he) fun σ H Q h => tTr_tE h
theorem bd_assoc {α β γ : Type} (x : M α) (f : α → M β) (g : β → M γ) : bd (bd x f) g = bd x fun a => bd (f a) g := by
  funext m
  unfold bd
  cases x m <;> rfl
theorem tT_bd {α β : Type} {R : List Addr → Hp → β → α → Prop} {f : Bool → M α} {σ : L2.St} {H : Hp} {as : List Addr} {m : Mu} {ρ : Env} {Q : β → Hp → Prop} {ft : Env → M Bool} (sl : Sl X.K H as σ ρ) (hr : HRep X.prog X.w X.K as m H)
    (h : Vg X.prog X.w X.K X.mg R as H (bd (ft ρ) f m) Q fun c d H' => W c d σ H') :
    tT X W ft σ H fun k H1 => ∃ as1 m1, Sl X.K H1 as1 σ ρ ∧ HRep X.prog X.w X.K as1 m1 H1 ∧ Kp as as1 H H1 ∧ Vg X.prog X.w X.K X.mg R as1 H1 (f k m1) Q fun c d H' => W c d σ H' :=
  ⟨as, m, ρ, sl, hr, (h.bd (R := RB)).mono fun x H1 ⟨as1, m1, dx, k, hr1, rx, v⟩ => ⟨as1, m1, sl.mono hr k, hr1, k, by rw [show x = dx from rx]; exact v⟩⟩
theorem tT_mono {σ : L2.St} {H : Hp} {Q Q' : Bool → Hp → Prop} {f : Env → M Bool} (h : tT X W f σ H Q) (i : ∀ x H', Q x H' → Q' x H') : tT X W f σ H Q' := by
  obtain ⟨as, m, ρ, sl, hr, v⟩ := h
  exact ⟨as, m, ρ, sl, hr, v.mono i⟩
theorem t_not (ha : PT X a (tTr X W fa)) : PT X (.UnaryOp .Not a pos) (tTr X W fun ρ => bd (fa ρ) fun x => bd (tru x) fun b => ret (.bl (!b))) :=
  PTimp (pt_not ha) fun σ H Q ⟨as, m, ρ, sl, hr, v⟩ => by
    have e : bd (bd (fa ρ) fun x => bd (tru x) fun b => ret (D.bl (!b))) tru = bd (bd (fa ρ) tru) fun b => ret (!b) := by
      rw [bd_assoc, bd_assoc]
      congr 1
      funext x
      rw [bd_assoc]
      rfl
    dsimp only at v
    rw [e] at v
    exact tT_mono (tT_bd sl hr v) fun k H1 ⟨as1, m1, sl1, hr1, k1, v1⟩ => Vg.ret v1 hr1 rfl
theorem t_and {rest : List Expr} (ha : PT X a (tTr X W fa)) (hb : PW X (.BoolOp .And (b :: rest) pos) (tTr X W fb)) : PW X (.BoolOp .And (a :: b :: rest) pos) (tTr X W fun ρ => bd (fa ρ) fun x => bd (tru x) fun c => if c then fb ρ else ret (.bl false)) :=
  PWimp (pw_and ha hb) fun σ H Q ⟨as, m, ρ, sl, hr, v⟩ => by
    have e : bd (bd (fa ρ) fun x => bd (tru x) fun c => if c then fb ρ else ret (.bl false)) tru = bd (bd (fa ρ) tru) fun c => if c then bd (fb ρ) tru else ret false := by
      rw [bd_assoc, bd_assoc]
      congr 1
      funext x
      rw [bd_assoc]
      congr 1
      funext c
      cases c <;> rfl
    dsimp only at v
    rw [e] at v
    refine tT_mono (tT_bd sl hr v) fun k H1 ⟨as1, m1, sl1, hr1, k1, v1⟩ => ?_
    cases k with
    | true => exact ⟨as1, m1, ρ, sl1, hr1, v1⟩
    | false => exact Vg.ret v1 hr1 rfl
theorem t_or {rest : List Expr} (ha : PT X a (tTr X W fa)) (hb : PW X (.BoolOp .Or (b :: rest) pos) (tTr X W fb)) : PW X (.BoolOp .Or (a :: b :: rest) pos) (tTr X W fun ρ => bd (fa ρ) fun x => bd (tru x) fun c => if c then ret (.bl true) else fb ρ) :=
  PWimp (pw_or ha hb) fun σ H Q ⟨as, m, ρ, sl, hr, v⟩ => by
    have e : bd (bd (fa ρ) fun x => bd (tru x) fun c => if c then ret (.bl true) else fb ρ) tru = bd (bd (fa ρ) tru) fun c => if c then ret true else bd (fb ρ) tru := by
      rw [bd_assoc, bd_assoc]
      congr 1
      funext x
      rw [bd_assoc]
      congr 1
      funext c
      cases c <;> rfl
    dsimp only at v
    rw [e] at v
    refine tT_mono (tT_bd sl hr v) fun k H1 ⟨as1, m1, sl1, hr1, k1, v1⟩ => ?_
    cases k with
    | false => exact ⟨as1, m1, ρ, sl1, hr1, v1⟩
    | true => exact Vg.ret v1 hr1 rfl
theorem e_cmp {op : CmpOp} {o : Cop} (h : OpR X (compareOp op) (r2 X (cmpM o))) (ha : PE X a (tE X W fa)) (hb : PE X b (tE X W fb)) (hm : behindInMarks op b = false) : PE X (.Compare a [op] [b] pos) (tE X W fun ρ => bd (fa ρ) fun x => bd (fb ρ) fun y => cmpM o x y) :=
  PEimp (pe_cmpR h ha hb hm) fun σ H Q h => two h
theorem t_cmp {op : CmpOp} {o : Cop} (h : OpR X (compareOp op) (r2 X (cmpM o))) (ha : PE X a (tE X W fa)) (hb : PE X b (tE X W fb)) (hm : behindInMarks op b = false) : PT X (.Compare a [op] [b] pos) (tTr X W fun ρ => bd (fa ρ) fun x => bd (fb ρ) fun y => cmpM o x y) :=
  PTimp (pt_cmpR h ha hb hm) fun σ H Q h => two (tTr_tE h)
theorem chn_aux {o o' : Cop} {σ : L2.St} {H : Hp} {Q : VK} (h : tE X W (fun ρ => bd (fa ρ) fun x => bd (fb ρ) fun y => bd (cmpM o x y) fun r => bd (tru r) fun t => if t then bd (fc ρ) fun z => cmpM o' y z else ret (.bl false)) σ H Q) :
    tChain (r2 X (cmpM o)) (r2 X (cmpM o')) (tE X W fa) (tE X W fb) (tE X W fc) σ H Q := by
  obtain ⟨as, m, ρ, sl, hr, v⟩ := h
  refine tE_mono (tE_bd sl hr v) fun x H1 ⟨as1, m1, dx, sl1, hr1, k1, rx, v1⟩ => ?_
  refine tE_mono (tE_bd sl1 hr1 v1) fun y H2 ⟨as2, m2, dy, sl2, hr2, k2, ry, v2⟩ => ?_
  refine ⟨_, as2, m2, dx, dy, hr2, rx.mono hr1 k2, ry, (v2.bd (R := RD X.K)).mono fun z H3 ⟨as3, m3, dz, k3, hr3, rz, v3⟩ => ?_⟩
  obtain ⟨k, rfl, rfl, v4⟩ := tru_inv v3 rz
  refine ⟨k, rfl, ?_⟩
  cases k with
  | false => exact v4.ret hr3 (Rep.bl _)
  | true => exact tE_mono (tE_bd (sl2.mono hr2 k3) hr3 v4) fun w H4 ⟨as4, m4, dw, sl4, hr4, k4, rw', v5⟩ => ⟨_, as4, m4, dy, dw, hr4, (ry.mono hr2 k3).mono hr3 k4, rw', v5⟩
theorem e_chn {op op' : CmpOp} {o o' : Cop} (h : OpR X (compareOp op) (r2 X (cmpM o))) (h' : OpR X (compareOp op') (r2 X (cmpM o'))) (ha : PE X a (tE X W fa)) (hb : PE X b (tE X W fb)) (hc : PE X c (tE X W fc)) (hm : lastMarks [op, op'] [b, c] = false) :
    PE X (.Compare a [op, op'] [b, c] pos) (tE X W fun ρ => bd (fa ρ) fun x => bd (fb ρ) fun y => bd (cmpM o x y) fun r => bd (tru r) fun t => if t then bd (fc ρ) fun z => cmpM o' y z else ret (.bl false)) :=
  PEimp (pe_chain h h' ha hb hc hm) fun σ H Q h => chn_aux h
theorem t_chn {op op' : CmpOp} {o o' : Cop} (h : OpR X (compareOp op) (r2 X (cmpM o))) (h' : OpR X (compareOp op') (r2 X (cmpM o'))) (ha : PE X a (tE X W fa)) (hb : PE X b (tE X W fb)) (hc : PE X c (tE X W fc)) (hm : lastMarks [op, op'] [b, c] = false) :
    PT X (.Compare a [op, op'] [b, c] pos) (tTr X W fun ρ => bd (fa ρ) fun x => bd (fb ρ) fun y => bd (cmpM o x y) fun r => bd (tru r) fun t => if t then bd (fc ρ) fun z => cmpM o' y z else ret (.bl false)) :=
  PTimp (pt_chain h h' ha hb hc hm) fun σ H Q h => chn_aux (tTr_tE h)
theorem e_ite (hc : PT X c (tTr X W fc)) (ha : PE X a (tE X W fa)) (hb : PE X b (tE X W fb)) : PE X (.IfExp c a b pos) (tE X W fun ρ => bd (fc ρ) fun x => bd (tru x) fun t => if t then fa ρ else fb ρ) :=
  PEimp (pe_ifExp hc ha hb) fun σ H Q ⟨as, m, ρ, sl, hr, v⟩ => by
    dsimp only at v
    rw [show (bd (fc ρ) fun x => bd (tru x) fun t => if t then fa ρ else fb ρ) = bd (bd (fc ρ) tru) fun t => if t then fa ρ else fb ρ from (bd_assoc _ _ _).symm] at v
    refine tT_mono (tT_bd sl hr v) fun k H1 ⟨as1, m1, sl1, hr1, k1, v1⟩ => ?_
    cases k with
    | true => exact ⟨as1, m1, ρ, sl1, hr1, v1⟩
    | false => exact ⟨as1, m1, ρ, sl1, hr1, v1⟩
theorem a_nil : PA X [] (tA X W fun _ => ret []) := PAimp pa_nil fun σ H Q ⟨as, m, ρ, sl, hr, v⟩ => Vg.ret v hr .nil
theorem tA_mono {σ : L2.St} {H : Hp} {Q Q' : List V → Hp → Prop} {f : Env → M (List D)} (h : tA X W f σ H Q) (i : ∀ x H', Q x H' → Q' x H') : tA X W f σ H Q' := by
  obtain ⟨as, m, ρ, sl, hr, v⟩ := h
  exact ⟨as, m, ρ, sl, hr, v.mono i⟩
theorem tA_bd {α β : Type} {R : List Addr → Hp → β → α → Prop} {f : List D → M α} {σ : L2.St} {H : Hp} {as : List Addr} {m : Mu} {ρ : Env} {Q : β → Hp → Prop} (sl : Sl X.K H as σ ρ) (hr : HRep X.prog X.w X.K as m H)
    (h : Vg X.prog X.w X.K X.mg R as H (bd (fs ρ) f m) Q fun c d H' => W c d σ H') :
    tA X W fs σ H fun x H1 => ∃ as1 m1 dx, Sl X.K H1 as1 σ ρ ∧ HRep X.prog X.w X.K as1 m1 H1 ∧ Kp as as1 H H1 ∧ Reps X.K H1 as1 x dx ∧ Vg X.prog X.w X.K X.mg R as1 H1 (f dx m1) Q fun c d H' => W c d σ H' :=
  ⟨as, m, ρ, sl, hr, (h.bd (R := RDs X.K)).mono fun x H1 ⟨as1, m1, dx, k, hr1, rx, v⟩ => ⟨as1, m1, dx, sl.mono hr k, hr1, k, rx, v⟩⟩
theorem a_cons (he : PE X e (tE X W fa)) (hr : PA X es (tA X W fs)) (hs : starEach (e :: es) X.env = (false, eval e X.env) :: starEach es X.env) : PA X (e :: es) (tA X W fun ρ => bd (fa ρ) fun x => bd (fs ρ) fun xs => ret (x :: xs)) :=
  PAimp (pa_cons he hr hs) fun σ H Q ⟨as, m, ρ, sl, hr, v⟩ => by
    refine tE_mono (tE_bd sl hr v) fun x H1 ⟨as1, m1, dx, sl1, hr1, k1, rx, v1⟩ => ?_
    exact tA_mono (tA_bd sl1 hr1 v1) fun xs H2 ⟨as2, m2, ds, sl2, hr2, k2, rs, v2⟩ => Vg.ret v2 hr2 (.cons (rx.mono hr1 k2) rs)
theorem many {f : List D → M D} {σ : L2.St} {H : Hp} {Q : VK} (h : tE X W (fun ρ => bd (fs ρ) f) σ H Q) : tA X W fs σ H fun xs H1 => rn X f xs H1 Q := by
  obtain ⟨as, m, ρ, sl, hr, v⟩ := h
  exact tA_mono (tA_bd sl hr v) fun x H1 ⟨as1, m1, dx, sl1, hr1, k1, rx, v1⟩ => ⟨_, as1, m1, dx, hr1, rx, v1⟩
theorem e_tup {k : Nat} (h : PA X es (tA X W fs)) : PE X (.Tuple es k pos) (tE X W fun ρ => bd (fs ρ) fun xs => chk (xs.length ≤ sizeLine) (ret (.tup xs))) :=
  PEimp (pe_tup h) fun σ H Q h => tA_mono (many h) fun xs H1 ⟨E, as, m, ds, hr, rs, v⟩ => by
    obtain ⟨c, v⟩ := Vg.chk v
    have hl : xs.length ≤ sizeLine := by rw [rs.length]; exact c
    refine ⟨hl, fun p hp => ?_⟩
    obtain ⟨kp, hr'⟩ := hr.tup (xs := xs) hp
    exact v _ _ _ kp hr' (.tup (SqT.of upd_same) hl (rs.mono hr kp))
theorem e_lst (h : PA X es (tA X W fs)) : PE X (.List es pos) (tE X W fun ρ => bd (fs ρ) fun xs => chk (xs.length ≤ sizeLine) (alc (.lst xs))) :=
  PEimp (pe_lst h) fun σ H Q h => tA_mono (many h) fun xs H1 ⟨E, as, m, ds, hr, rs, v⟩ => by
    obtain ⟨c, v⟩ := Vg.chk v
    have hl : xs.length ≤ sizeLine := by rw [rs.length]; exact c
    exact ⟨hl, fun p hp => Vg.alc v hr hp fun kp => .lst hl (rs.mono hr kp)⟩
theorem e_bi {b : Bi} {x : Str} {p : Pos} (hc : coolB b = false → X.calm = true) (hu : X.A.units + 200 < cLine) (hgd : coolB b = false → X.A.guards = some []) (hx : x = biName b) (hg : Gl X x) (hm : X.mg x = none) (ha : PA X (e :: es) (tA X W fs)) (hs : starEach (e :: es) X.env = (false, eval e X.env) :: starEach es X.env) (hpl : (backTo pos (starEach es X.env)).any (·.1) = false) :
    PE X (.Call (.Name x p) (e :: es) [] pos) (tE X W fun ρ => bd (fs ρ) (biF b)) := by
  subst hx
  have hn : biName b ≠ "__name__" := by cases b <;> decide +kernel
  have hd : (biName b == ("__debug__" : Str)) = false := by cases b <;> decide +kernel
  have h := bi_ok (X := X) hu b hc hgd
  cases hv : biVal b with
  | builtin id =>
    rw [hv] at h
    exact PEimp (pe_callB h hg hm (by rw [bi_boot, hv]) ha hn hd hs hpl) fun σ H Q h => many h
  | type id =>
    rw [hv] at h
    exact PEimp (pe_callTy h hg hm (by rw [bi_boot, hv]) ha hn hd hs hpl) fun σ H Q h => many h
  | _ => cases b <;> cases hv
theorem e_isi {t : Ty} {p p2 : Pos} (hg : Gl X "isinstance") (hm : X.mg "isinstance" = none) (hg2 : Gl X (Str.ofString (tyName t))) (hm2 : X.mg (Str.ofString (tyName t)) = none) (ha : PE X a (tE X W fa)) (hs : starEach [a, .Name (Str.ofString (tyName t)) p2] X.env = (false, eval a X.env) :: starEach [.Name (Str.ofString (tyName t)) p2] X.env) :
    PE X (.Call (.Name "isinstance" p) [a, .Name (Str.ofString (tyName t)) p2] [] pos) (tE X W fun ρ => bd (fa ρ) fun x m => opt ((isTy m t x).map .bl) m) := by
  have hn : (Str.ofString (tyName t)) ≠ "__name__" := by cases t <;> decide +kernel
  have hd : (Str.ofString (tyName t) == ("__debug__" : Str)) = false := by cases t <;> decide +kernel
  refine PEimp (pe_callB (isi_ok t) hg hm boot_isinstance (pa_cons ha (pa_cons (pe_bltn (v := .ty (tyName t)) hg2 hm2 (ty_boot t) rfl hn hd) pa_nil) hs) (by decide +kernel) (by decide +kernel) hs) fun σ H Q ⟨as, m, ρ, sl, hr, v⟩ => ?_
  refine tE_mono (tE_bd sl hr v) fun x H1 ⟨as1, m1, dx, sl1, hr1, k1, rx, v1⟩ => ?_
  obtain ⟨d, e1, v2⟩ := Vg.opt v1
  obtain ⟨k, e2, rfl⟩ := Option.map_eq_some_iff.mp e1
  exact ⟨fun _ _ _ => False, as1, m1, x, dx, k, rfl, hr1, rx, e2, Vg.ret v2 hr1 (Rep.bl k)⟩
theorem me_ty {f : Me} {x : V} {H : Hp} {as : List Addr} {m : Mu} {dx : D} (hr : HRep X.prog X.w X.K as m H) (rx : Rep X.K H as x dx) {n : Nat} (e : dx = .ref n) {zs : List D} (h : m[n]? = some (.lst zs)) : tyV X.K "list" x H := by
  subst e
  cases rx with
  | ref h1 =>
    obtain ⟨vs, g1, _, _⟩ := hr.lst h1 h
    exact .inl ⟨rfl, _, SqL.of g1⟩
end
end Af
namespace Af
open PySem PySem.Spec PyProof.Rows L2
abbrev tIt (l : Addr) : Obj := { cls := .type "tuple_iterator", data := .fields #[.ref l, .int 0 0] }
abbrev eOb (it : Addr) : Obj := { cls := .type "enumerate", data := .fields #[.none, .bool false, .ref it, rawInt 0, .none, .none] }
theorem enumNew (l : Addr) (items : Array Value) : Meets (Builtin.«enumerate.__new__» ⟨[.type "enumerate", .ref l], []⟩) fun _ R s => s.heap.IsTuple l items ∧
    R (.ok (.ret (.ref (s.heap.push (tIt l)).objs.size))) { s with heap := (s.heap.push (tIt l)).push (eOb s.heap.objs.size) } :=
  .of_wp fun prog w A R s z => by
    obtain ⟨hq, gq, dq, tq, oq⟩ := s
    obtain ⟨hl, z⟩ := z
    have hsub := sub_enumerate
    have q1 : ∀ {A' : Around} {E : Value → Shared → Prop} {Q : Value → Shared → Prop}, Q (.ref hq.objs.size) ⟨hq.push (tIt l), gq, dq, tq, oq⟩ → wpAny (model prog w) A' (pyIter (.ref l)) Q E ⟨hq, gq, dq, tq, oq⟩ := fun q => wpAny_pyIter_tuple hl q
    wp_walk using q1
    refine wpAny_stack_any fun st => wpAny_pure ?_
    split
    · rename_i c _ _ _ _ _
      cases (c == Value.type "enumerate") <;> (wp_walk using q1; exact ⟨_, rfl, z⟩)
    · wp_walk using q1
      exact ⟨_, rfl, z⟩
section
variable {prog : Program} {w : World} {A : Around} {E : Value → Shared → Prop} {s : Shared}
theorem enumT_call {l : Addr} {items : Array Value} {Q : Value → Shared → Prop} (hl : s.heap.IsTuple l items)
    (h : ∀ h', IsEnum h' (s.heap.objs.size + 1) s.heap.objs.size 0 .none → h'.get? s.heap.objs.size = some (tIt l) → (∀ b o, s.heap.get? b = some o → h'.get? b = some o) → Q (.ref (s.heap.objs.size + 1)) { s with heap := h' }) :
    wpAny (model prog w) A (call (.type "enumerate") [.ref l]) Q E s := by
  have hz : (s.heap.push (tIt l)).objs.size = s.heap.objs.size + 1 := Heap.size_push ..
  refine callType_new F.called_enumerate (by decide) (F.typeCall_enumerate_1 _) (F.newCall_enumerate_1 _) (fun obj => F.args_object_init_2 obj _) F.entry_enumerate_new (enumNew l items) ⟨hl, ?_⟩
  have he := Heap.get?_push_size (s.heap.push (tIt l)) (o := eOb s.heap.objs.size) rfl
  rw [hz] at he
  show _ ∧ _
  rw [hz]
  exact ⟨⟨_, he, rfl⟩, h _ he (Heap.get?_push_of_some _ (Heap.get?_push_size _ rfl)) fun b o x => Heap.get?_push_of_some _ (Heap.get?_push_of_some _ x)⟩
end
def IteT (K : PySem.W.Frag) (a : Addr) : It :=
  ⟨fun i H => ∃ (xs : List V) (x : V), SqT K H a xs ∧ xs[i]? = some x,
   fun i H v H' => ∃ T x, v = .ref T ∧ H T = none ∧ H' = upd H T (.tup [.int (i : Nat), x]) ∧ ∀ xs, SqT K H a xs → xs[i]? = some x,
   fun i H => ∃ xs : List V, SqT K H a xs ∧ xs.length = i⟩
theorem enumT_turn {P : Program} {w : World} {K : PySem.W.Frag} {elts : List Expr} {kk : Nat} {tpos : Pos} (a e it : Addr) :
    Turn P w K (.Tuple elts kk tpos) (IteT K a) [e, it] e (fun i h => (∃ old, IsEnum h e it ((i : Nat) : Int) old) ∧ h.IsTupleIter it a i ∧ e ≠ it) where
  mem := by simp
  obj := fun i h st b hb => by
    obtain ⟨⟨old, he⟩, ⟨o, ho, hc, hd⟩, _⟩ := st
    rcases (show b = e ∨ b = it by simpa using hb) with z | z
    · rw [z]; exact ⟨_, he, fun v q => nomatch q⟩
    · rw [z]; exact ⟨o, ho, fun v q => by rw [hd] at q; cases q⟩
  keep := fun i h h' st k => ⟨⟨st.1.choose, k e (by simp) _ st.1.choose_spec⟩, st.2.1.at fun o q => k it (by simp) o q, st.2.2⟩
  item := by
    intro X hP hw hK hc i pins s σ H E I hf st hg
    subst hP hw hK
    obtain ⟨⟨old, he⟩, hit, hne⟩ := st
    obtain ⟨xs, x, hq, hx⟩ := hg
    obtain ⟨its, rv, p, hz⟩ := I.tuple hq
    obtain ⟨u, hu, ru⟩ := rv.get hx
    have hel : e < s.heap.objs.size := Heap.lt_size he
    have hil : it < s.heap.objs.size := by
      obtain ⟨_, q, _⟩ := hit
      exact Heap.lt_size q
    have p : s.heap.IsTuple a its.toArray := p
    have hea : e ≠ a := fun z => by
      obtain ⟨o, ho, hc, n, hd⟩ := p
      rw [← z] at ho
      have ho' := he.symm.trans ho
      cases ho'
      cases hd
    have hai : a ≠ it := fun z => by
      obtain ⟨o, ho, hc, n, hd⟩ := p
      obtain ⟨o2, ho2, hc2, hd2⟩ := hit
      rw [z] at ho
      rw [ho] at ho2
      cases ho2
      rw [hd] at hd2
      cases hd2
    have hlt : i < its.toArray.size := by
      have := (List.getElem?_eq_some_iff.mp hu).1
      simpa using this
    refine wpAny_pyNext_enum_itemD (Draws.tuple (A := X.A.in1) (I.ok.hd hc) it a hai its.toArray) he ⟨hit, p⟩ hlt hne (by simp [hne, hea]) fun x' h' tk hP ho hs' hT hsz hk => ?_
    have ex : x' = u := by
      have z : its.toArray[i]? = some x' := hP
      have z2 : its.toArray[i]? = some u := by simpa using hu
      rw [z2] at z
      cases z
      rfl
    subst ex
    refine ⟨_, rfl, wpAny_letOwnedTupleGo_enum (s := { s with heap := h', toks := tk + 1 }) ho fun h'' he' sb => ?_⟩
    have hT2 : h''.get? s.heap.objs.size = some { cls := .type "tuple", data := .seq #[.int i tk, x'] } := (sb.2 _ (Nat.ne_of_gt hel)).trans hT
    have new : ObjOk X.prog X.w (upd H s.heap.objs.size (.tup [.int (i : Nat), x])) h'' s.heap.objs.size (.tup [.int (i : Nat), x]) := ⟨by show 2 ≤ sizeLine; decide, [.int i tk, x'], .cons ⟨_, rfl⟩ (.cons ru .nil), ⟨_, hT2, rfl, _, rfl⟩⟩
    have I1 : Inv X pins σ (upd H s.heap.objs.size (.tup [.int (i : Nat), x])) { s with heap := h'', toks := tk + 1 } :=
      I.turnedNew (ch := [e, it]) (fun b ob hb q => (sb.2 b (fun z => hb (by simp [z]))).trans (hk b ob (fun z => hb (by simp [z])) (fun z => hb (by simp [z])) q)) hf (Nat.le_refl _) new
    refine ⟨.ref s.heap.objs.size, _, I1, rfl, ⟨_, x, rfl, I.hok.fresh (Nat.le_refl _), rfl, fun ys hy => by rw [I.tuple_inj hy hq]; exact hx⟩, ⟨⟨x', ?_⟩, hs'.1.at fun o q => (sb.2 it (Ne.symm hne)).trans q, hne⟩, fun b hb => ?_⟩
    · rw [show ((i + 1 : Nat) : Int) = (i : Int) + 1 by omega]
      exact he'
    · have hb' : b < s.heap.objs.size := by
        rcases (show b = e ∨ b = it by simpa using hb) with z | z
        · rw [z]; exact hel
        · rw [z]; exact hil
      rw [upd_ne (Nat.ne_of_lt hb')]
      exact (hf b hb).1
  done := by
    intro X hP hw hK hc i pins s σ H E I hf st hg
    subst hP hw hK
    obtain ⟨⟨old, he⟩, hit, hne⟩ := st
    obtain ⟨xs, hq, hx⟩ := hg
    obtain ⟨its, rv, p, hz⟩ := I.tuple hq
    have p : s.heap.IsTuple a its.toArray := p
    have hai : a ≠ it := fun z => by
      obtain ⟨o, ho, hc, n, hd⟩ := p
      obtain ⟨o2, ho2, hc2, hd2⟩ := hit
      rw [z] at ho
      rw [ho] at ho2
      cases ho2
      rw [hd] at hd2
      cases hd2
    have hn : its.toArray.size = i := by
      have := rv.length
      simp
      omega
    subst hn
    obtain ⟨f0, f1, f2, f3, f4, f5⟩ := hf it (by simp)
    exact wpAny_pyNext_enum_endD (Draws.tuple (A := X.A.in1) (I.ok.hd hc) it a hai its.toArray) he ⟨hit, p⟩ fun h' eb => ⟨rfl, I.turned (t' := s.toks) (fun b o hb q => eb b o hb q) f0 f1 f3 f4 f5⟩
  self := fun A i s Q E st h => wpAny_pyIter_enum st.1.choose_spec h
def iEnumA (K : PySem.W.Frag) (ta : TA) : TI := fun σ H R => ta σ H fun vs H1 => ∃ a xs, vs = [.ref a] ∧ ((SqL K H1 a xs ∧ R (Ite K a) H1) ∨ (SqT K H1 a xs ∧ R (IteT K a) H1))
theorem pi_enumA {X : Cx} {e : Expr} {ta : TA} {p pos tpos : Pos} {elts : List Expr} {kk : Nat} (hg : Gl X "enumerate") (hm : X.mg "enumerate" = none) (ha : PA X [e] ta) (hs : starEach [e] X.env = [(false, eval e X.env)]) :
    PI X (.Tuple elts kk tpos) (.Call (.Name "enumerate" p) [e] [] pos) (iEnumA X.K ta) := by
  refine ⟨fun pins s σ H R I h => ?_⟩
  refine Call_ (ld_blt I hg hm boot_enumerate (PyProof.Rows.callWith_type1 (thn (ha.run pos pins s σ H _ I h) fun us s1 ⟨vs, H1, I1, r1, q1⟩ => ?_) hs rfl))
  obtain ⟨a, xs, ex, q1⟩ := q1
  subst ex
  cases r1 with
  | cons r rr =>
    cases rr
    cases r
    have fresh : ∀ b ∈ [s1.heap.objs.size + 1, s1.heap.objs.size], FpOk X pins H1 b := fun b hb => by
      have hle : s1.heap.objs.size ≤ b := by
        rcases (show b = s1.heap.objs.size + 1 ∨ b = s1.heap.objs.size by simpa using hb) with z | z <;> omega
      exact I1.fpOk hle (I1.hok.fresh hle)
    rcases q1 with ⟨hq, q⟩ | ⟨hq, q⟩
    · obtain ⟨its, rv, p', hz⟩ := I1.list hq
      refine call_enumerate_list p'.isList fun h' he hit hsz hk => wpAny_pyIter_enum he ?_
      exact ⟨s1.heap.objs.size + 1, [s1.heap.objs.size + 1, s1.heap.objs.size], _, _, H1, rfl, I1.kept (t' := s1.toks) hk, turn_enum a (s1.heap.objs.size + 1) s1.heap.objs.size, ⟨⟨.none, he⟩, hit, Nat.succ_ne_self _⟩, fresh, q⟩
    · obtain ⟨its, rv, p', hz⟩ := I1.tuple hq
      refine enumT_call (show s1.heap.IsTuple a its.toArray from p') fun h' he hit hk => wpAny_pyIter_enum he ?_
      exact ⟨s1.heap.objs.size + 1, [s1.heap.objs.size + 1, s1.heap.objs.size], _, _, H1, rfl, I1.kept (t' := s1.toks) hk, enumT_turn a (s1.heap.objs.size + 1) s1.heap.objs.size, ⟨⟨.none, he⟩, ⟨_, hit, rfl, rfl⟩, Nat.succ_ne_self _⟩, fresh, q⟩
end Af
namespace Af
open PySem PySem.Spec PyProof.Rows L2
section
variable {X : Cx} {W : WX} {a b c e : Expr} {es : List Expr} {fa fb fc : Env → M D} {fs : Env → M (List D)} {pos : Pos}
def Walks (X : Cx) (J : It) (s : Src) (as0 : List Addr) (H0 : Hp) : Prop := ∀ as' m' H', Kp as0 as' H0 H' → HRep X.prog X.w X.K as' m' H' → stays s.at_ m' →
  (∀ i, i = s.items.length → J.stop i H') ∧ ∀ (i : Nat) d, s.items[i]? = some d → J.go i H' ∧ ∀ x H2, J.yld i H' x H2 → Kp as' as' H' H2 ∧ HRep X.prog X.w X.K as' m' H2 ∧ Rep X.K H2 as' x d
abbrev RI (X : Cx) : List Addr → Hp → It → Src → Prop := fun as H J s => s.items.length ≤ sizeLine ∧ Walks X J s as H
def tI (X : Cx) (W : WX) (f : Env → M Src) : TI := fun σ H R => ∃ as m ρ, Sl X.K H as σ ρ ∧ HRep X.prog X.w X.K as m H ∧ Vg X.prog X.w X.K X.mg (RI X) as H (f ρ m) R fun c d H' => W c d σ H'
theorem it_list {tg : Expr} {pins : List (Addr × Obj)} {s : Shared} {σ : L2.St} {H : Hp} {R : It → Hp → Prop} {a : Addr} {xs : List V} (I1 : Inv X pins σ H s) (hq : SqL X.K H a xs) (q : R (Itl X.K a) H) : wpAny (model X.prog X.w) X.A (pyIter (.ref a)) (PIE X pins σ tg R) X.xe s := by
  obtain ⟨its, rv, p, hz⟩ := I1.list hq
  refine wpAny_pyIter_list p.isList ?_
  refine ⟨s.heap.objs.size, [s.heap.objs.size], _, _, H, rfl, I1.kept (t' := s.toks) fun b o e => Heap.get?_push_of_some _ e, turn_list a _, ⟨_, Heap.get?_push_size _ rfl, rfl, rfl⟩, fun b hb => ?_, q⟩
  have e : b = s.heap.objs.size := by simpa using hb
  subst e
  exact I1.fpOk (Nat.le_refl _) (I1.hok.fresh (Nat.le_refl _))
theorem it_tup {tg : Expr} {pins : List (Addr × Obj)} {s : Shared} {σ : L2.St} {H : Hp} {R : It → Hp → Prop} {a : Addr} {xs : List V} (I1 : Inv X pins σ H s) (hq : SqT X.K H a xs) (q : R (Itt X.K a) H) : wpAny (model X.prog X.w) X.A (pyIter (.ref a)) (PIE X pins σ tg R) X.xe s := by
  obtain ⟨its, rv, p, hz⟩ := I1.tuple hq
  refine wpAny_pyIter_tuple (show s.heap.IsTuple a its.toArray from p) ?_
  refine ⟨s.heap.objs.size, [s.heap.objs.size], _, _, H, rfl, I1.kept (t' := s.toks) fun b o e => Heap.get?_push_of_some _ e, turn_tuple a _, ⟨_, Heap.get?_push_size _ rfl, rfl, rfl⟩, fun b hb => ?_, q⟩
  have e : b = s.heap.objs.size := by simpa using hb
  subst e
  exact I1.fpOk (Nat.le_refl _) (I1.hok.fresh (Nat.le_refl _))
theorem get_lt {α : Type} {xs : List α} {i : Nat} {d : α} (h : xs[i]? = some d) : i < xs.length := (List.getElem?_eq_some_iff.mp h).1
theorem walks_tup {as : List Addr} {m : Mu} {H : Hp} {a : Addr} {xs : List V} {ds : List D} (hr : HRep X.prog X.w X.K as m H) (h1 : SqT X.K H a xs) (h3 : Reps X.K H as xs ds) : Walks X (Itt X.K a) ⟨ds, []⟩ as H := fun as' m' H' k hr' _ =>
  ⟨fun i e => ⟨xs, SqT.mono hr k h1, by rw [h3.length, e]; exact Nat.le_refl _⟩, fun i d e => by
    obtain ⟨v, e1, r1⟩ := h3.get e
    refine ⟨⟨xs, v, SqT.mono hr k h1, e1⟩, fun x H2 ⟨e2, y⟩ => ?_⟩
    subst e2
    have e3 := y xs (SqT.mono hr k h1)
    rw [e1] at e3
    cases e3
    exact ⟨Kp.refl, hr', r1.mono hr k⟩⟩
theorem walks_lst {as : List Addr} {m : Mu} {H : Hp} {a : Addr} {n : Nat} {o : O} {ds : List D} (h1 : as[n]? = some a) (ho : lstAt m n = some ds) (hm : m[n]? = some o) : Walks X (Itl X.K a) ⟨ds, [(n, o)]⟩ as H := fun as' m' H' k hr' st => by
  have st : m'[n]? = some o := st
  have hl : lstAt m' n = some ds := by
    unfold lstAt at ho ⊢
    rw [st, ← hm]
    exact ho
  obtain ⟨vs, g1, g2, g3⟩ := hr'.read (k.get h1) hl
  refine ⟨fun i e => ⟨vs, g1, by rw [g3.length, e]; exact Nat.le_refl _⟩, fun i d e => ?_⟩
  obtain ⟨v, e1, r1⟩ := g3.get e
  refine ⟨⟨vs, v, g1, e1⟩, fun x H2 ⟨e2, y⟩ => ?_⟩
  subst e2
  have e3 := y vs g1
  rw [e1] at e3
  cases e3
  exact ⟨Kp.refl, hr', r1⟩
theorem rngL_get {lo : Int} {n : Nat} {c : Int} {i : Nat} {d : D} (h : (rngL lo n c)[i]? = some d) : i < n ∧ d = .int (lo + (i : Int) * c) := by
  unfold rngL at h
  rw [List.getElem?_map] at h
  by_cases hi : i < n
  · rw [List.getElem?_range hi] at h
    cases h
    exact ⟨hi, rfl⟩
  · rw [List.getElem?_eq_none (by simpa using hi)] at h
    cases h
theorem rngL_len {lo : Int} {n : Nat} {c : Int} : (rngL lo n c).length = n := by simp [rngL]
theorem walks_rng {as : List Addr} {H : Hp} {lo : Int} {n : Nat} : Walks X (Itr lo n) ⟨rngL lo n 1, []⟩ as H := fun as' m' H' k hr' _ =>
  ⟨fun i e => by rw [e]; show n ≤ (rngL lo n 1).length; rw [rngL_len]; exact Nat.le_refl _, fun i d e => by
    obtain ⟨h1, rfl⟩ := rngL_get e
    refine ⟨h1, fun x H2 ⟨e2, e3⟩ => ?_⟩
    subst e2 e3
    exact ⟨Kp.refl, hr', by rw [Int.mul_one]; exact .int _⟩⟩
theorem walks_rng3 {as : List Addr} {H : Hp} {lo c : Int} {n : Nat} : Walks X (Itc lo c n) ⟨rngL lo n c, []⟩ as H := fun as' m' H' k hr' _ =>
  ⟨fun i e => by rw [e]; show n ≤ (rngL lo n c).length; rw [rngL_len]; exact Nat.le_refl _, fun i d e => by
    obtain ⟨h1, rfl⟩ := rngL_get e
    refine ⟨h1, fun x H2 ⟨e2, e3⟩ => ?_⟩
    subst e2 e3
    exact ⟨Kp.refl, hr', .int _⟩⟩
theorem walks_str {as : List Addr} {H : Hp} {z : Str} : Walks X (Its z) ⟨z.cps.toList.map fun c => .str ⟨#[c]⟩, []⟩ as H := fun as' m' H' k hr' _ =>
  ⟨fun i e => by rw [e]; show z.cps.size ≤ _; simp, fun i d e => by
    rw [List.getElem?_map] at e
    obtain ⟨c, e1, rfl⟩ := Option.map_eq_some_iff.mp e
    have e1' : z.cps[i]? = some c := by rw [← Array.getElem?_toList]; exact e1
    refine ⟨(Array.getElem?_eq_some_iff.mp e1').1, fun x H2 ⟨e2, c', e3, e4⟩ => ?_⟩
    rw [e1'] at e3
    cases e3
    subst e2 e4
    exact ⟨Kp.refl, hr', .str _⟩⟩
theorem srcOf_ok {pins : List (Addr × Obj)} {s : Shared} {σ : L2.St} {H : Hp} {as : List Addr} {m : Mu} {x : V} {v : Value} {d : D} {R : It → Hp → Prop} {E : XK} {tg : Expr} (I : Inv X pins σ H s) (hr : HRep X.prog X.w X.K as m H) (rv : RelV x v) (rx : Rep X.K H as x d)
    (h : Vg X.prog X.w X.K X.mg (RI X) as H (srcOf d m) R E) : wpAny (model X.prog X.w) X.A (pyIter v) (PIE X pins σ tg R) X.xe s := by
  cases rx with
  | @tup a xs ds h1 h2 h3 =>
    cases rv
    exact it_tup I h1 (h _ _ _ Kp.refl hr ⟨by show ds.length ≤ _; rw [← h3.length]; exact h2, walks_tup hr h1 h3⟩)
  | str z =>
    obtain ⟨t, rfl⟩ := rv
    obtain ⟨c, h⟩ := Vg.chk h
    have q := Vg.ret (b := Its z) h hr ⟨by show (z.cps.toList.map fun c => D.str ⟨#[c]⟩).length ≤ _; simpa [Str.length] using c, walks_str⟩
    cases ha : z.cps.all (· < 128)
    · exact wpAny_pyIter_wide ha (pi_one (tk := s.toks) I _ (turn_str _ z t "str_iterator" (.inr rfl)) ⟨_, Heap.get?_push_size _ rfl, rfl, rfl⟩ q)
    · exact wpAny_pyIter_ascii ha (pi_one (tk := s.toks) I _ (turn_str _ z t "str_ascii_iterator" (.inl rfl)) ⟨_, Heap.get?_push_size _ rfl, rfl, rfl⟩ q)
  | @ref a n h1 =>
    cases rv
    have h : Vg X.prog X.w X.K X.mg (RI X) as H (match m[n]? with
      | some (.lst xs) => .ok ⟨xs, [(n, .lst xs)]⟩ m
      | some (.fls xs) => .ok ⟨xs, [(n, .fls xs)]⟩ m
      | _ => .bad) R E := h
    split at h
    · rename_i xs e1
      have hl : lstAt m n = some xs := by unfold lstAt; rw [e1]
      obtain ⟨vs, g1, g2, g3⟩ := hr.read h1 hl
      exact it_list I g1 (h _ _ _ Kp.refl hr ⟨by show xs.length ≤ _; rw [← g3.length]; exact g2, walks_lst h1 hl e1⟩)
    · rename_i xs e1
      have hl : lstAt m n = some xs := by unfold lstAt; rw [e1]
      obtain ⟨vs, g1, g2, g3⟩ := hr.read h1 hl
      exact it_list I g1 (h _ _ _ Kp.refl hr ⟨by show xs.length ≤ _; rw [← g3.length]; exact g2, walks_lst h1 hl e1⟩)
    · exact False.elim h
  | _ => exact False.elim h
theorem i_exp {tg : Expr} (he : PE X e (tE X W fa)) : PI X tg e (tI X W fun ρ => bd (fa ρ) srcOf) := by
  refine ⟨fun pins s σ H R I ⟨as, m, ρ, sl, hr, v⟩ => ?_⟩
  exact thn (he.run pins s σ H _ I (tE_bd sl hr v)) fun u s1 ⟨x, H1, I1, r1, as1, m1, dx, sl1, hr1, k1, rx, v1⟩ => srcOf_ok I1 hr1 r1 rx v1
theorem i_rng1 {tg : Expr} {p : Pos} (hg : Gl X "range") (hm : X.mg "range" = none) (ha : PE X a (tE X W fa)) (hs : starEach [a] X.env = [(false, eval a X.env)]) : PI X tg (.Call (.Name "range" p) [a] [] pos) (tI X W fun ρ => bd (fa ρ) fun x => srcR2 (.int 0) x) := by
  have h := pi_range1 (X := X) (tg := tg) (p := p) (pos := pos) hg hm (pa_cons ha pa_nil hs) hs
  refine ⟨fun pins s σ H R I ⟨as, m, ρ, sl, hr, v⟩ => h.run pins s σ H R I ?_⟩
  refine tE_mono (tE_bd sl hr v) fun x H1 ⟨as1, m1, dx, sl1, hr1, k1, rx, v1⟩ => ?_
  cases rx with
  | int i =>
    obtain ⟨⟨⟨c1, c2⟩, c3, c4⟩, v2⟩ := Vg.chk v1
    have z := Vg.ret (b := Itr 0 (i - 0).toNat) v2 hr1 ⟨by show (rngL 0 (i - 0).toNat 1).length ≤ _; rw [rngL_len, sizeLine_eq]; omega, walks_rng⟩
    rw [Int.sub_zero] at z
    exact ⟨i, rfl, by omega, by omega, z⟩
  | _ => exact False.elim v1
theorem i_rng2 {tg : Expr} {p : Pos} (hg : Gl X "range") (hm : X.mg "range" = none) (ha : PE X a (tE X W fa)) (hb : PE X b (tE X W fb)) (hs : starEach [a, b] X.env = [(false, eval a X.env), (false, eval b X.env)]) (hs2 : starEach [b] X.env = [(false, eval b X.env)]) :
    PI X tg (.Call (.Name "range" p) [a, b] [] pos) (tI X W fun ρ => bd (fa ρ) fun x => bd (fb ρ) fun y => srcR2 x y) := by
  have h := pi_range2 (X := X) (tg := tg) (p := p) (pos := pos) hg hm (pa_cons ha (pa_cons hb pa_nil hs2) (by rw [hs, hs2])) hs hs2
  refine ⟨fun pins s σ H R I ⟨as, m, ρ, sl, hr, v⟩ => h.run pins s σ H R I ?_⟩
  refine tE_mono (tE_bd sl hr v) fun x H1 ⟨as1, m1, dx, sl1, hr1, k1, rx, v1⟩ => ?_
  refine tE_mono (tE_bd sl1 hr1 v1) fun y H2 ⟨as2, m2, dy, sl2, hr2, k2, ry, v2⟩ => ?_
  cases rx with
  | int i =>
    cases ry with
    | int j =>
      obtain ⟨⟨⟨c1, c2⟩, c3, c4⟩, v3⟩ := Vg.chk v2
      have z := Vg.ret (b := Itr i (j - i).toNat) v3 hr2 ⟨by show (rngL i (j - i).toNat 1).length ≤ _; rw [rngL_len, sizeLine_eq]; omega, walks_rng⟩
      exact ⟨i, j, rfl, ⟨by omega, by omega, by omega, by omega⟩, z⟩
    | _ => exact False.elim v2
  | _ => cases ry <;> exact False.elim v2
theorem i_rng3 {tg : Expr} {p : Pos} (hg : Gl X "range") (hm : X.mg "range" = none) (ha : PE X a (tE X W fa)) (hb : PE X b (tE X W fb)) (hc : PE X c (tE X W fc)) (hs : starEach [a, b, c] X.env = [(false, eval a X.env), (false, eval b X.env), (false, eval c X.env)]) (hs2 : starEach [b, c] X.env = [(false, eval b X.env), (false, eval c X.env)]) (hs3 : starEach [c] X.env = [(false, eval c X.env)]) :
    PI X tg (.Call (.Name "range" p) [a, b, c] [] pos) (tI X W fun ρ => bd (fa ρ) fun x => bd (fb ρ) fun y => bd (fc ρ) fun z => srcR3 x y z) := by
  have h := pi_range3 (X := X) (tg := tg) (p := p) (pos := pos) hg hm (pa_cons ha (pa_cons hb (pa_cons hc pa_nil hs3) (by rw [hs2, hs3])) (by rw [hs, hs2])) (by rw [hs, hs2]) (by rw [hs2]; rfl)
  refine ⟨fun pins s σ H R I ⟨as, m, ρ, sl, hr, v⟩ => h.run pins s σ H R I ?_⟩
  refine tE_mono (tE_bd sl hr v) fun x H1 ⟨as1, m1, dx, sl1, hr1, k1, rx, v1⟩ => ?_
  refine tE_mono (tE_bd sl1 hr1 v1) fun y H2 ⟨as2, m2, dy, sl2, hr2, k2, ry, v2⟩ => ?_
  refine tE_mono (tE_bd sl2 hr2 v2) fun z H3 ⟨as3, m3, dz, sl3, hr3, k3, rz, v3⟩ => ?_
  cases rx with
  | int i =>
    cases ry with
    | int j =>
      cases rz with
      | int k =>
        obtain ⟨⟨⟨c1, c2⟩, ⟨c3, c4⟩, c5, ⟨c6, c7⟩, c8, c9, c10⟩, v4⟩ := Vg.chk v3
        exact ⟨i, j, k, _, rfl, ⟨c5, by omega, c8, c9⟩, Vg.ret v4 hr3 ⟨by show (rngL i _ k).length ≤ _; rw [rngL_len]; exact c10, walks_rng3⟩⟩
      | _ => exact False.elim v3
    | _ => cases rz <;> exact False.elim v3
  | _ => cases ry <;> cases rz <;> exact False.elim v3
theorem i_revR {tg : Expr} {p q : Pos} {pos' : Pos} (hg0 : Gl X "reversed") (hm0 : X.mg "reversed" = none) (hg : Gl X "range") (hm : X.mg "range" = none) (ha : PE X a (tE X W fa)) (hs : starEach [a] X.env = (false, eval a X.env) :: starEach [] X.env) :
    PI X tg (.Call (.Name "reversed" p) [.Call (.Name "range" q) [a] [] pos'] [] pos) (tI X W fun ρ => bd (fa ρ) srcRv) := by
  have h := pi_revR (X := X) (tg := tg) (p := p) (pos := pos) hg0 hm0 (prg_1 (p := q) (pos := pos') hg hm ha hs)
  refine ⟨fun pins s σ H R I ⟨as, m, ρ, sl, hr, v⟩ => h.run pins s σ H R I ?_⟩
  refine tE_mono (tE_bd sl hr v) fun x H1 ⟨as1, m1, dx, sl1, hr1, k1, rx, v1⟩ => ?_
  cases rx with
  | int i =>
    obtain ⟨⟨c1, c2⟩, v2⟩ := Vg.chk v1
    refine ⟨i, rfl, by omega, by omega, by omega, by omega, ?_⟩
    have z := Vg.ret (b := Itc (i - 1) (-1) i.toNat) v2 hr1 ⟨by show (rngL (i - 1) i.toNat (-1)).length ≤ _; rw [rngL_len, sizeLine_eq]; omega, walks_rng3⟩
    by_cases c : 0 ≤ i
    · rw [show (0 : Int) + (((i - 0).toNat : Nat) : Int) - 1 = i - 1 by omega, Int.sub_zero]
      exact z
    · have e : i.toNat = 0 := by omega
      rw [Int.sub_zero, e]
      rw [e] at v2
      exact Vg.ret (b := Itc (0 + ((0 : Nat) : Int) - 1) (-1) 0) v2 hr1 ⟨by show (rngL (i - 1) 0 (-1)).length ≤ _; rw [rngL_len, sizeLine_eq]; omega, fun as' m' H' k hr' _ => ⟨fun j e => by show 0 ≤ _; exact Nat.zero_le _, fun j d e => by cases (show ([] : List D)[j]? = some d from e)⟩⟩
  | _ => exact False.elim v1
theorem i_enum {p tpos : Pos} {elts : List Expr} {kk : Nat} (hg : Gl X "enumerate") (hm : X.mg "enumerate" = none) (ha : PE X a (tE X W fa)) (hs : starEach [a] X.env = [(false, eval a X.env)]) :
    PI X (.Tuple elts kk tpos) (.Call (.Name "enumerate" p) [a] [] pos) (tI X W fun ρ => bd (fa ρ) fun x => bd (srcS x) fun s => ret ⟨enumL 0 s.items, s.at_⟩) := by
  have h := pi_enumA (X := X) (elts := elts) (kk := kk) (tpos := tpos) (p := p) (pos := pos) hg hm (pa_cons ha pa_nil hs) hs
  refine ⟨fun pins s σ H R I ⟨as, m, ρ, sl, hr, v⟩ => h.run pins s σ H R I ?_⟩
  refine tE_mono (tE_bd sl hr v) fun x H1 ⟨as1, m1, dx, sl1, hr1, k1, rx, v1⟩ => ?_
  have el : ∀ (xs : List D) (k : Nat), (enumL k xs).length = xs.length := by
    intro xs
    induction xs with
    | nil => intro k; rfl
    | cons x xs ih => intro k; simp [enumL, ih]
  have eg : ∀ (xs : List D) (k i : Nat) (d : D), (enumL k xs)[i]? = some d → ∃ y, xs[i]? = some y ∧ d = .tup [.int ((k + i : Nat) : Int), y] := by
    intro xs
    induction xs with
    | nil => intro k i d h; simp [enumL] at h
    | cons x xs ih =>
      intro k i d h
      cases i with
      | zero =>
        simp [enumL] at h
        exact ⟨x, rfl, h.symm⟩
      | succ i =>
        obtain ⟨y, h1, h2⟩ := ih (k + 1) i d (by simpa [enumL] using h)
        exact ⟨y, by simpa using h1, by rw [h2, show k + 1 + i = k + (i + 1) by omega]⟩
  cases rx with
  | @ref a n h1 =>
    have go : ∀ (o : O) (xs : List D), m1[n]? = some o → lstAt m1 n = some xs → Vg X.prog X.w X.K X.mg (RI X) as1 H1 (Af.ret (⟨enumL 0 xs, [(n, o)]⟩ : Src) m1) R (fun c d H' => W c d σ H') → ∃ a' ws, [V.ref a] = [.ref a'] ∧ ((SqL X.K H1 a' ws ∧ R (Ite X.K a') H1) ∨ (SqT X.K H1 a' ws ∧ R (IteT X.K a') H1)) := fun o xs e1 hl v2 => by
      obtain ⟨vs, g1, g2, g3⟩ := hr1.read h1 hl
      refine ⟨a, vs, rfl, .inl ⟨g1, Vg.ret v2 hr1 ⟨by show (enumL 0 xs).length ≤ _; rw [el, ← g3.length]; exact g2, fun as' m' H' k hr' st => ?_⟩⟩⟩
      have st : m'[n]? = some o := st
      have hl' : lstAt m' n = some xs := by
        unfold lstAt at hl ⊢
        rw [st, ← e1]
        exact hl
      obtain ⟨ws, f1, f2, f3⟩ := hr'.read (k.get h1) hl'
      refine ⟨fun i e => ⟨ws, f1, by rw [e, f3.length]; show xs.length ≤ (enumL 0 xs).length; rw [el]; exact Nat.le_refl _⟩, fun i d e => ?_⟩
      obtain ⟨y, e2, rfl⟩ := eg xs 0 i d e
      obtain ⟨w, e3, r3⟩ := f3.get e2
      refine ⟨⟨ws, w, f1, e3⟩, fun x H2 ⟨T, z, e4, e5, e6, e7⟩ => ?_⟩
      have e8 := e7 ws f1
      rw [e3] at e8
      cases e8
      subst e4 e6
      obtain ⟨kp, hr2⟩ := hr'.tup (xs := [V.int (i : Nat), w]) e5
      exact ⟨kp, hr2, .tup (SqT.of upd_same) (by show 2 ≤ sizeLine; decide) (.cons (by rw [Nat.zero_add]; exact .int _) (.cons (r3.mono hr' kp) .nil))⟩
    have v1 : Vg X.prog X.w X.K X.mg (RI X) as1 H1 (bd (fun m => (match m[n]? with
      | some (.lst xs) => .ok ⟨xs, [(n, .lst xs)]⟩ m
      | some (.fls xs) => .ok ⟨xs, [(n, .fls xs)]⟩ m
      | _ => .bad : Res Src)) (fun s => Af.ret (⟨enumL 0 s.items, s.at_⟩ : Src)) m1) R (fun c d H' => W c d σ H') := v1
    unfold Af.bd at v1
    split at v1
    · rename_i s m' e
      dsimp only at e
      split at e
      · rename_i xs e1
        cases e
        exact go _ xs e1 (by unfold lstAt; rw [e1]) v1
      · rename_i xs e1
        cases e
        exact go _ xs e1 (by unfold lstAt; rw [e1]) v1
      · cases e
    · rename_i e
      dsimp only at e
      split at e <;> cases e
    · exact False.elim v1
  | @tup a vs xs g1 g2 g3 =>
    have v2 : Vg X.prog X.w X.K X.mg (RI X) as1 H1 (Af.ret (⟨enumL 0 xs, []⟩ : Src) m1) R (fun c d H' => W c d σ H') := v1
    refine ⟨a, vs, rfl, .inr ⟨g1, Vg.ret v2 hr1 ⟨by show (enumL 0 xs).length ≤ _; rw [el, ← g3.length]; exact g2, fun as' m' H' k hr' st => ?_⟩⟩⟩
    have f1 : SqT X.K H' a vs := SqT.mono hr1 k g1
    refine ⟨fun i e => ⟨vs, f1, by rw [e, g3.length]; show xs.length = (enumL 0 xs).length; rw [el]⟩, fun i d e => ?_⟩
    obtain ⟨y, e2, rfl⟩ := eg xs 0 i d e
    obtain ⟨w, e3, r3⟩ := g3.get e2
    refine ⟨⟨vs, w, f1, e3⟩, fun x H2 ⟨T, z, e4, e5, e6, e7⟩ => ?_⟩
    have e8 := e7 vs f1
    rw [e3] at e8
    cases e8
    subst e4 e6
    obtain ⟨kp, hr2⟩ := hr'.tup (xs := [V.int (i : Nat), w]) e5
    exact ⟨kp, hr2, .tup (SqT.of upd_same) (by show 2 ≤ sizeLine; decide) (.cons (by rw [Nat.zero_add]; exact .int _) (.cons ((r3.mono hr1 k).mono hr' kp) .nil))⟩
  | _ => exact False.elim v1
theorem srcL_inv {α β : Type} {R : List Addr → Hp → β → α → Prop} {f : Src → M α} {as : List Addr} {H : Hp} {m : Mu} {d : D} {Q : β → Hp → Prop} {E : XK} (v : Vg X.prog X.w X.K X.mg R as H (bd (srcL d) f m) Q E) :
    ∃ n o xs, d = .ref n ∧ m[n]? = some o ∧ lstAt m n = some xs ∧ Vg X.prog X.w X.K X.mg R as H (f ⟨xs, [(n, o)]⟩ m) Q E := by
  cases d with
  | ref n =>
    have v1 : Vg X.prog X.w X.K X.mg R as H (bd (fun m => (match m[n]? with
      | some (.lst xs) => .ok ⟨xs, [(n, .lst xs)]⟩ m
      | some (.fls xs) => .ok ⟨xs, [(n, .fls xs)]⟩ m
      | _ => .bad : Res Src)) f m) Q E := v
    unfold Af.bd at v1
    split at v1
    · rename_i s m' e
      dsimp only at e
      split at e
      · rename_i xs e1
        cases e
        exact ⟨n, _, xs, rfl, e1, by unfold lstAt; rw [e1], v1⟩
      · rename_i xs e1
        cases e
        exact ⟨n, _, xs, rfl, e1, by unfold lstAt; rw [e1], v1⟩
      · cases e
    · rename_i e
      dsimp only at e
      split at e <;> cases e
    · exact False.elim v1
  | _ => exact False.elim v
theorem zipL_get : ∀ {xs ys : List D} {i : Nat} {d : D}, (zipL xs ys)[i]? = some d → ∃ x y, xs[i]? = some x ∧ ys[i]? = some y ∧ d = .tup [x, y]
  | [], _, i, d, h => by simp [zipL] at h
  | _ :: _, [], i, d, h => by simp [zipL] at h
  | x :: xs, y :: ys, 0, d, h => by
    simp [zipL] at h
    exact ⟨x, y, rfl, rfl, h.symm⟩
  | x :: xs, y :: ys, i + 1, d, h => by
    obtain ⟨x', y', h1, h2, h3⟩ := zipL_get (xs := xs) (ys := ys) (i := i) (d := d) (by simpa [zipL] using h)
    exact ⟨x', y', by simpa using h1, by simpa using h2, h3⟩
theorem zipL_len {xs ys : List D} (h : xs.length = ys.length) : (zipL xs ys).length = xs.length := by
  unfold zipL
  rw [List.length_zipWith, h, Nat.min_self]
theorem i_zip {p tpos : Pos} {elts : List Expr} {kk : Nat} (hg : Gl X "zip") (hm : X.mg "zip" = none) (ha : PE X a (tE X W fa)) (hb : PE X b (tE X W fb)) (hs : starEach [a, b] X.env = [(false, eval a X.env), (false, eval b X.env)]) (hs2 : starEach [b] X.env = [(false, eval b X.env)]) :
    PI X (.Tuple elts kk tpos) (.Call (.Name "zip" p) [a, b] [] pos) (tI X W fun ρ => bd (fa ρ) fun x => bd (fb ρ) fun y => bd (srcL x) fun s => bd (srcL y) fun u => chk (s.items.length = u.items.length) (ret ⟨zipL s.items u.items, s.at_ ++ u.at_⟩)) := by
  have h := RZ.pi_zipA (X := X) (elts := elts) (kk := kk) (tpos := tpos) (p := p) (pos := pos) hg hm (pa_cons ha (pa_cons hb pa_nil hs2) (by rw [hs, hs2])) (by rw [hs, hs2]) (by rw [hs2]; rfl)
  refine ⟨fun pins s σ H R I ⟨as, m, ρ, sl, hr, v⟩ => h.run pins s σ H R I ?_⟩
  refine tE_mono (tE_bd sl hr v) fun x H1 ⟨as1, m1, dx, sl1, hr1, k1, rx, v1⟩ => ?_
  refine tE_mono (tE_bd sl1 hr1 v1) fun y H2 ⟨as2, m2, dy, sl2, hr2, k2, ry, v2⟩ => ?_
  obtain ⟨n, o, xs, rfl, e1, l1, v3⟩ := srcL_inv v2
  obtain ⟨n', o', ys, rfl, e2, l2, v4⟩ := srcL_inv v3
  obtain ⟨hl, v5⟩ := Vg.chk v4
  have hl : xs.length = ys.length := hl
  have rx := rx.mono hr1 k2
  cases rx with
  | @ref p1 _ q1 =>
    cases ry with
    | @ref p2 _ q2 =>
      obtain ⟨vs, g1, g2, g3⟩ := hr2.read q1 l1
      obtain ⟨ws, f1, f2, f3⟩ := hr2.read q2 l2
      refine ⟨p1, p2, vs, ws, rfl, .inl ⟨g1, f1, Vg.ret v5 hr2 ⟨by show (zipL xs ys).length ≤ _; rw [zipL_len hl, ← g3.length]; exact g2, fun as' m' H' k hr' st => ?_⟩⟩⟩
      have st : m'[n]? = some o ∧ m'[n']? = some o' := st
      have hl1 : lstAt m' n = some xs := by
        unfold lstAt at l1 ⊢
        rw [st.1, ← e1]
        exact l1
      have hl2 : lstAt m' n' = some ys := by
        unfold lstAt at l2 ⊢
        rw [st.2, ← e2]
        exact l2
      obtain ⟨vs', g1', g2', g3'⟩ := hr'.read (k.get q1) hl1
      obtain ⟨ws', f1', f2', f3'⟩ := hr'.read (k.get q2) hl2
      refine ⟨fun i e => ⟨vs', ws', g1', f1', .inl (by rw [e, g3'.length]; show xs.length ≤ (zipL xs ys).length; rw [zipL_len hl]; exact Nat.le_refl _)⟩, fun i d e => ?_⟩
      obtain ⟨d1, d2, z1, z2, rfl⟩ := zipL_get e
      obtain ⟨u1, a1, r1⟩ := g3'.get z1
      obtain ⟨u2, a2, r2⟩ := f3'.get z2
      refine ⟨⟨vs', ws', u1, u2, g1', f1', a1, a2⟩, fun x H2 ⟨T, z, z', e4, e5, e6, e7, e8⟩ => ?_⟩
      have e9 := e7 vs' g1'
      have e10 := e8 ws' f1'
      rw [a1] at e9
      rw [a2] at e10
      cases e9
      cases e10
      subst e4 e6
      obtain ⟨kp, hr2⟩ := hr'.tup (xs := [u1, u2]) e5
      exact ⟨kp, hr2, .tup (SqT.of upd_same) (by show 2 ≤ sizeLine; decide) (.cons (r1.mono hr' kp) (.cons (r2.mono hr' kp) .nil))⟩
theorem i_rev {tg : Expr} {p : Pos} (hg : Gl X "reversed") (hm : X.mg "reversed" = none) (ha : PE X a (tE X W fa)) (hs : starEach [a] X.env = (false, eval a X.env) :: starEach [] X.env) :
    PI X tg (.Call (.Name "reversed" p) [a] [] pos) (tI X W fun ρ => bd (fa ρ) fun x => bd (srcS x) fun s => ret ⟨s.items.reverse, s.at_⟩) := by
  have h := RT.pi_revA (X := X) (tg := tg) (p := p) (pos := pos) hg hm ha hs
  refine ⟨fun pins s σ H R I ⟨as, m, ρ, sl, hr, v⟩ => h.run pins s σ H R I ?_⟩
  refine tE_mono (tE_bd sl hr v) fun x H1 ⟨as1, m1, dx, sl1, hr1, k1, rx, v1⟩ => ?_
  have rget : ∀ {α : Type} {xs : List α} {i : Nat} {d : α}, xs.reverse[i]? = some d → i < xs.length ∧ xs[xs.length - 1 - i]? = some d := by
    intro α xs i d e
    have hi : i < xs.length := by simpa using get_lt e
    rw [List.getElem?_reverse hi] at e
    exact ⟨hi, e⟩
  cases rx with
  | @tup a xs ds h1 h2 h3 =>
    refine ⟨a, xs, rfl, .inr ⟨h1, Vg.ret (a := (⟨ds.reverse, []⟩ : Src)) v1 hr1 ⟨by show ds.reverse.length ≤ _; rw [List.length_reverse, ← h3.length]; exact h2, fun as' m' H' k hr' _ => ?_⟩⟩⟩
    refine ⟨fun i e => by rw [e, h3.length]; show ds.length ≤ ds.reverse.length; simp, fun i d e => ?_⟩
    obtain ⟨hi, e1⟩ := rget e
    obtain ⟨w, e2, r2⟩ := h3.get e1
    rw [← h3.length] at e2 hi
    refine ⟨⟨hi, xs, w, SqT.mono hr1 k h1, e2⟩, fun x H2 ⟨e3, y⟩ => ?_⟩
    subst e3
    have e4 := y xs (SqT.mono hr1 k h1)
    rw [e2] at e4
    cases e4
    exact ⟨Kp.refl, hr', r2.mono hr1 k⟩
  | @ref a n h1 =>
    have go : ∀ (o : O) (xs : List D), m1[n]? = some o → lstAt m1 n = some xs → Vg X.prog X.w X.K X.mg (RI X) as1 H1 (Af.ret (⟨xs.reverse, [(n, o)]⟩ : Src) m1) R (fun c d H' => W c d σ H') → ∃ (a' : Addr) (ws : List V), V.ref a = .ref a' ∧ ((SqL X.K H1 a' ws ∧ R (Itv X.K a' ws.length) H1) ∨ (SqT X.K H1 a' ws ∧ R (RT.ItvT X.K a' ws.length) H1)) := fun o xs e1 hl v2 => by
      obtain ⟨vs, g1, g2, g3⟩ := hr1.read h1 hl
      refine ⟨a, vs, rfl, .inl ⟨g1, Vg.ret v2 hr1 ⟨by show xs.reverse.length ≤ _; rw [List.length_reverse, ← g3.length]; exact g2, fun as' m' H' k hr' st => ?_⟩⟩⟩
      have st : m'[n]? = some o := st
      have hl' : lstAt m' n = some xs := by
        unfold lstAt at hl ⊢
        rw [st, ← e1]
        exact hl
      obtain ⟨ws, f1, f2, f3⟩ := hr'.read (k.get h1) hl'
      refine ⟨fun i e => by rw [e, g3.length]; show xs.length ≤ xs.reverse.length; simp, fun i d e => ?_⟩
      obtain ⟨hi, e2⟩ := rget e
      obtain ⟨w, e3, r3⟩ := f3.get e2
      rw [← g3.length] at e3 hi
      refine ⟨⟨hi, ws, w, f1, e3⟩, fun x H2 ⟨e4, y⟩ => ?_⟩
      subst e4
      have e5 := y ws f1
      rw [e3] at e5
      cases e5
      exact ⟨Kp.refl, hr', r3⟩
    have v1 : Vg X.prog X.w X.K X.mg (RI X) as1 H1 (bd (fun m => (match m[n]? with
      | some (.lst xs) => .ok ⟨xs, [(n, .lst xs)]⟩ m
      | some (.fls xs) => .ok ⟨xs, [(n, .fls xs)]⟩ m
      | _ => .bad : Res Src)) (fun s => Af.ret (⟨s.items.reverse, s.at_⟩ : Src)) m1) R (fun c d H' => W c d σ H') := v1
    unfold Af.bd at v1
    split at v1
    · rename_i s m' e
      dsimp only at e
      split at e
      · rename_i xs e1
        cases e
        exact go _ xs e1 (by unfold lstAt; rw [e1]) v1
      · rename_i xs e1
        cases e
        exact go _ xs e1 (by unfold lstAt; rw [e1]) v1
      · cases e
    · rename_i e
      dsimp only at e
      split at e <;> cases e
    · exact False.elim v1
  | _ => exact False.elim v1
def T.is : T → List Nat
  | .one i => [i]
  | .many is => is
def OnlyAt (σ σ' : L2.St) (is : List Nat) : Prop := ∀ own : List Nat, (∀ i ∈ is, i ∈ own) → wipe σ' own = wipe σ own
theorem wipe_set {σ : L2.St} {i : Nat} {x : Option V} : ∀ {own : List Nat}, i ∈ own → wipe (σ.set i x) own = wipe σ own
  | v :: vs, h => by
    unfold wipe
    by_cases hv : i ∈ vs
    · rw [wipe_set hv]
    · have e : i = v := by simpa [hv] using h
      subst e
      have z : ∀ (vs : List Nat) (σ : L2.St), i ∉ vs → (wipe (σ.set i x) vs).set i none = (wipe σ vs).set i none := by
        intro vs
        induction vs with
        | nil => intro σ _; simp [wipe]
        | cons u us ih =>
          intro σ h
          have hu : i ≠ u := fun e => h (by rw [e]; exact List.mem_cons_self)
          unfold wipe
          rw [List.set_comm _ _ (Ne.symm hu), ih σ (fun q => h (List.mem_cons_of_mem _ q)), List.set_comm _ _ hu]
      exact z vs σ hv
def tG (X : Cx) (t : T) : TG := fun v σ H Q => ∃ as m ρ d ρ', Sl X.K H as σ ρ ∧ HRep X.prog X.w X.K as m H ∧ Rep X.K H as v d ∧ asg t d ρ = some ρ' ∧ ∀ σ', Sl X.K H as σ' ρ' → OnlyAt σ σ' t.is → Q σ' H
theorem g_one {x : Str} {i : Nat} (hN : X.N.Nodup) (hi : X.N[i]? = some x) (hx : Loc X.env.scope x) (hf : X.fn x = true ∨ X.env.scope.names.lookup x = some .local) : PG X (.Name x pos) (tG X (.one i)) := by
  refine ⟨fun pins s σ H v u Q I r ⟨as, m, ρ, d, ρ', sl, hr, rv, e, h⟩ => (pg_name (pos := pos) hN hi hx hf).run pins s σ H v u Q I r ?_⟩
  cases e
  exact h _ (sl.set rv i) fun own ho => wipe_set (ho i List.mem_cons_self)
def gNames : List Nat → TGs := fun is vs σ H Q => vs.length = is.length ∧ Q ((is.zip vs).foldl (fun σ p => σ.set p.1 (some p.2)) σ) H
theorem gs_names : ∀ {es : List Expr} {is : List Nat} (hN : X.N.Nodup), (h : Paired (fun e i => ∃ x pos, e = Expr.Name x pos ∧ X.N[i]? = some x ∧ Loc X.env.scope x ∧ (X.fn x = true ∨ X.env.scope.names.lookup x = some .local)) es is) → PGs X es (gNames is)
  | [], [], _, _ => ⟨fun pins s σ H vs us Q I r ⟨e, h⟩ => pgs_nil.run pins s σ H vs us Q I r ⟨List.eq_nil_of_length_eq_zero e, by
      have e' : vs = [] := List.eq_nil_of_length_eq_zero e
      subst e'
      exact h⟩⟩
  | _ :: es, i :: is, hN, .cons ⟨x, pos, e, h1, h2, h3⟩ t => by
    subst e
    refine ⟨fun pins s σ H vs us Q I r ⟨e, h⟩ => (pgs_cons (pg_name (pos := pos) hN h1 h2 h3) (gs_names hN t) rfl).run pins s σ H vs us Q I r ?_⟩
    cases vs with
    | nil => simp at e
    | cons v vs => exact ⟨v, vs, rfl, by simpa using e, h⟩
theorem fold_sl {K : PySem.W.Frag} {H : Hp} {as : List Addr} : ∀ {is : List Nat} {vs : List V} {ds : List D} {σ : L2.St} {ρ : Env}, Reps K H as vs ds → Sl K H as σ ρ → Sl K H as ((is.zip vs).foldl (fun σ p => σ.set p.1 (some p.2)) σ) ((is.zip ds).foldl (fun ρ p => ρ.set p.1 (some p.2)) ρ)
  | [], _, _, _, _, _, s => by simpa using s
  | i :: is, [], _, _, _, r, s => by cases r; simpa using s
  | i :: is, v :: vs, _, _, _, r, s => by
    cases r with
    | cons r1 r2 => simpa using fold_sl r2 (s.set r1 i)
theorem fold_only : ∀ {is : List Nat} {vs : List V} {σ : L2.St}, OnlyAt σ ((is.zip vs).foldl (fun σ p => σ.set p.1 (some p.2)) σ) is
  | [], vs, σ => fun own _ => by simp
  | i :: is, [], σ => fun own _ => by simp
  | i :: is, v :: vs, σ => fun own h => by
    have z := fold_only (is := is) (vs := vs) (σ := σ.set i (some v)) own fun j hj => h j (List.mem_cons_of_mem _ hj)
    simp only [List.zip_cons_cons, List.foldl_cons]
    rw [z]
    exact wipe_set (h i List.mem_cons_self)
theorem ae_names : ∀ {es : List Expr} {is : List Nat}, Paired (fun e i => ∃ x pos, e = Expr.Name x pos ∧ X.N[i]? = some x ∧ Loc X.env.scope x ∧ (X.fn x = true ∨ X.env.scope.names.lookup x = some .local)) es is → (assignEach es X.env).length = is.length ∧ (assignEach es X.env).findIdx? (·.1) = none
  | [], [], _ => ⟨rfl, rfl⟩
  | _ :: es, i :: is, .cons ⟨x, pos, e, _⟩ t => by
    subst e
    obtain ⟨h1, h2⟩ := ae_names t
    refine ⟨?_, ?_⟩
    · show (assignEach es X.env).length + 1 = is.length + 1
      rw [h1]
    · show List.findIdx? (·.1) ((false, _) :: assignEach es X.env) = none
      rw [List.findIdx?_cons, h2]
      rfl
theorem g_many {es : List Expr} {is : List Nat} {k : Nat} (hc : X.calm = true) (hN : X.N.Nodup) (h : Paired (fun e i => ∃ x pos, e = Expr.Name x pos ∧ X.N[i]? = some x ∧ Loc X.env.scope x ∧ (X.fn x = true ∨ X.env.scope.names.lookup x = some .local)) es is) : PG X (.Tuple es k pos) (tG X (.many is)) := by
  obtain ⟨h1, h2⟩ := ae_names h
  refine ⟨fun pins s σ H v u Q I r ⟨as, m, ρ, d, ρ', sl, hr, rv, e, q⟩ => (pg_tup (pos := pos) (k := k) hc (gs_names hN h) h1 h2).run pins s σ H v u Q I r ?_⟩
  cases rv with
  | @tup a xs ds g1 g2 g3 =>
    have e : (if ds.length = is.length then some ((is.zip ds).foldl (fun ρ p => ρ.set p.1 (some p.2)) ρ) else none) = some ρ' := e
    split at e
    · rename_i c
      cases e
      exact ⟨a, xs, rfl, g1, by rw [g3.length]; exact c, by rw [g3.length]; exact c, q _ (fold_sl g3 sl) fold_only⟩
    · cases e
  | _ => cases e
def tGH (X : Cx) (is : List Nat) : TG := fun v σ H Q => ∃ as m ρ d ρ', Sl X.K H as σ ρ ∧ HRep X.prog X.w X.K as m H ∧ Rep X.K H as v d ∧ asgH is d ρ m = .ok ρ' m ∧ ∀ σ', Sl X.K H as σ' ρ' → OnlyAt σ σ' is → Q σ' H
theorem g_manyH {es : List Expr} {is : List Nat} {k : Nat} (hc : X.calm = true) (hN : X.N.Nodup) (h : Paired (fun e i => ∃ x pos, e = Expr.Name x pos ∧ X.N[i]? = some x ∧ Loc X.env.scope x ∧ (X.fn x = true ∨ X.env.scope.names.lookup x = some .local)) es is) : PG X (.Tuple es k pos) (tGH X is) := by
  obtain ⟨h1, h2⟩ := ae_names h
  have key : ∀ {ds : List D} {ρ ρ' : Env} {m m' : Mu}, opt (asg (.many is) (.tup ds) ρ) m = .ok ρ' m' → ds.length = is.length ∧ ρ' = (is.zip ds).foldl (fun ρ p => ρ.set p.1 (some p.2)) ρ := fun {ds ρ ρ' m m'} e => by
    by_cases c : ds.length = is.length
    · have e0 : asg (.many is) (.tup ds) ρ = some ((is.zip ds).foldl (fun ρ p => ρ.set p.1 (some p.2)) ρ) := if_pos c
      rw [e0] at e
      cases e
      exact ⟨c, rfl⟩
    · have e0 : asg (.many is) (.tup ds) ρ = none := if_neg c
      rw [e0] at e
      cases e
  refine ⟨fun pins s σ H v u Q I r ⟨as, m, ρ, d, ρ', sl, hr, rv, e, q⟩ => ?_⟩
  cases rv with
  | @tup a xs ds g1 g2 g3 =>
    obtain ⟨c, rfl⟩ := key e
    exact (pg_tup (pos := pos) (k := k) hc (gs_names hN h) h1 h2).run pins s σ H _ u Q I r ⟨a, xs, rfl, g1, by rw [g3.length]; exact c, by rw [g3.length]; exact c, q _ (fold_sl g3 sl) fold_only⟩
  | @ref a n g1 =>
    have e : (match m[n]? with
      | some (.lst ds) => opt (asg (.many is) (.tup ds) ρ) m
      | _ => .bad) = .ok ρ' m := e
    cases q1 : m[n]? with
    | none => rw [q1] at e; cases e
    | some o =>
      rw [q1] at e
      cases o with
      | lst ds =>
        obtain ⟨c, rfl⟩ := key e
        obtain ⟨vs, g2, g3, g4⟩ := hr.read g1 (show lstAt m n = some ds by unfold lstAt; rw [q1])
        exact (pg_unl (pos := pos) (k := k) hc (gs_names hN h) h1 h2).run pins s σ H _ u Q I r ⟨a, vs, rfl, g2, by rw [g4.length]; exact c, by rw [g4.length]; exact c, q _ (fold_sl g4 sl) fold_only⟩
      | _ => cases e
  | _ => cases e
abbrev noW : WX := fun _ _ _ _ => False
theorem takes_noW : Takes X noW := fun u s' ⟨_, _, _, _, _, _, _, _, _, _, _, _, _, _, _, _, z⟩ => False.elim z
theorem Kp.updD {as as' : List Addr} {H H' : Hp} {p : Addr} {o : HO} (k : Kp as as' H H') (h : H p = none) : Kp as as' H (upd H' p o) := ⟨⟨k.1.1, fun b o' hb n => by
  obtain ⟨h1, h2⟩ := k.1.2 b o' hb n
  exact ⟨by rw [upd_ne (ne_of_none hb h)]; exact h1, h2⟩⟩, fun b o' u hb => by rw [upd_ne (ne_of_none hb h)]; exact k.2 b o' u hb⟩
theorem Rep.other {K : PySem.W.Frag} {H : Hp} {as : List Addr} {p : Addr} {o u : HO} (h : H p = some u) (nt : ∀ xs, u ≠ .tup xs) (nf : ∀ ob xs, u ≠ .frz ob (.tup xs)) : ∀ {v : V} {d : D}, Rep K H as v d → Rep K (upd H p o) as v d := by
  have sq : ∀ {a : Addr} {xs : List V}, SqT K H a xs → SqT K (upd H p o) a xs := fun {a xs} q => by
    rcases q with (q | ⟨ob, q⟩) | q
    · refine .inl (.inl ?_)
      rw [upd_ne fun e => nt xs (by rw [e, h] at q; exact Option.some.inj q)]
      exact q
    · refine .inl (.inr ⟨ob, ?_⟩)
      rw [upd_ne fun e => nf ob xs (by rw [e, h] at q; exact Option.some.inj q)]
      exact q
    · exact .inr q
  intro v d r
  exact Rep.rec (motive_1 := fun v d _ => Rep K (upd H p o) as v d) (motive_2 := fun v d _ => Reps K (upd H p o) as v d) .non .bl .int .str (fun q l _ t => .tup (sq q) l t) (fun q => .ref q) (fun a => .exo a) .nil (fun _ _ a b => .cons a b) r
theorem Reps.other {K : PySem.W.Frag} {H : Hp} {as : List Addr} {p : Addr} {o u : HO} (h : H p = some u) (nt : ∀ xs, u ≠ .tup xs) (nf : ∀ ob xs, u ≠ .frz ob (.tup xs)) : ∀ {v : List V} {d : List D}, Reps K H as v d → Reps K (upd H p o) as v d
  | [], _, r => by cases r; exact .nil
  | v :: vs, _, r => by
    cases r with
    | cons a b => exact .cons (Rep.other h nt nf a) (Reps.other h nt nf b)
theorem DRel.other {K : PySem.W.Frag} {H : Hp} {as : List Addr} {p : Addr} {o u : HO} (h : H p = some u) (nt : ∀ xs, u ≠ .tup xs) (nf : ∀ ob xs, u ≠ .frz ob (.tup xs)) : ∀ {l : List (NestedKey × Addr × V)} {kvs : List (D × D)}, DRel K H as l kvs → DRel K (L2.upd H p o) as l kvs
  | _, _, .nil => .nil
  | _, _, .cons h1 h2 h3 t => .cons h1 (Rep.other h nt nf h2) (Rep.other h nt nf h3) (DRel.other h nt nf t)
theorem ORep.other {P : Program} {w : World} {K : PySem.W.Frag} {H : Hp} {as : List Addr} {p : Addr} {o u : HO} (h : H p = some u) (nt : ∀ xs, u ≠ .tup xs) (nf : ∀ ob xs, u ≠ .frz ob (.tup xs)) (no : ∀ x, u ≠ .own x) {a : Addr} : ∀ {ho : HO} {ob : O}, ORep P w K H as a ho ob → ORep P w K (upd H p o) as a ho ob
  | _, _, .lst h1 h2 => .lst h1 (h2.other h nt nf)
  | _, _, .fls h1 h2 => .fls h1 (h2.other h nt nf)
  | _, _, .dct h1 h2 h3 => .dct h1 h2 (h3.other h nt nf)
  | _, _, .fdc h1 h2 h3 => .fdc h1 h2 (h3.other h nt nf)
  | _, _, .mp h1 h2 => .mp h1 (h2.other h nt nf)
  | _, _, .ins h1 h2 h3 h4 => .ins (by rw [upd_ne (fun z => by rw [z, h] at h1; exact no _ (Option.some.inj h1))]; exact h1) h2 h3 (h4.other h nt nf)
theorem HRep.other {P : Program} {w : World} {K : PySem.W.Frag} {H : Hp} {as : List Addr} {m : Mu} {p : Addr} {o u : HO} (r : HRep P w K as m H) (h : H p = some u) (nt : ∀ xs, u ≠ .tup xs) (nf : ∀ ob xs, u ≠ .frz ob (.tup xs)) (no : ∀ x, u ≠ .own x) (hp : p ∉ as) : HRep P w K as m (L2.upd H p o) :=
  ⟨r.len, r.nd, fun n ob a h1 h2 => by
    obtain ⟨ho, h3, h4⟩ := r.ob n ob a h1 h2
    refine ⟨ho, ?_, h4.other h nt nf no⟩
    rw [upd_ne fun e => hp (by rw [← e]; exact List.mem_of_getElem? h2)]
    exact h3⟩
theorem HRep.fresh {P : Program} {w : World} {K : PySem.W.Frag} {H : Hp} {as : List Addr} {m : Mu} {p : Addr} (r : HRep P w K as m H) (h : H p = none) : p ∉ as := fun z => by
  obtain ⟨n, e⟩ := List.getElem?_of_mem z
  have hl : n < m.length := by rw [← r.len]; exact (List.getElem?_eq_some_iff.mp e).1
  obtain ⟨ho, h1, _⟩ := r.ob n m[n] p (by simp [hl]) e
  rw [h] at h1; cases h1
theorem HRep.addO {P : Program} {w : World} {K : PySem.W.Frag} {H : Hp} {as : List Addr} {m : Mu} {p : Addr} {o : HO} (r : HRep P w K as m H) (h : H p = none) : HRep P w K as m (L2.upd H p o) ∧ Kp as as H (L2.upd H p o) := by
  have kp : Kp as as H (L2.upd H p o) := ⟨⟨⟨[], by simp⟩, fun b o' hb n => ⟨by rw [upd_ne (ne_of_none hb h)]; exact hb, n⟩⟩, fun b o' u hb => by rw [upd_ne (ne_of_none hb h)]; exact hb⟩
  refine ⟨⟨r.len, r.nd, fun n ob a h1 h2 => ?_⟩, kp⟩
  obtain ⟨ho, h3, h4⟩ := r.ob n ob a h1 h2
  exact ⟨ho, by rw [upd_ne (ne_of_none h3 h)]; exact h3, h4.mono r kp⟩
theorem wipe_wipe : ∀ (own : List Nat) (σ : L2.St), wipe (wipe σ own) own = wipe σ own
  | [], σ => rfl
  | v :: vs, σ => by
    have z : ∀ (own : List Nat) (σ : L2.St), wipe σ own = wipe (wipe σ own) own := by
      intro own
      induction own with
      | nil => intro σ; rfl
      | cons u us ih =>
        intro σ
        show (wipe σ us).set u none = (wipe ((wipe σ us).set u none) us).set u none
        by_cases hu : u ∈ us
        · rw [wipe_set hu, ← ih σ]
        · have y : ∀ (vs : List Nat) (σ : L2.St), u ∉ vs → wipe (σ.set u none) vs = (wipe σ vs).set u none := by
            intro vs
            induction vs with
            | nil => intro σ _; rfl
            | cons a as ih2 =>
              intro σ h
              have ne : u ≠ a := fun e => h (by rw [e]; exact List.mem_cons_self)
              unfold wipe
              rw [ih2 σ (fun q => h (List.mem_cons_of_mem _ q)), List.set_comm _ _ ne]
          rw [y us _ hu, ← ih σ, List.set_set]
    exact (z (v :: vs) σ).symm
theorem Rep.grow {K : PySem.W.Frag} {H : Hp} {as t : List Addr} {v : V} {d : D} (r : Rep K H as v d) : Rep K H (as ++ t) v d :=
  Rep.rec (motive_1 := fun v d _ => Rep K H (as ++ t) v d) (motive_2 := fun v d _ => Reps K H (as ++ t) v d) .non .bl .int .str (fun q l _ t => .tup q l t) (fun q => .ref (by rw [List.getElem?_append_left (List.getElem?_eq_some_iff.mp q).1]; exact q)) (fun a => .exo a) .nil (fun _ _ a b => .cons a b) r
theorem Reps.grow {K : PySem.W.Frag} {H : Hp} {as t : List Addr} : ∀ {v : List V} {d : List D}, Reps K H as v d → Reps K H (as ++ t) v d
  | [], _, r => by cases r; exact .nil
  | v :: vs, _, r => by
    cases r with
    | cons a b => exact .cons a.grow b.grow
theorem DRel.grow {K : PySem.W.Frag} {H : Hp} {as t : List Addr} : ∀ {l : List (NestedKey × Addr × V)} {kvs : List (D × D)}, DRel K H as l kvs → DRel K H (as ++ t) l kvs
  | _, _, .nil => .nil
  | _, _, .cons h1 h2 h3 r => .cons h1 h2.grow h3.grow r.grow
theorem ORep.grow {P : Program} {w : World} {K : PySem.W.Frag} {H : Hp} {as t : List Addr} {a : Addr} (hg : ∀ b ∈ t, ∀ x, H b ≠ some (.own x)) : ∀ {ho : HO} {ob : O}, ORep P w K H as a ho ob → ORep P w K H (as ++ t) a ho ob
  | _, _, .lst h1 h2 => .lst h1 h2.grow
  | _, _, .fls h1 h2 => .fls h1 h2.grow
  | _, _, .dct h1 h2 h3 => .dct h1 h2 h3.grow
  | _, _, .fdc h1 h2 h3 => .fdc h1 h2 h3.grow
  | _, _, .mp h1 h2 => .mp h1 h2.grow
  | _, _, .ins h1 h2 h3 h4 => .ins h1 (fun z => (List.mem_append.mp z).elim h2 fun z => hg _ z _ h1) h3 h4.grow
theorem HRep.adopt {P : Program} {w : World} {K : PySem.W.Frag} {H : Hp} {as : List Addr} {m : Mu} {p : Addr} {ho : HO} {o : O} (r : HRep P w K as m H) (h : H p = some ho) (no : ∀ x, ho ≠ .own x) (hp : p ∉ as) (q : ORep P w K H (as ++ [p]) p ho o) : HRep P w K (as ++ [p]) (m ++ [o]) H := by
  refine ⟨by simp [r.len], ?_, fun n o' a h1 h2 => ?_⟩
  · rw [List.nodup_append]
    exact ⟨r.nd, by simp, fun a ha b hb => by simp at hb; subst hb; intro e; subst e; exact hp ha⟩
  · by_cases hn : n < m.length
    · rw [List.getElem?_append_left hn] at h1
      rw [List.getElem?_append_left (by rw [r.len]; exact hn)] at h2
      obtain ⟨ho', h3, h4⟩ := r.ob n o' a h1 h2
      exact ⟨ho', h3, h4.grow fun b hb x z => by rw [List.mem_singleton.mp hb, h] at z; exact no _ (Option.some.inj z)⟩
    · have e : n = m.length := by
        have := (List.getElem?_eq_some_iff.mp h1).1
        simp at this
        omega
      subst e
      rw [List.getElem?_append_right (Nat.le_refl _)] at h1
      rw [← r.len, List.getElem?_append_right (Nat.le_refl _)] at h2
      simp at h1 h2
      subst h1 h2
      exact ⟨ho, h, q⟩
theorem comp_ok {tg iter elt : Expr} {fi : Env → M Src} {t : T} {tt : TT} {body : Env → D → M (Option D)} {own : List Nat} {g : Env → M D} (hown : ∀ i ∈ t.is, i ∈ own) (hbad : ∀ ρ x m, asg t x (wipeD ρ own) = none → body ρ x m = .bad)
    (hb : ∀ (σ2 : L2.St) (H2 : Hp) (as2 : List Addr) (m2 : Mu) (ρ : Env) (x : D) (Q : Option V → Hp → Prop) (ρ' : Env), Sl X.K H2 as2 σ2 ρ' → HRep X.prog X.w X.K as2 m2 H2 → asg t x (wipeD ρ own) = some ρ' →
      Vg X.prog X.w X.K X.mg (fun as H v d => (v = none ∧ d = none) ∨ ∃ v' d', v = some v' ∧ d = some d' ∧ Rep X.K H as v' d') as2 H2 (body ρ x m2) Q (fun _ _ _ => False) →
      tt σ2 H2 fun b H3 => if b = true then tE X noW g σ2 H3 fun y H4 => Q (some y) H4 else Q none H3)
    {σ : L2.St} {H : Hp} {Q : VK} (h : tE X W (fun ρ => bd (fi ρ) fun s => bd (loopC s.at_ (body ρ) s.items []) fun ds => alc (.lst ds)) σ H Q) : tLc (tI X W fi) (tG X t) tt (tE X noW g) own σ H Q := by
  obtain ⟨as, m, ρ, sl, hr, v⟩ := h
  refine ⟨as, m, ρ, sl, hr, (v.bd (R := RI X)).mono fun J H1 ⟨as1, m1, s, k1, hr1, ⟨hlen, wk⟩, v1⟩ D hD => ?_⟩
  have nD : D ∉ as1 := hr1.fresh hD
  have sl1 := sl.mono hr k1
  refine ⟨fun i n H' => n = s.items.length - i ∧ i ≤ s.items.length ∧ ∃ as' m' ds vs, Kp as1 as' H1 H' ∧ HRep X.prog X.w X.K as' m' H' ∧ D ∉ as' ∧ H' D = some (.lst vs) ∧ Reps X.K H' as' vs ds ∧ vs.length ≤ i ∧
    Vg X.prog X.w X.K X.mg (RD X.K) as1 H1 (bd (loopC s.at_ (body ρ) (s.items.drop i) ds) (fun ds => alc (.lst ds)) m') Q (fun c d H' => W c d σ H'), ⟨s.items.length, ?_⟩, ?_⟩
  · obtain ⟨z1, z2⟩ := hr1.addO (o := .lst []) hD
    exact ⟨by simp, Nat.zero_le _, as1, m1, [], [], z2, z1, nD, upd_same, .nil, Nat.le_refl _, by simpa using v1⟩
  · rintro i n H' ⟨rfl, hi, as', m', ds, vs, kp, hr', nD', hD', rs, hl, v2⟩
    by_cases hlt : i < s.items.length
    · -- a turn
      refine .inr ?_
      have hx : s.items[i]? = some s.items[i] := by simp [hlt]
      have hdrop : s.items.drop i = s.items[i] :: s.items.drop (i + 1) := List.drop_eq_getElem_cons hlt
      rw [hdrop] at v2
      generalize hxx : s.items[i] = x at v2 hx
      -- what the turn does
      have v3 : stays s.at_ m' ∧ Vg X.prog X.w X.K X.mg (RD X.K) as1 H1 (match body ρ x m' with
          | .ok (some d) m2 => bd (loopC s.at_ (body ρ) (s.items.drop (i + 1)) (ds ++ [d])) (fun ds => alc (.lst ds)) m2
          | .ok none m2 => bd (loopC s.at_ (body ρ) (s.items.drop (i + 1)) ds) (fun ds => alc (.lst ds)) m2
          | _ => .bad) Q (fun c d H' => W c d σ H') := by
        unfold Af.bd at v2
        rw [loopC] at v2
        dsimp only at v2
        by_cases c : stays s.at_ m'
        · rw [if_pos c] at v2
          refine ⟨c, ?_⟩
          cases e : body ρ x m' with
          | ok o m2 =>
            rw [e] at v2
            cases o with
            | none => exact v2
            | some d => exact v2
          | exc c fs m2 =>
            rw [e] at v2
            exact v2
          | bad =>
            rw [e] at v2
            exact v2
        · rw [if_neg c] at v2
          exact False.elim v2
      obtain ⟨st, v3⟩ := v3
      obtain ⟨w1, w2⟩ := wk as' m' H' kp hr' st
      obtain ⟨go, w3⟩ := w2 i x hx
      let Nx : Hp → Prop := fun H5 => ∃ as5 m5 ds5 vs5, Kp as1 as5 H1 H5 ∧ HRep X.prog X.w X.K as5 m5 H5 ∧ D ∉ as5 ∧ H5 D = some (.lst vs5) ∧ Reps X.K H5 as5 vs5 ds5 ∧ vs5.length ≤ i + 1 ∧
        Vg X.prog X.w X.K X.mg (RD X.K) as1 H1 (bd (loopC s.at_ (body ρ) (s.items.drop (i + 1)) ds5) (fun ds => alc (.lst ds)) m5) Q (fun c d H' => W c d σ H')
      refine ⟨go, Nx, fun H5 h5 => ⟨s.items.length - (i + 1), by omega, rfl, hlt, h5⟩, fun y H2 hy => ?_⟩
      obtain ⟨k2, hr2, ry⟩ := w3 y H2 hy
      have k12 := kp.trans k2
      have hD2 := k2.1.2 D _ hD' nD'
      have sl2 : Sl X.K H2 as' (wipe σ own) (wipeD ρ own) := ((sl1.mono hr1 kp).mono hr' k2).wipe own
      -- the target
      cases ea : asg t x (wipeD ρ own) with
      | none =>
        rw [hbad ρ x m' ea] at v3
        exact False.elim v3
      | some ρ' =>
        refine ⟨as', m', wipeD ρ own, x, ρ', sl2, hr2, ry, ea, fun σ' sl' on => ⟨(on own hown).trans (wipe_wipe _ _), ?_⟩⟩
        refine hb σ' H2 as' m' ρ x (fun o H4 => match o with
          | some y => ∃ acc, H4 D = some (.lst acc) ∧ acc.length < sizeLine ∧ Nx (upd H4 D (.lst (acc ++ [y])))
          | none => Nx H4) ρ' sl' hr2 ea ?_
        cases e : body ρ x m' with
        | bad => rw [e] at v3; exact False.elim v3
        | exc c fs m2 => rw [e] at v3; exact False.elim v3
        | ok o m2 =>
          rw [e] at v3
          intro ov as4 H4 k4 hr4 ro
          obtain ⟨h4, n4⟩ := k4.1.2 D _ hD2.1 hD2.2
          have rs4 := (rs.mono hr' k2).mono hr2 k4
          rcases ro with ⟨rfl, rfl⟩ | ⟨yv, d, rfl, rfl, rd⟩
          · exact ⟨as4, m2, ds, vs, k12.trans k4, hr4, n4, h4, rs4, by omega, v3⟩
          · refine ⟨vs, h4, by omega, as4, m2, ds ++ [d], vs ++ [yv], (k12.trans k4).updD hD, hr4.other h4 (fun _ z => nomatch z) (fun _ _ z => nomatch z) (fun _ z => nomatch z) n4, n4, upd_same, ?_, by simp; omega, v3⟩
            exact (rs4.app (.cons rd .nil)).other h4 (fun _ z => nomatch z) (fun _ _ z => nomatch z)
    · -- the end
      have e : i = s.items.length := by omega
      subst e
      refine .inl ?_
      rw [List.drop_length] at v2
      unfold Af.bd at v2
      rw [loopC] at v2
      dsimp only at v2
      by_cases c : stays s.at_ m'
      · rw [if_pos c] at v2
        obtain ⟨w1, w2⟩ := wk as' m' H' kp hr' c
        refine ⟨w1 _ rfl, ?_⟩
        have kp2 : Kp as1 (as' ++ [D]) H1 H' := by
          obtain ⟨⟨⟨t', e1⟩, k3⟩, k4⟩ := kp
          refine ⟨⟨⟨t' ++ [D], by rw [e1, List.append_assoc]⟩, fun b o hb n => ?_⟩, k4⟩
          obtain ⟨q1, q2⟩ := k3 b o hb n
          exact ⟨q1, by simp [q2, ne_of_none hb hD]⟩
        refine v2 (.ref D) (as' ++ [D]) H' kp2 ?_ (.ref (by rw [← hr'.len]; simp))
        exact hr'.adopt hD' (fun _ z => nomatch z) nD' (.lst (Nat.le_trans hl hlen) rs.grow)
      · rw [if_neg c] at v2
        exact False.elim v2
end
end Af
namespace Af
open PySem PySem.Spec PyProof.Rows L2
structure FG (P : Program) (w : World) (K : PySem.W.Frag) (mg : Str → Option Value) (base : Heap) (k : Nat) (f : Addr) (fd : FuncData) (ps : List Str) (sp : Sp) : Prop where
  len : ∀ vs H Q E, sp vs H Q E → vs.length = ps.length
  run : ∀ (A : Around) (outer : List PySem.Env) (s : Shared) (H : Hp) (args : Args) (us : List Value) (vs : List V) (Q : VK) (E : XK), Room k A → A.guards = some [] → Env0 P w K mg base A outer s H → BindsTo s fd args (ps.zip us) → Vals vs us → sp vs H Q E →
    codeAny (model P w) A (.call (.ref f) args) (CR (L2.CX P w) outer P w H s Q E) s
theorem fg_of {P : Program} {w : World} {K : PySem.W.Frag} {mg : Str → Option Value} {base : Heap} {k : Nat} {f : Addr} {name qual : Str} {params : Arguments} {body : List Stmt} {scope : Scope} {dV kV doc pm cdv ct oc : Value} {an od : Option Addr}
    {osl : Array (Option Value)} {N ps : List Str} {sp : Sp} (lk : K.lookup f = some ⟨oc, od, .func (PySem.W.fnOf name qual params body scope dV kV doc pm an cdv ct), osl⟩) (hcd : PySem.W.codeIn K cdv qual = true) (S : FnScope N ps scope)
    (len : ∀ vs H Q E, sp vs H Q E → vs.length = ps.length)
    (hbody : ∀ (A : Around) (outer : List PySem.Env) (s : Shared) (H : Hp) (vs : List V) (Q : VK) (E : XK), Room k (A.deeper (envOfC qual scope s.heap.objs.size f cdv)) → A.guards = some [] → sp vs H Q E →
      ∃ t, PSs (cxOf (L2.CX P w) P w K mg base N qual scope f cdv A outer s H E) body t ∧ t { nx := fun _ H' => Q .non H', rt := Q } (start N vs) H) :
    FG P w K mg base (k + 1) f (PySem.W.fnOf name qual params body scope dV kV doc pm an cdv ct) ps sp := by
  refine ⟨len, fun A outer s H args us vs Q E hr hg e0 hb r hsp => ?_⟩
  have hl := len _ _ _ _ hsp
  have KX : K.In s.heap := e0.mod.kin.keeps fun b o e => (e0.bs b o e).1
  have lim : s.heap.NoLimit := e0.mod.nolimit.keeps fun b o e => (e0.bs b o e).1
  have hkind : ∀ y ∈ ps.zip us, scope.names.lookup y.1 = some .local ∨ (scope.names.lookup y.1 = some .cell ∧ ((cellsFrom (s.heap.objs.size + 1) scope.names []).lookup y.1).isSome = true) := fun ⟨n, v⟩ hy => by
    rcases S.par n (List.of_mem_zip hy).1 with q | q
    · exact .inl q
    · exact .inr ⟨q, PySem.W.cellsFrom_some _ _ _ (.inl q)⟩
  refine codeAny_call_function hr.depth (KX _ _ lk) rfl S.co S.gen rfl (PySem.W.codeRec_of KX hcd) (hb _ _ _ _ ?_)
  refine wpAny_newFunctionEnv_cells S.kind hkind fun env he s1 x => ?_
  subst he
  refine ⟨lim.keeps x.toInCall.keep, codeAny_func ?_⟩
  obtain ⟨t, ht, hq⟩ := hbody A outer s H vs Q E (hr.deeper _) hg hsp
  have I : Inv (cxOf (L2.CX P w) P w K mg base N qual scope f cdv A outer s H E) [] (start N vs) H s1 := inv_start S hr.hd e0 hl r x
  refine wpAny_mono (ht.run [] s1 (start N vs) H _ I hq) (fun fl s' hs => ?_) fun e s' hs => hs
  have fin : ∀ {σ' : L2.St} {H' : Hp} {v : V} {u : Value}, Inv (cxOf (L2.CX P w) P w K mg base N qual scope f cdv A outer s H E) [] σ' H' s' → RelV v u → Q v H' → CE outer P w H s Q u s' :=
    fun {σ' H' v u} J rv q => ⟨v, H', J.os, J.bare, J.base, J.hok, rv, q⟩
  cases fl with
  | ret u =>
    obtain ⟨v, σ', H', J, rv, q⟩ := hs
    exact fin J rv q
  | next =>
    obtain ⟨σ', H', J, q⟩ := hs
    exact fin (v := V.non) (u := Value.none) J rfl q
  | brk =>
    obtain ⟨_, _, _, q⟩ := hs
    exact False.elim q
  | cont =>
    obtain ⟨_, _, _, q⟩ := hs
    exact False.elim q
def spF (P : Program) (w : World) (K : PySem.W.Frag) (mg : Str → Option Value) (n : Nat) (F : List D → M D) : Sp := fun vs H Q E => vs.length = n ∧ ∃ as m ds, HRep P w K as m H ∧ Reps K H as vs ds ∧ Vg P w K mg (RD K) as H (F ds m) Q E
section
variable {X : Cx} {W : WX} {a b c e : Expr} {es : List Expr} {fa fb fc : Env → M D} {fs : Env → M (List D)} {pos p : Pos} {x : Str} {k : Nat} {f : Addr} {fd : FuncData} {ps : List Str} {sp : Sp}
theorem run_fg {pins : List (Addr × Obj)} {σ : L2.St} {H : Hp} {s : Shared} {Q : VK} {us : List Value} {vs : List V} (F : FG X.prog X.w X.K X.mg X.base k f fd ps sp) (hr : Room k X.A) (hg : X.A.guards = some []) (tk : Takes X W) (hb : Binds X.K fd ps [])
    (I : Inv X pins σ H s) (r : Vals vs us) (h : sp vs H Q fun c d H' => W c d σ H') : wpAny (model X.prog X.w) X.A (call (.ref f) us) (EP X pins σ Q) X.xe s := by
  have hl : us.length = ps.length := by rw [← r.length]; exact F.len _ _ _ _ h
  have b := hb s us I.kIn (by rw [List.append_nil]; exact hl)
  rw [List.append_nil] at b
  refine wpAny_call (codeAny_mono (F.run X.A X.stack s H ⟨us, []⟩ us vs Q _ hr hg I.env0 b r h) fun r s' hq => ?_)
  cases r with
  | error e => exact tk e s' (XE.of_call I (fun _ _ _ h => h) hq)
  | ok fl =>
    cases fl with
    | ret u => exact I.after hq
    | next => exact False.elim hq
    | brk => exact False.elim hq
    | cont => exact False.elim hq
theorem e_call {F : List D → M D} (hF : FG X.prog X.w X.K X.mg X.base k f fd ps (spF X.prog X.w X.K X.mg ps.length F)) (hF0 : ∀ ds m, ds.length ≠ ps.length → F ds m = .bad) (hr : Room k X.A) (hgd : X.A.guards = some []) (tk : Takes X W) (hg : Gl X x) (hm : X.mg x = some (.ref f)) (hk : PySem.W.keepIn X.K (.ref f) = true) (hb : Binds X.K fd ps [])
    (ha : PA X (e :: es) (tA X W fs)) (hdb : (x == ("__debug__" : Str)) = false) (he : starEach (e :: es) X.env = (false, eval e X.env) :: starEach es X.env) (hpl : (backTo pos (starEach es X.env)).any (·.1) = false) :
    PE X (.Call (.Name x p) (e :: es) [] pos) (tE X W fun ρ => bd (fs ρ) F) := by
  refine ⟨fun pins s σ H Q I ⟨as, m, ρ, sl, hr0, v⟩ => ?_⟩
  refine wpAny_Call_Name_kw (ld_glob I hg hm ?_ hdb)
  refine PySem.W.callWith_K (h₀ := X.base) I.ok.mod.kin hk (thn (ha.run pos pins s σ H _ I (tA_bd sl hr0 v)) fun us s1 ⟨vs, H1, I1, r, as1, m1, ds, sl1, hr1, k1, rs, v1⟩ => ⟨I1.kIn, ?_⟩) he hpl
  refine run_fg hF hr hgd tk hb I1 r ⟨?_, as1, m1, ds, hr1, rs, v1⟩
  rw [rs.length]
  refine Classical.byContradiction fun z => ?_
  rw [hF0 ds m1 z] at v1
  exact v1
theorem e_call0 {F : List D → M D} (hF : FG X.prog X.w X.K X.mg X.base k f fd [] (spF X.prog X.w X.K X.mg 0 F)) (hr : Room k X.A) (hgd : X.A.guards = some []) (tk : Takes X W) (hg : Gl X x) (hm : X.mg x = some (.ref f)) (hk : PySem.W.keepIn X.K (.ref f) = true) (hb : Binds X.K fd [] [])
    (hdb : (x == ("__debug__" : Str)) = false) : PE X (.Call (.Name x p) [] [] pos) (tE X W fun ρ => bd (ret []) F) := by
  refine ⟨fun pins s σ H Q I ⟨as, m, ρ, sl, hr0, v⟩ => ?_⟩
  refine wpAny_Call_Name_kw (ld_glob I hg hm ?_ hdb)
  exact PySem.W.callWith_K0 I.kIn hk (run_fg (us := []) (vs := []) hF hr hgd tk hb I .nil ⟨rfl, as, m, [], hr0, .nil, v⟩)
def Vs (X : Cx) (as : List Addr) (H : Hp) (r : Res Fl) (Dn : Ends) (W : WX) : Prop := match r with
  | .ok (.nx ρ') m' => ∀ σ' as' H', Kp as as' H H' → HRep X.prog X.w X.K as' m' H' → Sl X.K H' as' σ' ρ' → Dn.nx σ' H'
  | .ok (.rt d) m' => ∀ v as' H', Kp as as' H H' → HRep X.prog X.w X.K as' m' H' → Rep X.K H' as' v d → Dn.rt v H'
  | .ok (.bk ρ') m' => ∀ σ' as' H', Kp as as' H H' → HRep X.prog X.w X.K as' m' H' → Sl X.K H' as' σ' ρ' → Dn.bk σ' H'
  | .ok (.ct ρ') m' => ∀ σ' as' H', Kp as as' H H' → HRep X.prog X.w X.K as' m' H' → Sl X.K H' as' σ' ρ' → Dn.ct σ' H'
  | .ok (.xc ρ' c fs) m' => ∀ C d σ' as' H', X.mg c = some (.ref C) → Kp as as' H H' → HRep X.prog X.w X.K as' m' H' → Sl X.K H' as' σ' ρ' → XRep X.K H' as' d fs → W (.ref C) d σ' H'
  | _ => False
def tS (X : Cx) (W : WX) (f : Env → M Fl) : TS := fun Dn σ H => ∃ as m ρ, Sl X.K H as σ ρ ∧ HRep X.prog X.w X.K as m H ∧ Vs X as H (f ρ m) Dn W
theorem Vs.kp {as as1 : List Addr} {H H1 : Hp} {r : Res Fl} {Dn : Ends} (h : Vs X as H r Dn W) (k : Kp as as1 H H1) : Vs X as1 H1 r Dn W := by
  cases r with
  | ok fl m' =>
    cases fl with
    | nx ρ => exact fun σ' as' H' k' hr s => h σ' as' H' (k.trans k') hr s
    | rt d => exact fun v as' H' k' hr s => h v as' H' (k.trans k') hr s
    | bk ρ => exact fun σ' as' H' k' hr s => h σ' as' H' (k.trans k') hr s
    | ct ρ => exact fun σ' as' H' k' hr s => h σ' as' H' (k.trans k') hr s
    | xc ρ c fs => exact fun C d σ' as' H' e k' hr s x => h C d σ' as' H' e (k.trans k') hr s x
  | exc c fs m' => exact h
  | bad => exact h
theorem Vs.bs {α β : Type} {R : List Addr → Hp → β → α → Prop} {as : List Addr} {H : Hp} {m : Mu} {ρ : Env} {σ : L2.St} {x : M α} {f : α → M Fl} {Dn : Ends} (sl : Sl X.K H as σ ρ) (hr : HRep X.prog X.w X.K as m H) (h : Vs X as H (bs ρ x f m) Dn W) :
    Vg X.prog X.w X.K X.mg R as H (x m) (fun b H1 => ∃ as1 m1 a, Kp as as1 H H1 ∧ HRep X.prog X.w X.K as1 m1 H1 ∧ Sl X.K H1 as1 σ ρ ∧ R as1 H1 b a ∧ Vs X as1 H1 (f a m1) Dn W) fun c d H' => W c d σ H' := by
  unfold Af.bs at h
  cases e : x m with
  | ok a m' =>
    rw [e] at h
    exact fun b as' H' k hr' q => ⟨as', m', a, k, hr', sl.mono hr k, q, Vs.kp h k⟩
  | exc c fs m' =>
    rw [e] at h
    exact fun C d as' H' e' k hr' q => h C d σ as' H' e' k hr' (sl.mono hr k) q
  | bad =>
    rw [e] at h
    exact False.elim h
theorem tE_bs {f : D → M Fl} {σ : L2.St} {H : Hp} {as : List Addr} {m : Mu} {ρ : Env} {Dn : Ends} (sl : Sl X.K H as σ ρ) (hr : HRep X.prog X.w X.K as m H) (h : Vs X as H (Af.bs ρ (fa ρ) f m) Dn W) :
    tE X W fa σ H fun x H1 => ∃ as1 m1 dx, Kp as as1 H H1 ∧ HRep X.prog X.w X.K as1 m1 H1 ∧ Sl X.K H1 as1 σ ρ ∧ Rep X.K H1 as1 x dx ∧ Vs X as1 H1 (f dx m1) Dn W := ⟨as, m, ρ, sl, hr, h.bs (R := RD X.K) sl hr⟩
theorem tT_bs {ft : Env → M Bool} {f : Bool → M Fl} {σ : L2.St} {H : Hp} {as : List Addr} {m : Mu} {ρ : Env} {Dn : Ends} (sl : Sl X.K H as σ ρ) (hr : HRep X.prog X.w X.K as m H) (h : Vs X as H (Af.bs ρ (ft ρ) f m) Dn W) :
    tT X W ft σ H fun b H1 => ∃ as1 m1, Kp as as1 H H1 ∧ HRep X.prog X.w X.K as1 m1 H1 ∧ Sl X.K H1 as1 σ ρ ∧ Vs X as1 H1 (f b m1) Dn W := ⟨as, m, ρ, sl, hr, (h.bs (R := RB) sl hr).mono fun b H1 ⟨as1, m1, a, k, hr1, sl1, e, v⟩ => ⟨as1, m1, k, hr1, sl1, by rw [show b = a from e]; exact v⟩⟩
variable {st : Stmt} {rest : List Stmt} {f1 f2 : Env → M Fl}
theorem s_nil : PSs X [] (tS X W fun ρ => ret (.nx ρ)) := PSsimp pss_nil fun Dn σ H ⟨as, m, ρ, sl, hr, v⟩ => v _ _ _ Kp.refl hr sl
theorem s_cons (h1 : PS X st (tS X W f1)) (h2 : PSs X rest (tS X W f2)) : PSs X (st :: rest) (tS X W fun ρ m => match f1 ρ m with
    | .ok (.nx ρ') m' => f2 ρ' m'
    | r => r) := PSsimp (pss_cons h1 h2) fun Dn σ H ⟨as, m, ρ, sl, hr, v⟩ => by
  refine ⟨as, m, ρ, sl, hr, ?_⟩
  cases e : f1 ρ m with
  | ok fl m' =>
    dsimp only at v
    rw [e] at v
    cases fl with
    | nx ρ' => exact fun σ' as' H' k hr' s => ⟨as', m', ρ', s, hr', Vs.kp v k⟩
    | rt d => exact v
    | bk ρ => exact v
    | ct ρ => exact v
    | xc ρ c fs => exact v
  | exc c fs m' =>
    dsimp only at v
    rw [e] at v
    exact v
  | bad =>
    dsimp only at v
    rw [e] at v
    exact v
theorem s_pass : PS X (.Pass pos) (tS X W fun ρ => ret (.nx ρ)) := PSimp ps_pass fun Dn σ H ⟨as, m, ρ, sl, hr, v⟩ => v _ _ _ Kp.refl hr sl
theorem s_doc {z : Str} {j : Nat} {pos' : Pos} : PS X (.Expr (.Constant (.str z) j pos) pos') (tS X W fun ρ => ret (.nx ρ)) := PSimp ps_doc fun Dn σ H ⟨as, m, ρ, sl, hr, v⟩ => v _ _ _ Kp.refl hr sl
theorem s_brk : PS X (.Break pos) (tS X W fun ρ => ret (.bk ρ)) := PSimp ps_break fun Dn σ H ⟨as, m, ρ, sl, hr, v⟩ => v _ _ _ Kp.refl hr sl
theorem s_ctn : PS X (.Continue pos) (tS X W fun ρ => ret (.ct ρ)) := PSimp ps_continue fun Dn σ H ⟨as, m, ρ, sl, hr, v⟩ => v _ _ _ Kp.refl hr sl
theorem s_ret0 : PS X (.Return none pos) (tS X W fun _ => ret (.rt .non)) := PSimp ps_retN fun Dn σ H ⟨as, m, ρ, sl, hr, v⟩ => v _ _ _ Kp.refl hr .non
theorem s_ret (he : PE X e (tE X W fa)) : PS X (.Return (some e) pos) (tS X W fun ρ => bs ρ (fa ρ) fun d => ret (.rt d)) := PSimp (ps_ret he) fun Dn σ H ⟨as, m, ρ, sl, hr, v⟩ =>
  tE_mono (tE_bs sl hr v) fun x H1 ⟨as1, m1, dx, k1, hr1, sl1, rx, v1⟩ => v1 _ _ _ Kp.refl hr1 rx
theorem s_ex (he : PE X e (tE X W fa)) (hs : swapsWith e none pos.line X.env = pure false) : PS X (.Expr e pos) (tS X W fun ρ => bs ρ (fa ρ) fun d => ret (.nx ρ)) := PSimp (ps_expr he hs) fun Dn σ H ⟨as, m, ρ, sl, hr, v⟩ =>
  tE_mono (tE_bs sl hr v) fun x H1 ⟨as1, m1, dx, k1, hr1, sl1, rx, v1⟩ => v1 _ _ _ Kp.refl hr1 sl1
theorem s_set {i : Nat} {pos' : Pos} (hN : X.N.Nodup) (hi : X.N[i]? = some x) (hx : Loc X.env.scope x) (hf : X.fn x = true) (he : PE X e (tE X W fa)) (hs : swapsWith e (some (.Name x pos')) pos.line X.env = pure false) :
    PS X (.Assign [.Name x pos'] e pos) (tS X W fun ρ => bs ρ (fa ρ) fun d => ret (.nx (ρ.set i (some d)))) := PSimp (ps_set hN hi hx he hs (.inl hf)) fun Dn σ H ⟨as, m, ρ, sl, hr, v⟩ =>
  tE_mono (tE_bs sl hr v) fun x H1 ⟨as1, m1, dx, k1, hr1, sl1, rx, v1⟩ => v1 _ _ _ Kp.refl hr1 (sl1.set rx i)
theorem s_setLc {i : Nat} {py : Pos} {elt tg iter : Expr} {ifs : List Expr} {scope : Scope} {own : List (Str × Nat)} {pos spos : Pos} {wi : TI} {g : TG} {tt : TT} {te : TE} (hN : X.N.Nodup) (hy : X.N[i]? = some x)
    (hp : PS X (.Assign [.Name x py] (.ListComp elt [⟨tg, iter, ifs, 0⟩] scope pos) spos) (tAsg (tLc wi g tt te (own.map (·.2))) (gName i)))
    (hc : ∀ σ H Q, tE X W fa σ H Q → tLc wi g tt te (own.map (·.2)) σ H Q) : PS X (.Assign [.Name x py] (.ListComp elt [⟨tg, iter, ifs, 0⟩] scope pos) spos) (tS X W fun ρ => bs ρ (fa ρ) fun d => ret (.nx (ρ.set i (some d)))) :=
  PSimp hp fun Dn σ H ⟨as, m, ρ, sl, hr, v⟩ => hc σ H _ (tE_mono (tE_bs sl hr v) fun x H1 ⟨as1, m1, dx, k1, hr1, sl1, rx, v1⟩ => v1 _ _ _ Kp.refl hr1 (sl1.set rx i))
theorem asgH_same {is : List Nat} {d : D} {ρ ρ' : Env} {m m' : Mu} (h : asgH is d ρ m = .ok ρ' m') : m' = m := by
  have key : ∀ {o : Option Env} {m m' : Mu}, opt o m = .ok ρ' m' → m' = m := fun {o m m'} e => by
    cases o <;> cases e
    rfl
  cases d with
  | tup ds => exact key h
  | ref n =>
    have h : (match m[n]? with
      | some (.lst ds) => opt (asg (.many is) (.tup ds) ρ) m
      | _ => .bad) = .ok ρ' m' := h
    split at h
    · exact key h
    · cases h
  | _ => cases h
theorem s_setT {tg : Expr} {is : List Nat} (hg : PG X tg (tGH X is)) (he : PE X e (tE X W fa)) (hs : swapsWithSole [tg] e pos.line X.env = pure false) (hw : swappedStores [tg] e X.env = pure none) (h1 : (assignEach [tg] X.env).map (·.2) = [assign tg X.env]) :
    PS X (.Assign [tg] e pos) (tS X W fun ρ => bs ρ (fa ρ) fun d => bs ρ (asgH is d ρ) fun ρ' => ret (.nx ρ')) := PSimp (ps_asg he hg hs hw h1) fun Dn σ H ⟨as, m, ρ, sl, hr, v⟩ =>
  tE_mono (tE_bs sl hr v) fun x H1 ⟨as1, m1, dx, k1, hr1, sl1, rx, v1⟩ => by
    unfold Af.bs at v1
    cases ea : asgH is dx ρ m1 with
    | bad =>
      rw [ea] at v1
      exact False.elim v1
    | exc c fs m' =>
      exfalso
      cases dx with
      | tup ds =>
        have ea : opt (asg (.many is) (.tup ds) ρ) m1 = .exc c fs m' := ea
        cases q : asg (.many is) (.tup ds) ρ <;> rw [q] at ea <;> cases ea
      | ref n =>
        have ea : (match m1[n]? with
          | some (.lst ds) => opt (asg (.many is) (.tup ds) ρ) m1
          | _ => .bad) = .exc c fs m' := ea
        split at ea
        · rename_i ds _
          cases q : asg (.many is) (.tup ds) ρ <;> rw [q] at ea <;> cases ea
        · cases ea
      | _ => cases ea
    | ok ρ' m2 =>
      have := asgH_same ea
      subst this
      rw [ea] at v1
      exact ⟨as1, m2, ρ, dx, ρ', sl1, hr1, rx, ea, fun σ' sl' _ => v1 _ _ _ Kp.refl hr1 sl'⟩
theorem s_if {p q : List Stmt} (hc : PT X c (tTr X W fc)) (ha : PSs X p (tS X W f1)) (hb : PSs X q (tS X W f2)) : PS X (.If c p q pos) (tS X W fun ρ => bs ρ (fc ρ) fun x => bs ρ (tru x) fun t => if t then f1 ρ else f2 ρ) :=
  PSimp (ps_if hc ha hb) fun Dn σ H ⟨as, m, ρ, sl, hr, v⟩ => by
    have e : (bs ρ (fc ρ) fun x => bs ρ (tru x) fun t => if t then f1 ρ else f2 ρ) = bs ρ (bd (fc ρ) tru) fun t => if t then f1 ρ else f2 ρ := by
      funext m
      unfold Af.bs bd
      cases fc ρ m <;> rfl
    dsimp only at v
    rw [e] at v
    refine tT_mono (tT_bs (ft := fun ρ => bd (fc ρ) tru) sl hr v) fun t H1 ⟨as1, m1, k1, hr1, sl1, v1⟩ => ?_
    cases t with
    | true => exact ⟨as1, m1, ρ, sl1, hr1, v1⟩
    | false => exact ⟨as1, m1, ρ, sl1, hr1, v1⟩
theorem s_for {tg iter : Expr} {body : List Stmt} {fi : Env → M Src} {t : T} (hp : PassesOwn (model X.prog X.w) X.A X.env X.xe) (hc : X.calm = true) (hi : PI X tg iter (tI X W fi)) (hg : PG X tg (tG X t)) (hb : PSs X body (tS X W f1)) (hs : ∀ x, foldedSetIterable iter X.env x = pure x) :
    PS X (.For tg iter body [] pos) (tS X W fun ρ => bs ρ (fi ρ) fun s => loopF s.at_ (fun x ρ => bs ρ (opt (asg t x ρ)) fun ρ' => f1 ρ') s.items ρ) := PSimp (ps_for hp hc hi hg hb hs) fun Dn σ H ⟨as, m, ρ, sl, hr, v⟩ => by
  refine ⟨as, m, ρ, sl, hr, (v.bs (R := RI X) sl hr).mono fun J H1 ⟨as1, m1, s, k1, hr1, sl1, ⟨hlen, wk⟩, v1⟩ => ?_⟩
  refine ⟨fun i n σ' H' => n = s.items.length - i ∧ i ≤ s.items.length ∧ ∃ as' m' ρ', Kp as1 as' H1 H' ∧ HRep X.prog X.w X.K as' m' H' ∧ Sl X.K H' as' σ' ρ' ∧
    Vs X as' H' (loopF s.at_ (fun x ρ => bs ρ (opt (asg t x ρ)) fun ρ' => f1 ρ') (s.items.drop i) ρ' m') Dn W, ⟨s.items.length, by simp, Nat.zero_le _, as1, m1, ρ, Kp.refl, hr1, sl1, by simpa using v1⟩, ?_⟩
  rintro i n σ' H' ⟨rfl, hi, as', m', ρ', kp, hr', sl', v2⟩
  by_cases hlt : i < s.items.length
  · have hx : s.items[i]? = some s.items[i] := by simp [hlt]
    have hdrop : s.items.drop i = s.items[i] :: s.items.drop (i + 1) := List.drop_eq_getElem_cons hlt
    rw [hdrop] at v2
    generalize hxx : s.items[i] = x at v2 hx
    rw [loopF] at v2
    dsimp only at v2
    by_cases c : stays s.at_ m'
    · rw [if_pos c] at v2
      obtain ⟨w1, w2⟩ := wk as' m' H' kp hr' c
      obtain ⟨go, w3⟩ := w2 i x hx
      let Nx : L2.St → Hp → Prop := fun σ5 H5 => ∃ as5 m5 ρ5, Kp as1 as5 H1 H5 ∧ HRep X.prog X.w X.K as5 m5 H5 ∧ Sl X.K H5 as5 σ5 ρ5 ∧
        Vs X as5 H5 (loopF s.at_ (fun x ρ => bs ρ (opt (asg t x ρ)) fun ρ' => f1 ρ') (s.items.drop (i + 1)) ρ5 m5) Dn W
      refine .inr ⟨go, Nx, fun σ5 H5 h5 => ⟨s.items.length - (i + 1), by omega, rfl, hlt, h5⟩, fun y H2 hy => ?_⟩
      obtain ⟨k2, hr2, ry⟩ := w3 y H2 hy
      have sl2 := sl'.mono hr' k2
      cases ea : asg t x ρ' with
      | none =>
        unfold Af.bs at v2
        rw [ea] at v2
        exact False.elim v2
      | some ρ2 =>
        refine ⟨as', m', ρ', x, ρ2, sl2, hr2, ry, ea, fun σ3 sl3 _ => ⟨as', m', ρ2, sl3, hr2, ?_⟩⟩
        have v3 : Vs X as' H2 (match f1 ρ2 m' with
          | .ok (.nx ρ3) m3 => loopF s.at_ (fun x ρ => bs ρ (opt (asg t x ρ)) fun ρ' => f1 ρ') (s.items.drop (i + 1)) ρ3 m3
          | .ok (.ct ρ3) m3 => loopF s.at_ (fun x ρ => bs ρ (opt (asg t x ρ)) fun ρ' => f1 ρ') (s.items.drop (i + 1)) ρ3 m3
          | .ok (.bk ρ3) m3 => .ok (.nx ρ3) m3
          | r => r) Dn W := by
          have e0 : (bs ρ' (opt (asg t x ρ')) fun ρ' => f1 ρ') m' = f1 ρ2 m' := by
            rw [ea]
            rfl
          rw [e0] at v2
          exact Vs.kp v2 k2
        cases e : f1 ρ2 m' with
        | bad => rw [e] at v3; exact False.elim v3
        | exc c fs m3 => rw [e] at v3; exact False.elim v3
        | ok fl m3 =>
          rw [e] at v3
          cases fl with
          | nx ρ3 => exact fun σ4 as4 H4 k4 hr4 sl4 => ⟨as4, m3, ρ3, (kp.trans k2).trans k4, hr4, sl4, Vs.kp v3 k4⟩
          | ct ρ3 => exact fun σ4 as4 H4 k4 hr4 sl4 => ⟨as4, m3, ρ3, (kp.trans k2).trans k4, hr4, sl4, Vs.kp v3 k4⟩
          | bk ρ3 => exact v3
          | rt d => exact v3
          | xc ρ3 c fs => exact v3
    · rw [if_neg c] at v2
      exact False.elim v2
  · have e : i = s.items.length := by omega
    subst e
    rw [List.drop_length, loopF] at v2
    dsimp only at v2
    by_cases c : stays s.at_ m'
    · rw [if_pos c] at v2
      obtain ⟨w1, w2⟩ := wk as' m' H' kp hr' c
      exact .inl ⟨w1 _ rfl, v2 _ _ _ Kp.refl hr' sl'⟩
    · rw [if_neg c] at v2
      exact False.elim v2
theorem asgH_noexc {is : List Nat} {d : D} {ρ : Env} {m : Mu} (c : Str) (fs : List (Str × D)) (m' : Mu) : asgH is d ρ m ≠ .exc c fs m' := by
  have key : ∀ {o : Option Env} {m : Mu}, opt o m ≠ .exc c fs m' := fun {o m} e => by cases o <;> cases e
  cases d with
  | tup ds => exact key
  | ref n =>
    intro h
    have h : (match m[n]? with
      | some (.lst ds) => opt (asg (.many is) (.tup ds) ρ) m
      | _ => .bad) = .exc c fs m' := h
    split at h
    · exact key h
    · cases h
  | _ => exact fun h => by cases h
theorem s_forH {tg iter : Expr} {body : List Stmt} {fi : Env → M Src} {is : List Nat} (hp : PassesOwn (model X.prog X.w) X.A X.env X.xe) (hc : X.calm = true) (hi : PI X tg iter (tI X W fi)) (hg : PG X tg (tGH X is)) (hb : PSs X body (tS X W f1)) (hs : ∀ x, foldedSetIterable iter X.env x = pure x) :
    PS X (.For tg iter body [] pos) (tS X W fun ρ => bs ρ (fi ρ) fun s => loopF s.at_ (fun x ρ => bs ρ (asgH is x ρ) fun ρ' => f1 ρ') s.items ρ) := PSimp (ps_for hp hc hi hg hb hs) fun Dn σ H ⟨as, m, ρ, sl, hr, v⟩ => by
  refine ⟨as, m, ρ, sl, hr, (v.bs (R := RI X) sl hr).mono fun J H1 ⟨as1, m1, s, k1, hr1, sl1, ⟨hlen, wk⟩, v1⟩ => ?_⟩
  refine ⟨fun i n σ' H' => n = s.items.length - i ∧ i ≤ s.items.length ∧ ∃ as' m' ρ', Kp as1 as' H1 H' ∧ HRep X.prog X.w X.K as' m' H' ∧ Sl X.K H' as' σ' ρ' ∧
    Vs X as' H' (loopF s.at_ (fun x ρ => bs ρ (asgH is x ρ) fun ρ' => f1 ρ') (s.items.drop i) ρ' m') Dn W, ⟨s.items.length, by simp, Nat.zero_le _, as1, m1, ρ, Kp.refl, hr1, sl1, by simpa using v1⟩, ?_⟩
  rintro i n σ' H' ⟨rfl, hi, as', m', ρ', kp, hr', sl', v2⟩
  by_cases hlt : i < s.items.length
  · have hx : s.items[i]? = some s.items[i] := by simp [hlt]
    have hdrop : s.items.drop i = s.items[i] :: s.items.drop (i + 1) := List.drop_eq_getElem_cons hlt
    rw [hdrop] at v2
    generalize hxx : s.items[i] = x at v2 hx
    rw [loopF] at v2
    dsimp only at v2
    by_cases c : stays s.at_ m'
    · rw [if_pos c] at v2
      obtain ⟨w1, w2⟩ := wk as' m' H' kp hr' c
      obtain ⟨go, w3⟩ := w2 i x hx
      let Nx : L2.St → Hp → Prop := fun σ5 H5 => ∃ as5 m5 ρ5, Kp as1 as5 H1 H5 ∧ HRep X.prog X.w X.K as5 m5 H5 ∧ Sl X.K H5 as5 σ5 ρ5 ∧
        Vs X as5 H5 (loopF s.at_ (fun x ρ => bs ρ (asgH is x ρ) fun ρ' => f1 ρ') (s.items.drop (i + 1)) ρ5 m5) Dn W
      refine .inr ⟨go, Nx, fun σ5 H5 h5 => ⟨s.items.length - (i + 1), by omega, rfl, hlt, h5⟩, fun y H2 hy => ?_⟩
      obtain ⟨k2, hr2, ry⟩ := w3 y H2 hy
      have sl2 := sl'.mono hr' k2
      cases ea : asgH is x ρ' m' with
      | bad =>
        unfold Af.bs at v2
        rw [ea] at v2
        exact False.elim v2
      | exc c fs m2 => exact absurd ea (asgH_noexc _ _ _)
      | ok ρ2 m2 =>
        have em := asgH_same ea
        subst em
        refine ⟨as', m2, ρ', x, ρ2, sl2, hr2, ry, ea, fun σ3 sl3 _ => ⟨as', m2, ρ2, sl3, hr2, ?_⟩⟩
        have v3 : Vs X as' H2 (match f1 ρ2 m2 with
          | .ok (.nx ρ3) m3 => loopF s.at_ (fun x ρ => bs ρ (asgH is x ρ) fun ρ' => f1 ρ') (s.items.drop (i + 1)) ρ3 m3
          | .ok (.ct ρ3) m3 => loopF s.at_ (fun x ρ => bs ρ (asgH is x ρ) fun ρ' => f1 ρ') (s.items.drop (i + 1)) ρ3 m3
          | .ok (.bk ρ3) m3 => .ok (.nx ρ3) m3
          | r => r) Dn W := by
          have e0 : (bs ρ' (asgH is x ρ') fun ρ' => f1 ρ') m2 = f1 ρ2 m2 := by
            unfold Af.bs
            rw [ea]
          rw [e0] at v2
          exact Vs.kp v2 k2
        cases e : f1 ρ2 m2 with
        | bad => rw [e] at v3; exact False.elim v3
        | exc c fs m3 => rw [e] at v3; exact False.elim v3
        | ok fl m3 =>
          rw [e] at v3
          cases fl with
          | nx ρ3 => exact fun σ4 as4 H4 k4 hr4 sl4 => ⟨as4, m3, ρ3, (kp.trans k2).trans k4, hr4, sl4, Vs.kp v3 k4⟩
          | ct ρ3 => exact fun σ4 as4 H4 k4 hr4 sl4 => ⟨as4, m3, ρ3, (kp.trans k2).trans k4, hr4, sl4, Vs.kp v3 k4⟩
          | bk ρ3 => exact v3
          | rt d => exact v3
          | xc ρ3 c fs => exact v3
    · rw [if_neg c] at v2
      exact False.elim v2
  · have e : i = s.items.length := by omega
    subst e
    rw [List.drop_length, loopF] at v2
    dsimp only at v2
    by_cases c : stays s.at_ m'
    · rw [if_pos c] at v2
      obtain ⟨w1, w2⟩ := wk as' m' H' kp hr' c
      exact .inl ⟨w1 _ rfl, v2 _ _ _ Kp.refl hr' sl'⟩
    · rw [if_neg c] at v2
      exact False.elim v2
theorem s_while {body : List Stmt} {w : Nat} (hp : PassesOwn (model X.prog X.w) X.A X.env X.xe) (hc : PT X c (tTr X W fc)) (hb : PSs X body (tS X W f1)) : PS X (.While c body [] pos) (tS X W fun ρ => loopW (fun ρ => bd (fc ρ) tru) f1 w ρ) :=
  PSimp (ps_while hp hc hb) fun Dn σ H ⟨as, m, ρ, sl, hr, v⟩ => by
    refine ⟨fun n σ' H' => ∃ as' m' ρ', Sl X.K H' as' σ' ρ' ∧ HRep X.prog X.w X.K as' m' H' ∧ Vs X as' H' (loopW (fun ρ => bd (fc ρ) tru) f1 n ρ' m') Dn W, ⟨w, as, m, ρ, sl, hr, v⟩, ?_⟩
    rintro n σ' H' ⟨as', m', ρ', sl', hr', v'⟩
    cases n with
    | zero => exact False.elim v'
    | succ n =>
      have v' : Vs X as' H' (bs ρ' (bd (fc ρ') tru) (fun b => if b then (fun m => match f1 ρ' m with
        | .ok (.nx ρ') m' => loopW (fun ρ => bd (fc ρ) tru) f1 n ρ' m'
        | .ok (.ct ρ') m' => loopW (fun ρ => bd (fc ρ) tru) f1 n ρ' m'
        | .ok (.bk ρ') m' => .ok (.nx ρ') m'
        | r => r) else ret (.nx ρ')) m') Dn W := v'
      refine tT_mono (tT_bs (ft := fun ρ => bd (fc ρ) tru) sl' hr' v') fun b H1 ⟨as1, m1, k1, hr1, sl1, v1⟩ => ?_
      cases b with
      | false => exact v1 _ _ _ Kp.refl hr1 sl1
      | true =>
        refine ⟨fun σ5 H5 => ∃ as5 m5 ρ5, Sl X.K H5 as5 σ5 ρ5 ∧ HRep X.prog X.w X.K as5 m5 H5 ∧ Vs X as5 H5 (loopW (fun ρ => bd (fc ρ) tru) f1 n ρ5 m5) Dn W, fun σ5 H5 h5 => ⟨n, Nat.lt_succ_self _, h5⟩, as1, m1, ρ', sl1, hr1, ?_⟩
        have v1 : Vs X as1 H1 (match f1 ρ' m1 with
          | .ok (.nx ρ') m' => loopW (fun ρ => bd (fc ρ) tru) f1 n ρ' m'
          | .ok (.ct ρ') m' => loopW (fun ρ => bd (fc ρ) tru) f1 n ρ' m'
          | .ok (.bk ρ') m' => .ok (.nx ρ') m'
          | r => r) Dn W := v1
        cases e : f1 ρ' m1 with
        | bad => rw [e] at v1; exact False.elim v1
        | exc c fs m3 => rw [e] at v1; exact False.elim v1
        | ok fl m3 =>
          rw [e] at v1
          cases fl with
          | nx ρ3 => exact fun σ4 as4 H4 k4 hr4 sl4 => ⟨as4, m3, ρ3, sl4, hr4, Vs.kp v1 k4⟩
          | ct ρ3 => exact fun σ4 as4 H4 k4 hr4 sl4 => ⟨as4, m3, ρ3, sl4, hr4, Vs.kp v1 k4⟩
          | bk ρ3 => exact v1
          | rt d => exact v1
          | xc ρ3 c fs => exact v1
end
end Af
namespace Af
open PySem PySem.Spec PyProof.Rows L2
def plainE : Expr → Bool
  | .Starred .. => false
  | _ => true
theorem starEach_c {e : Expr} {es : List Expr} {env : PySem.Env} (h : plainE e = true) : starEach (e :: es) env = (false, eval e env) :: starEach es env := by
  cases e <;> first | rfl | cases h
theorem star_any {pos : Pos} {env : PySem.Env} : ∀ {es : List Expr}, es.all plainE = true → (backTo pos (starEach es env)).any (·.1) = false
  | [], _ => rfl
  | e :: es, h => by
    simp only [List.all_cons, Bool.and_eq_true] at h
    rw [starEach_c h.1]
    exact star_any (es := es) h.2
theorem star_all {pos : Pos} {env : PySem.Env} : ∀ {es : List Expr}, es.all plainE = true → (backTo pos (starEach es env)).all (fun x => !x.1) = true
  | [], _ => rfl
  | e :: es, h => by
    simp only [List.all_cons, Bool.and_eq_true] at h
    rw [starEach_c h.1]
    exact star_all (es := es) h.2
theorem few_ok {pos : Pos} {env : PySem.Env} {es : List Expr} (h : es.all plainE = true) (hl : es.length < 30) : ((backTo pos (starEach es env)).all (fun x => !x.1) && (backToKw pos (keywordEach [] env)).all (fun x => x.1.isSome)
      && decide (es.length + ([] : List Keyword).length + (if ([] : List Keyword).isEmpty then 0 else 1) < 30)) = true := by
  rw [star_all h]
  have e : decide (es.length + ([] : List Keyword).length + (if ([] : List Keyword).isEmpty then 0 else 1) < 30) = true := by simpa using hl
  rw [e]
  rfl
def baseE : Expr → Bool
  | .Name .. => true
  | .Subscript .. => true
  | .Attribute .. => true
  | .BinOp .. => true
  | .Constant .. => true
  | .List .. => true
  | .Call _ (_ :: _) _ _ => true
  | .Call (.Attribute ..) [] [] _ => true
  | _ => false
theorem base_ok {o : Expr} {n : Str} {env : PySem.Env} {w : Sem Value} (h : baseE o = true) : attributeBase o n env w = w := by
  unfold baseE at h
  split at h
  case h_7 f e r kw p => cases f <;> rfl
  all_goals first | rfl | cases h
theorem me_slot : ∀ f : Me, Slot "list" (meName f) (meVal f)
  | .append => PySem.F.slot_list_append
  | .extend => PySem.F.slot_list_extend
  | .pop => PySem.F.slot_list_pop
  | .popAt => PySem.F.slot_list_pop
  | .insert => PySem.F.slot_list_insert
  | .count => PySem.F.slot_list_count
  | .index => PySem.F.slot_list_index
  | .clear => PySem.F.slot_list_clear
theorem me_typ : ∀ f : Me, typeOf (.builtin (meVal f)) = pure (.type "method_descriptor")
  | .append => PySem.F.type_list_append
  | .extend => PySem.F.type_list_extend
  | .pop => PySem.F.type_list_pop
  | .popAt => PySem.F.type_list_pop
  | .insert => PySem.F.type_list_insert
  | .count => PySem.F.type_list_count
  | .index => PySem.F.type_list_index
  | .clear => PySem.F.type_list_clear
section
variable {X : Cx} {W : WX} {a b c e o : Expr} {es : List Expr} {fa fb fc fo : Env → M D} {fs : Env → M (List D)} {pos apos p2 : Pos}
theorem me_ok (hu : X.A.units + 200 < cLine) : ∀ f : Me, MtR X (meVal f) (rm X (meF f))
  | .append => append_ok
  | .extend => extend_ok
  | .pop => pop_ok
  | .popAt => popAt_ok
  | .insert => insert_ok
  | .count => count_ok hu
  | .index => index_ok hu
  | .clear => clear_ok
theorem isLst_inv {α : Type} {R : List Addr → Hp → V → α → Prop} {f : Unit → M α} {as : List Addr} {H : Hp} {m : Mu} {dx : D} {Q : V → Hp → Prop} {E : XK} (v : Vg X.prog X.w X.K X.mg R as H (bd (isLst dx) f m) Q E) : ∃ n zs, dx = .ref n ∧ m[n]? = some (.lst zs) ∧ Vg X.prog X.w X.K X.mg R as H (f () m) Q E := by
  cases dx with
  | ref n =>
    have v : Vg X.prog X.w X.K X.mg R as H (bd (fun m => (match m[n]? with
      | some (.lst _) => .ok () m
      | _ => .bad : Res Unit)) f m) Q E := v
    unfold Af.bd at v
    dsimp only at v
    cases e : m[n]? with
    | none => rw [e] at v; exact False.elim v
    | some ob =>
      rw [e] at v
      cases ob with
      | lst zs => exact ⟨n, zs, rfl, e, v⟩
      | _ => exact False.elim v
  | _ => exact False.elim v
theorem e_me {f : Me} (hu : X.A.units + 200 < cLine) (ho : PE X o (tE X W fo)) (ha : PA X (e :: es) (tA X W fs)) (hb : baseE o = true) (hp : (e :: es).all plainE = true) (hl : (e :: es).length < 30) (hline : (apos.endLine == pos.line) = true) :
    PE X (.Call (.Attribute o (meName f) apos) (e :: es) [] pos) (tE X W fun ρ => bd (fo ρ) fun x => bd (isLst x) fun _ => bd (fs ρ) fun xs => meF f x xs) := by
  have hp' := hp
  simp only [List.all_cons, Bool.and_eq_true] at hp'
  refine PEimp (pe_bm PySem.F.plainAttrs_list (me_slot f) (me_typ f) (me_ok hu f) ho ha (base_ok hb) (few_ok hp hl) hline (starEach_c hp'.1) (star_any (by simpa using hp'.2))) fun σ H Q ⟨as, m, ρ, sl, hr, v⟩ => ?_
  refine tE_mono (tE_bd sl hr v) fun x H1 ⟨as1, m1, dx, sl1, hr1, k1, rx, v1⟩ => ?_
  obtain ⟨n, zs, e1, e2, v2⟩ := isLst_inv v1
  exact ⟨me_ty (f := f) hr1 rx e1 e2, tA_mono (tA_bd sl1 hr1 v2) fun xs H2 ⟨as2, m2, ds, sl2, hr2, k2, rs, v3⟩ => ⟨_, as2, m2, dx, ds, hr2, rx.mono hr1 k2, rs, v3⟩⟩
theorem e_me0 {f : Me} (hu : X.A.units + 200 < cLine) (ho : PE X o (tE X W fo)) (hb : baseE o = true) (hline : (apos.endLine == pos.line) = true) :
    PE X (.Call (.Attribute o (meName f) apos) [] [] pos) (tE X W fun ρ => bd (fo ρ) fun x => bd (isLst x) fun _ => bd (ret []) fun xs => meF f x xs) := by
  refine PEimp (pe_bm0 PySem.F.plainAttrs_list (me_slot f) (me_typ f) (me_ok hu f) ho (base_ok hb) hline) fun σ H Q ⟨as, m, ρ, sl, hr, v⟩ => ?_
  refine tE_mono (tE_bd sl hr v) fun x H1 ⟨as1, m1, dx, sl1, hr1, k1, rx, v1⟩ => ?_
  obtain ⟨n, zs, e1, e2, v2⟩ := isLst_inv v1
  exact ⟨me_ty (f := f) hr1 rx e1 e2, _, as1, m1, dx, [], hr1, rx, .nil, v2⟩
theorem e_sl (ha : PE X a (tE X W fa)) : PE X (.Subscript a (.Slice none none none p2) pos) (tE X W fun ρ => bd (fa ρ) fun x => dSl x none none) :=
  PEimp (pe_slice sl_ok ha po_none po_none) fun σ H Q ⟨as, m, ρ, sl, hr, v⟩ => tE_mono (tE_bd sl hr v) fun x H1 ⟨as1, m1, dx, sl1, hr1, k1, rx, v1⟩ => ⟨_, as1, m1, dx, hr1, rx, v1⟩
theorem part_inv {α β : Type} {R : List Addr → Hp → β → α → Prop} {f : Option Int → M α} {as : List Addr} {H : Hp} {m : Mu} {x : V} {dx : D} {Q : β → Hp → Prop} {E : XK} (v : Vg X.prog X.w X.K X.mg R as H (bd (opt (partO (some dx))) f m) Q E) (rx : Rep X.K H as x dx) : ∃ i, x = .int i ∧ Vg X.prog X.w X.K X.mg R as H (f (some i) m) Q E := by
  cases rx with
  | int i => exact ⟨i, rfl, v⟩
  | _ => exact False.elim v
theorem e_slL (ha : PE X a (tE X W fa)) (hb : PE X b (tE X W fb)) : PE X (.Subscript a (.Slice (some b) none none p2) pos) (tE X W fun ρ => bd (fa ρ) fun x => bd (fb ρ) fun l => bd (opt (partO (some l))) fun p => dSl x p none) :=
  PEimp (pe_slice sl_ok ha (po_some hb) po_none) fun σ H Q ⟨as, m, ρ, sl, hr, v⟩ => tE_mono (tE_bd sl hr v) fun x H1 ⟨as1, m1, dx, sl1, hr1, k1, rx, v1⟩ =>
    tE_mono (tE_bd sl1 hr1 v1) fun l H2 ⟨as2, m2, dl, sl2, hr2, k2, rl, v2⟩ => by
      obtain ⟨i, rfl, v3⟩ := part_inv v2 rl
      exact ⟨i, rfl, _, as2, m2, dx, hr2, rx.mono hr1 k2, v3⟩
theorem e_slU (ha : PE X a (tE X W fa)) (hb : PE X b (tE X W fb)) : PE X (.Subscript a (.Slice none (some b) none p2) pos) (tE X W fun ρ => bd (fa ρ) fun x => bd (fb ρ) fun l => bd (opt (partO (some l))) fun p => dSl x none p) :=
  PEimp (pe_slice sl_ok ha po_none (po_some hb)) fun σ H Q ⟨as, m, ρ, sl, hr, v⟩ => tE_mono (tE_bd sl hr v) fun x H1 ⟨as1, m1, dx, sl1, hr1, k1, rx, v1⟩ =>
    tE_mono (tE_bd sl1 hr1 v1) fun l H2 ⟨as2, m2, dl, sl2, hr2, k2, rl, v2⟩ => by
      obtain ⟨i, rfl, v3⟩ := part_inv v2 rl
      exact ⟨i, rfl, _, as2, m2, dx, hr2, rx.mono hr1 k2, v3⟩
theorem e_slB (ha : PE X a (tE X W fa)) (hb : PE X b (tE X W fb)) (hc : PE X c (tE X W fc)) : PE X (.Subscript a (.Slice (some b) (some c) none p2) pos) (tE X W fun ρ => bd (fa ρ) fun x => bd (fb ρ) fun l => bd (opt (partO (some l))) fun p => bd (fc ρ) fun h => bd (opt (partO (some h))) fun q => dSl x p q) :=
  PEimp (pe_slice sl_ok ha (po_some hb) (po_some hc)) fun σ H Q ⟨as, m, ρ, sl, hr, v⟩ => tE_mono (tE_bd sl hr v) fun x H1 ⟨as1, m1, dx, sl1, hr1, k1, rx, v1⟩ =>
    tE_mono (tE_bd sl1 hr1 v1) fun l H2 ⟨as2, m2, dl, sl2, hr2, k2, rl, v2⟩ => by
      obtain ⟨i, rfl, v3⟩ := part_inv v2 rl
      refine ⟨i, rfl, tE_mono (tE_bd sl2 hr2 v3) fun u H3 ⟨as3, m3, du, sl3, hr3, k3, ru, v4⟩ => ?_⟩
      obtain ⟨j, rfl, v5⟩ := part_inv v4 ru
      exact ⟨j, rfl, _, as3, m3, dx, hr3, (rx.mono hr1 k2).mono hr2 k3, v5⟩
theorem look_some {K : PySem.W.Frag} {H : Hp} {as : List Addr} {kk : NestedKey} : ∀ {l : List (NestedKey × Addr × V)} {kvs : List (D × D)}, DRel K H as l kvs → ((dLook kvs kk).isSome = true ↔ kk ∈ l.map (·.1))
  | _, _, .nil => by simp [dLook]
  | _, _, @DRel.cons _ _ _ k' b v q d l kvs h1 h2 h3 t => by
    have ih := look_some (kk := kk) t
    by_cases c : k' = kk
    · subst c
      have : dLook ((q, d) :: kvs) k' = some d := by
        unfold dLook
        rw [List.find?_cons, h1]
        simp
      rw [this]
      simp
    · have : dLook ((q, d) :: kvs) kk = dLook kvs kk := by
        unfold dLook
        rw [List.find?_cons, h1]
        have : (some k' == some kk) = false := beq_eq_false_iff_ne.mpr fun e => c (Option.some.inj e)
        rw [this]
      rw [this, ih, List.map_cons, List.mem_cons]
      exact ⟨.inr, fun h => h.resolve_left fun e => c e.symm⟩
theorem at_some {kk : NestedKey} : ∀ {l : List (NestedKey × Addr × V)} {xs : List (NestedKey × Addr × Value)}, Paired PX l xs → ((atKey xs kk).isSome = true ↔ kk ∈ l.map (·.1))
  | _, _, .nil => by simp [atKey]
  | _, _, @Paired.cons _ _ _ p x l xs h t => by
    have ih := at_some (kk := kk) t
    by_cases c : x.1 = kk
    · have : (atKey (x :: xs) kk).isSome = true := by
        unfold atKey
        rw [List.find?_cons, decide_eq_true c]
        rfl
      rw [this, List.map_cons, List.mem_cons]
      exact ⟨fun _ => .inl (by rw [← c, h.1]), fun _ => rfl⟩
    · have : atKey (x :: xs) kk = atKey xs kk := by
        unfold atKey
        rw [List.find?_cons, decide_eq_false c]
      rw [this, ih, List.map_cons, List.mem_cons]
      exact ⟨.inr, fun e => e.resolve_left fun e => c (by rw [h.1, e])⟩
def putE (kk : NestedKey) (v : V) (p : NestedKey × Addr × V) : NestedKey × Addr × V := if p.1 = kk then (p.1, p.2.1, v) else p
theorem putE_keys {kk : NestedKey} {v : V} (l : List (NestedKey × Addr × V)) : (l.map (putE kk v)).map (·.1) = l.map (·.1) := by
  rw [List.map_map]
  refine List.map_congr_left fun p _ => ?_
  show (putE kk v p).1 = p.1
  unfold putE
  split <;> rfl
theorem px_put {kk : NestedKey} {v : V} {u : Value} (r : RelV v u) : ∀ {l : List (NestedKey × Addr × V)} {xs : List (NestedKey × Addr × Value)}, Paired PX l xs → Paired PX (l.map (putE kk v)) (xs.map (putAt kk u))
  | _, _, .nil => .nil
  | _, _, .cons h t => .cons (by
      unfold putE putAt
      rw [h.1]
      split
      · exact ⟨rfl, h.2.1, r⟩
      · exact h) (px_put r t)
theorem drel_put {K : PySem.W.Frag} {H : Hp} {as : List Addr} {kk : NestedKey} {v : V} {dv : D} (r : Rep K H as v dv) : ∀ {l : List (NestedKey × Addr × V)} {kvs : List (D × D)}, DRel K H as l kvs → DRel K H as (l.map (putE kk v)) (kvs.map fun p => if kd p.1 = some kk then (p.1, dv) else p)
  | _, _, .nil => .nil
  | _, _, @DRel.cons _ _ _ k' b v' q d l kvs h1 h2 h3 t => by
    rw [List.map_cons, List.map_cons]
    unfold putE
    by_cases c : k' = kk
    · rw [if_pos c, if_pos (by rw [h1, c])]
      exact .cons h1 h2 r (drel_put r t)
    · rw [if_neg c, if_neg (by rw [h1]; exact fun e => c (Option.some.inj e))]
      exact .cons h1 h2 h3 (drel_put r t)
theorem drel_app {K : PySem.W.Frag} {H : Hp} {as : List Addr} {kk : NestedKey} {b : Addr} {v : V} {q d : D} (h1 : kd q = some kk) (h2 : Rep K H as (.ref b) q) (h3 : Rep K H as v d) : ∀ {l : List (NestedKey × Addr × V)} {kvs : List (D × D)}, DRel K H as l kvs → DRel K H as (l ++ [(kk, b, v)]) (kvs ++ [(q, d)])
  | _, _, .nil => .cons h1 h2 h3 .nil
  | _, _, .cons g1 g2 g3 t => .cons g1 g2 g3 (drel_app h1 h2 h3 t)
theorem px_app {kk : NestedKey} {b : Addr} {v : V} {u : Value} (r : RelV v u) : ∀ {l : List (NestedKey × Addr × V)} {xs : List (NestedKey × Addr × Value)}, Paired PX l xs → Paired PX (l ++ [(kk, b, v)]) (xs ++ [(kk, b, u)])
  | _, _, .nil => .cons ⟨rfl, rfl, r⟩ .nil
  | _, _, .cons h t => .cons h (px_app r t)
def rset (X : Cx) : TSet := fun o i v H Q => ∃ (E : XK) (as : List Addr) (m : Mu) (dx dk dv : D), HRep X.prog X.w X.K as m H ∧ Rep X.K H as o dx ∧ Rep X.K H as i dk ∧ Rep X.K H as v dv ∧ Vg (β := Unit) X.prog X.w X.K X.mg (fun _ _ _ _ => True) as H (dSet dx dk dv m) (fun _ H' => Q H') E
theorem set_ok (hu : X.A.units + 200 < cLine) : PSet X (rset X) := by
  intro pins s σ H o i v ov iv u Q I ro ri rv ⟨E, as, m, dx, dk, dv, hr, px, pk, pv, q⟩
  cases px with
  | @ref a n h1 =>
    have q : Vg (β := Unit) X.prog X.w X.K X.mg (fun _ _ _ _ => True) as H (match (generalizing := false) m[n]?, dk with
      | some (.lst xs), .int i => (match L2.ixN xs.length i with
        | some j => .ok () (m.set n (.lst (xs.set j dv)))
        | none => .bad)
      | some (.mp kvs), .int i => if kvs.length < sizeLine then .ok () (m.set n (.mp (putI kvs i dv))) else .bad
      | some (.dct false kvs), k => (match kd k with
        | some kk => if kvs.length < sizeLine then .ok () (m.set n (.dct false (dStore kvs k dv kk))) else .bad
        | none => .bad)
      | _, _ => .bad) (fun _ H' => Q H') E := q
    cases e1 : m[n]? with
    | none => rw [e1] at q; exact False.elim q
    | some ob =>
      rw [e1] at q
      cases ob with
      | lst zs =>
        cases pk with
        | int k =>
          dsimp only at q
          cases e2 : ixN zs.length k with
          | none => rw [e2] at q; exact False.elim q
          | some j =>
            rw [e2] at q
            obtain ⟨vs, g1, g2, g3⟩ := hr.lst h1 e1
            refine set_list pins s σ H _ _ v ov iv u Q I ro ri rv ⟨a, vs, k, j, rfl, rfl, g1, by rw [g3.length]; exact e2, ?_⟩
            obtain ⟨kp, hr'⟩ := hr.upd (o := .lst (zs.set j dv)) (ho := .lst (vs.set j v)) h1 (notTup g1 trivial) fun kp => .lst (by simpa using g2) ((g3.mono hr kp).set (pv.mono hr kp) j)
            exact q () _ _ kp hr' trivial
        | _ => exact False.elim q
      | mp kvs =>
        cases pk with
        | int k =>
          dsimp only at q
          by_cases hz : kvs.length < sizeLine
          · rw [if_pos hz] at q
            obtain ⟨kv, g1, g2, g3⟩ := hr.mpk h1 e1
            have hl : kv.length = kvs.length := by
              have := congrArg List.length g2
              rw [List.length_map, List.length_map] at this
              exact this
            obtain ⟨p1, p2⟩ := put_rep (k := k) pv g2 g3
            obtain rfl : ov = Value.ref a := ro
            refine d_setItem (y := .int k) (hu := by show X.A.units + 1 < cLine; omega) I (DPut.k (k := Sum.inl k) g1 (by omega)) ri rv fun s' I' => ?_
            obtain ⟨kp, hr'⟩ := hr.upd (o := .mp (putI kvs k dv)) (ho := .dK (putK kv (Sum.inl k) v)) h1 (notTup g1 trivial) fun kp => .mp p1 (p2.mono hr kp)
            exact ⟨_, I', q () _ _ kp hr' trivial⟩
          · rw [if_neg hz] at q
            exact False.elim q
        | _ => exact False.elim q
      | dct fz kvs =>
        cases fz with
        | true => cases pk <;> exact False.elim q
        | false =>
        have q : Vg (β := Unit) X.prog X.w X.K X.mg (fun _ _ _ _ => True) as H (match kd dk with
          | some kk => if kvs.length < sizeLine then .ok () (m.set n (.dct false (dStore kvs dk dv kk))) else .bad
          | none => .bad) (fun _ H' => Q H') E := by
          cases pk <;> exact q
        cases ek : kd dk with
        | none => rw [ek] at q; exact False.elim q
        | some kk =>
          rw [ek] at q
          dsimp only at q
          by_cases hz : kvs.length < sizeLine
          · rw [if_pos hz] at q
            obtain ⟨l, xs, g1, g2, g3, g4, g5, g6, g7⟩ := dct_in I hr h1 e1
            cases i with
            | ref b =>
              cases ro
              cases ri
              have hk := key_at I ek pk
              have hlen : xs.length ≤ sizeLine := by rw [px_len g6, g4.length]; exact g2
              refine wpAny_setItem_heap (hsz := hlen) (show X.A.units + 1 + 8 < cLine by omega) hk g7 fun h' hm' hs' => ?_
              have iff1 := look_some (kk := kk) g4
              have iff2 := at_some (kk := kk) g6
              obtain ⟨o, es, ep, p1, p2, p3, p4, p5, p6⟩ := hm'
              -- the entries behind
              have both : ∃ l', Paired PX l' (storedH xs kk b u) ∧ (l'.map (·.1)).Nodup ∧ (∀ H' as', DRel X.K H' as' l kvs → Rep X.K H' as' (.ref b) dk → Rep X.K H' as' v dv → DRel X.K H' as' l' (dStore kvs dk dv kk)) := by
                by_cases c : kk ∈ l.map (·.1)
                · refine ⟨l.map (putE kk v), ?_, by rw [putE_keys]; exact g3, fun H' as' d1 _ d3 => ?_⟩
                  · unfold storedH
                    rw [if_pos (iff2.mpr c)]
                    exact px_put rv g6
                  · unfold dStore
                    rw [if_pos (iff1.mpr c)]
                    exact drel_put d3 d1
                · refine ⟨l ++ [(kk, b, v)], ?_, ?_, fun H' as' d1 d2 d3 => ?_⟩
                  · unfold storedH
                    rw [if_neg fun e => c (iff2.mp e)]
                    exact px_app rv g6
                  · rw [List.map_append, List.nodup_append]
                    refine ⟨g3, by simp, fun x hx y hy e => c ?_⟩
                    have : y = kk := by simpa using hy
                    rw [← this, ← e]
                    exact hx
                  · unfold dStore
                    rw [if_neg fun e => c (iff1.mp e)]
                    exact drel_app ek d2 d3 d1
              obtain ⟨l', b1, b2, b3⟩ := both
              have hl' : (dStore kvs dk dv kk).length ≤ sizeLine := by
                unfold dStore
                split
                · rw [List.length_map]; omega
                · rw [List.length_append]; exact hz
              obtain ⟨kp, hr'⟩ := hr.upd (o := .dct false (dStore kvs dk dv kk)) (ho := .ext (DctAt X.prog X.w a l')) h1 (notTup g1 trivial) fun kp => .dct hl' b2 (b3 _ _ (g4.mono hr kp) (pk.mono hr kp) (pv.mono hr kp))
              have at' : DctAt X.prog X.w a l' h' := ⟨g5, o, es, ep, _, p1, p2, p3, p4, b1⟩
              have J : Inv X pins σ (upd H a (.ext (DctAt X.prog X.w a l'))) { s with heap := h', toks := s.toks + (nestedKind X.prog X.w).draws kk } :=
                d_write I (by rw [show H a = some _ from g1]; trivial) hs' ⟨o, p1⟩ ⟨at', ⟨o, p1⟩, fun h1 h2 p k => by
                  obtain ⟨z1, o', es', ep', xs', z2, z3⟩ := p
                  exact ⟨z1, o', es', ep', xs', k _ z2, z3⟩⟩
              exact ⟨_, J, q () _ _ kp hr' trivial⟩
            | _ =>
              exfalso
              cases pk <;> cases ek
          · rw [if_neg hz] at q
            exact False.elim q
      | _ => cases pk <;> exact False.elim q
  | _ => exact False.elim q
theorem s_setI {fe : Env → M D} {pos' : Pos} (hu : X.A.units + 200 < cLine) (ho : PE X a (tE X W fa)) (hi : PE X b (tE X W fb)) (he : PE X e (tE X W fe)) (hx : ∀ p q r t, b ≠ .Slice p q r t) (hs : swapsWithSole [.Subscript a b pos'] e pos.line X.env = pure false) (hw : swappedStores [.Subscript a b pos'] e X.env = pure none) :
    PS X (.Assign [.Subscript a b pos'] e pos) (tS X W fun ρ => bs ρ (fe ρ) fun v => bs ρ (fa ρ) fun x => bs ρ (fb ρ) fun k => bs ρ (dSet x k v) fun _ => ret (.nx ρ)) := by
  have hasg : ∀ v, assign (.Subscript a b pos') X.env v = (do
      let ov ← holding [v] (eval a X.env)
      let iv ← holding [v, ov] (eval b X.env)
      standAt pos'
      holding [v, ov, iv] (setItem ov iv v)
      release [v, ov, iv] []) := fun v => by
    cases b <;> first | rfl | exact absurd rfl (hx _ _ _ _)
  refine PSimp (ps_asg he (pg_sub ho hi (set_ok hu) hasg) hs hw rfl) fun Dn σ H ⟨as, m, ρ, sl, hr, v⟩ => ?_
  refine tE_mono (tE_bs sl hr v) fun x H1 ⟨as1, m1, dx, k1, hr1, sl1, rx, v1⟩ => ?_
  refine tE_mono (tE_bs sl1 hr1 v1) fun y H2 ⟨as2, m2, dy, k2, hr2, sl2, ry, v2⟩ => ?_
  refine tE_mono (tE_bs sl2 hr2 v2) fun z H3 ⟨as3, m3, dz, k3, hr3, sl3, rz, v3⟩ => ?_
  refine ⟨fun c d H' => W c d σ H', as3, m3, dy, dz, dx, hr3, ry.mono hr2 k3, rz, (rx.mono hr1 k2).mono hr2 k3, ?_⟩
  have v4 : Vg X.prog X.w X.K X.mg (fun _ _ (_ : Unit) (_ : Unit) => True) as3 H3 (dSet dy dz dx m3) (fun _ H' => Dn.nx σ H') fun c d H' => W c d σ H' :=
    (v3.bs (R := fun _ _ (_ : Unit) (_ : Unit) => True) sl3 hr3).mono fun _ H4 ⟨as4, m4, _, k4, hr4, sl4, _, v4⟩ => v4 _ _ _ Kp.refl hr4 sl4
  exact v4
theorem rg_reps {K : PySem.W.Frag} {H : Hp} {as : List Addr} {i j : Int} : Reps K H as (rgV i j) (rngL i (j - i).toNat 1) := by
  unfold rgV rngL
  generalize List.range (j - i).toNat = l
  induction l with
  | nil => exact .nil
  | cons x xs ih => exact .cons (by dsimp only; rw [Int.mul_one]; exact .int _) ih
theorem rg_inv {α β : Type} {R : List Addr → Hp → β → α → Prop} {f : Src → M α} {as : List Addr} {H : Hp} {m : Mu} {x y : V} {dx dy : D} {Q : β → Hp → Prop} {E : XK} (v : Vg X.prog X.w X.K X.mg R as H (bd (srcR2 dx dy) f m) Q E) (rx : Rep X.K H as x dx) (ry : Rep X.K H as y dy) :
    ∃ i j, x = .int i ∧ y = .int j ∧ RgOk i j ∧ (rgV i j).length ≤ sizeLine ∧ Vg X.prog X.w X.K X.mg R as H (f ⟨rngL i (j - i).toNat 1, []⟩ m) Q E := by
  cases rx with
  | int i =>
    cases ry with
    | int j =>
      have v : Vg X.prog X.w X.K X.mg R as H (bd (chk (boundI i ∧ boundI j) (ret ⟨rngL i (j - i).toNat 1, []⟩)) f m) Q E := v
      unfold Af.bd Af.chk at v
      by_cases c : boundI i ∧ boundI j
      · rw [if_pos c] at v
        obtain ⟨⟨c1, c2⟩, c3, c4⟩ := c
        exact ⟨i, j, rfl, rfl, ⟨by omega, by omega, by omega, by omega, by omega⟩, by rw [rgV_length, sizeLine_eq]; omega, v⟩
      · rw [if_neg c] at v
        exact False.elim v
    | _ => exact False.elim v
  | _ => cases ry <;> exact False.elim v
theorem e_lrng1 {p q : Pos} {t : Bool} (hc : X.calm = true) (hg : Gl X "range") (hm : X.mg "range" = none) (hg2 : Gl X (if t then "tuple" else "list")) (hm2 : X.mg (if t then "tuple" else "list") = none) (ha : PE X a (tE X W fa)) (hp : plainE a = true) :
    PE X (.Call (.Name (if t then "tuple" else "list") p) [.Call (.Name "range" q) [a] [] p2] [] pos) (tE X W fun ρ => bd (fa ρ) fun x => bd (srcR2 (.int 0) x) fun s => if t then ret (.tup s.items) else alc (.lst s.items)) := by
  cases t with
  | true =>
    refine PEimp (pe_tupRg hc hg2 hm2 (prg_1 hg hm ha (starEach_c hp)) rfl) fun σ H Q ⟨as, m, ρ, sl, hr, v⟩ => ?_
    refine tE_mono (tE_bd sl hr v) fun x H1 ⟨as1, m1, dx, sl1, hr1, k1, rx, v1⟩ => ?_
    obtain ⟨i, j, e1, rfl, ok, hz, v2⟩ := rg_inv v1 (.int 0) rx
    cases e1
    refine ⟨j, rfl, ok, fun q hq => ?_⟩
    obtain ⟨kp, hr'⟩ := hr1.tup (xs := rgV 0 j) hq
    exact v2 _ _ _ kp hr' (.tup (SqT.of upd_same) hz rg_reps)
  | false =>
    refine PEimp (pe_listRg hc hg2 hm2 (prg_1 hg hm ha (starEach_c hp)) rfl) fun σ H Q ⟨as, m, ρ, sl, hr, v⟩ => ?_
    refine tE_mono (tE_bd sl hr v) fun x H1 ⟨as1, m1, dx, sl1, hr1, k1, rx, v1⟩ => ?_
    obtain ⟨i, j, e1, rfl, ok, hz, v2⟩ := rg_inv v1 (.int 0) rx
    cases e1
    exact ⟨j, rfl, ok, fun q hq => Vg.alc v2 hr1 hq fun kp => .lst hz rg_reps⟩
theorem e_lrng2 {p q : Pos} {t : Bool} (hc : X.calm = true) (hg : Gl X "range") (hm : X.mg "range" = none) (hg2 : Gl X (if t then "tuple" else "list")) (hm2 : X.mg (if t then "tuple" else "list") = none) (ha : PE X a (tE X W fa)) (hb : PE X b (tE X W fb)) (hp : plainE a = true) (hp2 : plainE b = true) :
    PE X (.Call (.Name (if t then "tuple" else "list") p) [.Call (.Name "range" q) [a, b] [] p2] [] pos) (tE X W fun ρ => bd (fa ρ) fun x => bd (fb ρ) fun y => bd (srcR2 x y) fun s => if t then ret (.tup s.items) else alc (.lst s.items)) := by
  cases t with
  | true =>
    refine PEimp (pe_tupRg hc hg2 hm2 (prg_2 hg hm ha hb (starEach_c hp) (starEach_c hp2) (star_any (by simpa using hp2))) rfl) fun σ H Q ⟨as, m, ρ, sl, hr, v⟩ => ?_
    refine tE_mono (tE_bd sl hr v) fun x H1 ⟨as1, m1, dx, sl1, hr1, k1, rx, v1⟩ => ?_
    refine tE_mono (tE_bd sl1 hr1 v1) fun y H2 ⟨as2, m2, dy, sl2, hr2, k2, ry, v2⟩ => ?_
    obtain ⟨i, j, rfl, rfl, ok, hz, v3⟩ := rg_inv v2 (rx.mono hr1 k2) ry
    refine ⟨i, j, rfl, rfl, ok, fun q hq => ?_⟩
    obtain ⟨kp, hr'⟩ := hr2.tup (xs := rgV i j) hq
    exact v3 _ _ _ kp hr' (.tup (SqT.of upd_same) hz rg_reps)
  | false =>
    refine PEimp (pe_listRg hc hg2 hm2 (prg_2 hg hm ha hb (starEach_c hp) (starEach_c hp2) (star_any (by simpa using hp2))) rfl) fun σ H Q ⟨as, m, ρ, sl, hr, v⟩ => ?_
    refine tE_mono (tE_bd sl hr v) fun x H1 ⟨as1, m1, dx, sl1, hr1, k1, rx, v1⟩ => ?_
    refine tE_mono (tE_bd sl1 hr1 v1) fun y H2 ⟨as2, m2, dy, sl2, hr2, k2, ry, v2⟩ => ?_
    obtain ⟨i, j, rfl, rfl, ok, hz, v3⟩ := rg_inv v2 (rx.mono hr1 k2) ry
    exact ⟨i, j, rfl, rfl, ok, fun q hq => Vg.alc v3 hr2 hq fun kp => .lst hz rg_reps⟩
theorem in_ok' (hu : X.A.units + 200 < cLine) : OpR X (compareOp .In) (r2 X (cmpM .in)) :=
  in_ok (neg := false) (o := .in) hu (fun m x y => rfl) rfl fun pins s σ H as m x v dx a n fz kvs k Q I hr rx px h1 h2 ek q => by
    obtain ⟨l, xs, g1, g2, g3, g4, g5, g6, g7⟩ := dct_in I hr h1 h2
    cases x with
    | ref b =>
      cases rx
      refine wpAny_in_heap (show X.A.units + 1 + 8 < cLine by omega) (key_at I ek px) g5 g7 ?_
      have e : (atKey xs k).isSome = (dLook kvs k).isSome := by
        have i1 := look_some (kk := k) g4
        have i2 := at_some (kk := k) g6
        cases c1 : (atKey xs k).isSome <;> cases c2 : (dLook kvs k).isSome
        · rfl
        · rw [c2] at i1; rw [c1] at i2; exact absurd (i2.mpr (i1.mp rfl)) Bool.false_ne_true
        · rw [c2] at i1; rw [c1] at i2; exact absurd (i1.mpr (i2.mp rfl)) Bool.false_ne_true
        · rfl
      rw [e]
      exact ⟨.bl _, H, I.tok _, rfl, q⟩
    | _ =>
      exfalso
      cases px <;> cases ek
theorem nin_ok' (hu : X.A.units + 200 < cLine) : OpR X (compareOp .NotIn) (r2 X (cmpM .nin)) :=
  in_ok (neg := true) (o := .nin) hu (fun m x y => rfl) rfl fun pins s σ H as m x v dx a n fz kvs k Q I hr rx px h1 h2 ek q => by
    obtain ⟨l, xs, g1, g2, g3, g4, g5, g6, g7⟩ := dct_in I hr h1 h2
    cases x with
    | ref b =>
      cases rx
      refine notIn_keyed (kvs := pairsH xs) (show X.A.units + 1 + 8 < cLine by omega) (key_at I ek px) g5 ⟨xs, g7, rfl⟩ ?_
      have e : (valueAt (pairsH xs) k).isSome = (dLook kvs k).isSome := by
        rw [valueAt_pairsH, Option.isSome_map]
        have i1 := look_some (kk := k) g4
        have i2 := at_some (kk := k) g6
        cases c1 : (atKey xs k).isSome <;> cases c2 : (dLook kvs k).isSome
        · rfl
        · rw [c2] at i1; rw [c1] at i2; exact absurd (i2.mpr (i1.mp rfl)) Bool.false_ne_true
        · rw [c2] at i1; rw [c1] at i2; exact absurd (i1.mpr (i2.mp rfl)) Bool.false_ne_true
        · rfl
      rw [e]
      exact ⟨.bl _, H, I.tok _, rfl, q⟩
    | _ =>
      exfalso
      cases px <;> cases ek
theorem ix_ok' (hu : X.A.units + 200 < cLine) : IxR X (r2 X dIx) := ix_ok fun value slice pins s σ H x y v u Q I rx ry ⟨as, m, a, n, dy, fz, kvs, k, d, hr, e, h1, h2, py, ek, el, q⟩ hs => by
  subst e
  cases rx
  obtain ⟨l, xs, g1, g2, g3, g4, g5, g6, g7⟩ := dct_in I hr h1 h2
  cases y with
  | ref b =>
    cases ry
    rcases dct_look (k := k) g4 g6 with ⟨z1, _⟩ | ⟨d', v', p, z1, z2, z3, z4⟩
    · rw [z1] at el; cases el
    · rw [z1] at el
      cases el
      refine tail_any (ops := [.ref a, .ref b]) g7.typeIs PySem.F.slot_dict_getitem.lookup (wpAny_getItem_heap (show X.A.units + 1 + 8 < cLine by omega) (key_at I ek py) g7 z2 ?_) hs
      exact ⟨v', H, I.tok _, z3, q v' z4⟩
  | _ =>
    exfalso
    cases py <;> cases ek
theorem e_dct : PE X (.Dict [] [] pos) (tE X W fun _ => alc (.dct false [])) := by
  refine ⟨fun pins s σ H Q I ⟨as, m, ρ, sl, hr, v⟩ => wpAny_Dict_empty ?_⟩
  have hp : H s.heap.objs.size = none := I.hok.fresh (Nat.le_refl _)
  have at' : DctAt X.prog X.w s.heap.objs.size [] (s.heap.push { cls := .type "dict", data := .dict #[] }) := ⟨beq_eq_false_iff_ne.mpr (Ne.symm (Nat.ne_of_lt I.big)), _, #[], 0, [], Heap.get?_push_size _ rfl, ⟨rfl, rfl, rfl⟩, rfl, rfl, .nil⟩
  refine ⟨.ref s.heap.objs.size, _, I.laid (a := s.heap.objs.size) (o := .ext (DctAt X.prog X.w s.heap.objs.size [])) (t' := s.toks) (fun _ _ q => Heap.get?_push_of_some _ q) (Nat.le_refl _) ⟨at', ⟨_, Heap.get?_push_size _ rfl⟩, fun h1 h2 p k => by
    obtain ⟨z1, o', es', ep', xs', z2, z3⟩ := p
    exact ⟨z1, o', es', ep', xs', k _ z2, z3⟩⟩, rfl, Vg.alc v hr hp fun kp => .dct (Nat.zero_le _) List.nodup_nil .nil⟩
theorem e_mpd : PE X (.Dict [] [] pos) (tE X W fun _ => alc (.mp [])) :=
  PEimp pe_dnewK fun σ H Q ⟨as, m, ρ, sl, hr, v⟩ => fun p hp => Vg.alc v hr hp fun kp => .mp rfl .nil
theorem cmp_ok (hu : X.A.units + 200 < cLine) : ∀ o : Cop, OpR X (compareOp (copOf o)) (r2 X (cmpM o))
  | .eq => eq_ok hu
  | .ne => ne_ok hu
  | .lt => ord_ok (o := .lt) (g := fun i j => decide (i < j)) (fun m x y d h => by cases x <;> cases y <;> first | exact ⟨_, _, rfl, rfl, (Option.some.inj h).symm⟩ | cases h) op_lt
  | .le => ord_ok (o := .le) (g := fun i j => decide (i ≤ j)) (fun m x y d h => by cases x <;> cases y <;> first | exact ⟨_, _, rfl, rfl, (Option.some.inj h).symm⟩ | cases h) op_le
  | .gt => ord_ok (o := .gt) (g := fun i j => decide (j < i)) (fun m x y d h => by cases x <;> cases y <;> first | exact ⟨_, _, rfl, rfl, (Option.some.inj h).symm⟩ | cases h) op_gt
  | .ge => ord_ok (o := .ge) (g := fun i j => decide (j ≤ i)) (fun m x y d h => by cases x <;> cases y <;> first | exact ⟨_, _, rfl, rfl, (Option.some.inj h).symm⟩ | cases h) op_ge
  | .is => is_ok
  | .isn => isn_ok
  | .in => in_ok' hu
  | .nin => nin_ok' hu
end
end Af
namespace Af
open PySem PySem.Spec PyProof.Rows L2
abbrev sOb (w : World) : Obj := { cls := .type "set", dict := none, data := .set #[] 0 (.fresh 0 0 (!w.params.followText "set-order")) }
abbrev tuIt (l : Addr) : Obj := { cls := .type "tuple_iterator", data := .fields #[.ref l, .int 0 0] }
abbrev lIt (l : Addr) : Obj := { cls := .type "list_iterator", data := .fields #[.ref l, .int 0 0] }
section
variable {P : Program} {w : World} {A : Around} {E : Value → Shared → Prop} {s : Shared}
theorem setL_call {l : Addr} {items : Array Value} (ns : List Int) {Q : Value → Shared → Prop} (hh : A.handled = none) (hl : s.heap.IsList l items) (hit : IntsAre items.toList ns) (hb : ns.length + 1 < scanBound)
    (h : ∀ (h' : Heap) (tk c : Nat), SetR w h' s.heap.objs.size (fun j => decide (j ∈ ns)) c → c ≤ ns.length → (∀ b o, s.heap.get? b = some o → h'.get? b = some o) → Q (.ref s.heap.objs.size) { s with heap := h', toks := tk }) : wpAny (model P w) A (call (.type "set") [.ref l]) Q E s := by
  have cnt : items.size = ns.length := by have q := IntsAre.length hit; rw [Array.length_toList] at q; exact q
  obtain ⟨c0, tl0, mro0⟩ := F.called_set.mro
  have mk0 := F.called_set.made
  have sb0 := F.called_set.sub
  refine wpAny_call (codeAny_of_tree (show wpAny _ _ (callAny (.type "set") _) _ _ _ from wpAny_pure ⟨Code.quiet_builtin _ (by decide +kernel), codeAny_builtin F.entry_type_call ?_⟩))
  rw [Around.under_plain (weight_type_call_type "set" [.ref l] []) rfl]
  have f1 := F.called_set.notType
  have f2 := F.called_set.canCreate
  have f3 := F.typeCall_set_1 (.ref l)
  repeat (any_goals (first | assumption | wp_step))
  refine codeAny_mono (code_set_led1 (.ref l) (E := E) (Q₁ := fun obj s₁ => obj = .ref s.heap.objs.size ∧ s₁ = { s with heap := s.heap.push (sOb w) }) ⟨rfl, rfl⟩) fun r s₁ hr => ?_
  cases r with
  | error e => exact hr
  | ok fl =>
    cases fl with
    | ret obj =>
      obtain ⟨rfl, rfl⟩ := hr
      have new0 : (s.heap.push (sOb w)).get? s.heap.objs.size = some (sOb w) := Heap.get?_push_size _ rfl
      have ty0 : Shared.TypeIs { s with heap := s.heap.push (sOb w) } (.ref s.heap.objs.size) "set" := ⟨_, new0, rfl⟩
      have f4 := F.called_set.init.lookup
      have f5 := F.called_set.init.bind (.ref s.heap.objs.size)
      repeat (any_goals (first | assumption | wp_step))
      refine codeAny_mono (codeAny_call_builtin (R := wants (fun r s₂ => r = .none ∧ ∃ h' tk c, s₂ = { s with heap := h', toks := tk } ∧ SetR w h' s.heap.objs.size (fun j => decide (j ∈ ns)) c ∧ c ≤ ns.length ∧ (∀ b o, s.heap.get? b = some o → h'.get? b = some o)) E) F.called_set.init.plain F.entry_set_init (check_set_init_1 ty0 ?_)) fun r₂ s₂ hr₂ => ?_
      · obtain ⟨⟨lc, ldict, ldata, lslots⟩, lget, lcls, lep, ldat⟩ := hl
        simp only at lcls ldat
        subst lcls; subst ldat
        have lget' : (s.heap.push (sOb w)).get? l = some { cls := .type "list", dict := ldict, data := .seq items lep, slots := lslots } := Heap.get?_push_of_some _ lget
        have g1 := F.sub_list_set
        have g2 := F.sub_list_frozenset
        have g3 : (Value.type "list" == Value.type "dict") = false := by decide
        have isl : (s.heap.push (sOb w)).IsList l items := ⟨_, lget', rfl, lep, rfl⟩
        unfold Builtin.«set.__init__» noKeywords Builtin.Frozenset.updateFrom
        generalize e0 : pyIter = PI
        wp_walk
        subst e0
        refine wpAny_pyIter_list isl (wpAny_bind (wpAny_runValue ?_))
        have lS : l < s.heap.objs.size := Heap.lt_size lget
        have hh3 : A.in1.in1.in1.handled = none := by simp [hh]
        have ne1 : l ≠ (s.heap.push (sOb w)).objs.size := by rw [Heap.size_push]; exact Nat.ne_of_lt (Nat.lt_succ_of_lt lS)
        have ne2 : s.heap.objs.size ∉ [(s.heap.push (sOb w)).objs.size, l] := by
          rw [Heap.size_push]
          simp only [List.mem_cons, List.mem_singleton, List.not_mem_nil, or_false, not_or]
          exact ⟨Nat.ne_of_lt (Nat.lt_succ_self _), Nat.ne_of_gt lS⟩
        have vals : ∀ (i : Nat) (v : Value), items[i]? = some v → ∃ k t, ns[i]? = some k ∧ v = .int k t := fun i v hv => by
          have hi : i < ns.length := by rw [← cnt]; exact (Array.getElem?_eq_some_iff.mp hv).1
          obtain ⟨t, e⟩ := PyProof.Rows.IntsAre.int_at hit i v (by rw [Array.getElem?_toList]; exact hv)
          exact ⟨ns[i], t, List.getElem?_eq_getElem hi, by rw [e, List.getD_eq_getElem?_getD, List.getElem?_eq_getElem hi] <;> rfl⟩
        refine set_update_ints ((Walks.list hh3 _ l ne1 items).toS) s.heap.objs.size ne2 ns cnt hb vals (items.size - 0) 0 _ (by omega) (Nat.zero_le _) ⟨⟨_, Heap.get?_push_size _ rfl, rfl, rfl⟩, isl.at fun o e => Heap.get?_push_of_some _ e⟩ ?_ ?_
        · have z : ((s.heap.push (sOb w)).push (lIt l)).get? s.heap.objs.size = some (sOb w) := Heap.get?_push_of_some _ new0
          exact ⟨0, Nat.le_refl 0, setR_new_at z⟩
        · intro s' c' hm hc' hS'
          obtain ⟨h', gg, dd, tk', oo⟩ := s'
          have eg : gg = s.gens := hm.gens
          have ed : dd = s.drawn := hm.drawn
          have eo : oo = s.os := hm.os
          subst eg; subst ed; subst eo
          rw [cnt] at hc'
          refine wpAny_pure (show wpAny _ _ (PySem.ret Value.none) _ _ _ from wpAny_pure ⟨rfl, h', tk', c', rfl, hS', hc', fun b o e => ?_⟩)
          have b0 : b < s.heap.objs.size := Heap.lt_size e
          have b1 : b ≠ s.heap.objs.size := Nat.ne_of_lt b0
          have b2 : b ≠ (s.heap.push (sOb w)).objs.size := by rw [Heap.size_push]; exact Nat.ne_of_lt (Nat.lt_succ_of_lt b0)
          exact hm.heap b o (by simp only [List.mem_cons, List.mem_singleton, List.not_mem_nil, or_false, not_or]; exact ⟨b1, b2⟩) (Heap.get?_push_of_some _ (Heap.get?_push_of_some _ e))
      · cases r₂ with
        | error e => exact hr₂
        | ok fl₂ =>
          cases fl₂ with
          | ret r =>
            obtain ⟨rfl, h', tk, c', rfl, hS', hc', hk'⟩ := hr₂
            repeat (any_goals (first | assumption | wp_step))
            exact h _ _ _ hS' hc' hk'
          | _ => exact hr₂.elim
    | _ => exact hr.elim
theorem setT_call {l : Addr} {items : Array Value} (ns : List Int) {Q : Value → Shared → Prop} (hh : A.handled = none) (hl : s.heap.IsTuple l items) (hit : IntsAre items.toList ns) (hb : ns.length + 1 < scanBound)
    (h : ∀ (h' : Heap) (tk c : Nat), SetR w h' s.heap.objs.size (fun j => decide (j ∈ ns)) c → c ≤ ns.length → (∀ b o, s.heap.get? b = some o → h'.get? b = some o) → Q (.ref s.heap.objs.size) { s with heap := h', toks := tk }) : wpAny (model P w) A (call (.type "set") [.ref l]) Q E s := by
  have cnt : items.size = ns.length := by have q := IntsAre.length hit; rw [Array.length_toList] at q; exact q
  obtain ⟨c0, tl0, mro0⟩ := F.called_set.mro
  have mk0 := F.called_set.made
  have sb0 := F.called_set.sub
  refine wpAny_call (codeAny_of_tree (show wpAny _ _ (callAny (.type "set") _) _ _ _ from wpAny_pure ⟨Code.quiet_builtin _ (by decide +kernel), codeAny_builtin F.entry_type_call ?_⟩))
  rw [Around.under_plain (weight_type_call_type "set" [.ref l] []) rfl]
  have f1 := F.called_set.notType
  have f2 := F.called_set.canCreate
  have f3 := F.typeCall_set_1 (.ref l)
  repeat (any_goals (first | assumption | wp_step))
  refine codeAny_mono (code_set_led1 (.ref l) (E := E) (Q₁ := fun obj s₁ => obj = .ref s.heap.objs.size ∧ s₁ = { s with heap := s.heap.push (sOb w) }) ⟨rfl, rfl⟩) fun r s₁ hr => ?_
  cases r with
  | error e => exact hr
  | ok fl =>
    cases fl with
    | ret obj =>
      obtain ⟨rfl, rfl⟩ := hr
      have new0 : (s.heap.push (sOb w)).get? s.heap.objs.size = some (sOb w) := Heap.get?_push_size _ rfl
      have ty0 : Shared.TypeIs { s with heap := s.heap.push (sOb w) } (.ref s.heap.objs.size) "set" := ⟨_, new0, rfl⟩
      have f4 := F.called_set.init.lookup
      have f5 := F.called_set.init.bind (.ref s.heap.objs.size)
      repeat (any_goals (first | assumption | wp_step))
      refine codeAny_mono (codeAny_call_builtin (R := wants (fun r s₂ => r = .none ∧ ∃ h' tk c, s₂ = { s with heap := h', toks := tk } ∧ SetR w h' s.heap.objs.size (fun j => decide (j ∈ ns)) c ∧ c ≤ ns.length ∧ (∀ b o, s.heap.get? b = some o → h'.get? b = some o)) E) F.called_set.init.plain F.entry_set_init (check_set_init_1 ty0 ?_)) fun r₂ s₂ hr₂ => ?_
      · obtain ⟨⟨lc, ldict, ldata, lslots⟩, lget, lcls, lep, ldat⟩ := hl
        simp only at lcls ldat
        subst lcls; subst ldat
        have lget' : (s.heap.push (sOb w)).get? l = some { cls := .type "tuple", dict := ldict, data := .seq items lep, slots := lslots } := Heap.get?_push_of_some _ lget
        have g1 := F.sub_tuple_set
        have g2 := F.sub_tuple_frozenset
        have g3 : (Value.type "tuple" == Value.type "dict") = false := by decide
        have isl : (s.heap.push (sOb w)).IsTuple l items := ⟨_, lget', rfl, lep, rfl⟩
        unfold Builtin.«set.__init__» noKeywords Builtin.Frozenset.updateFrom
        generalize e0 : pyIter = PI
        wp_walk
        subst e0
        refine wpAny_pyIter_tuple isl (wpAny_bind (wpAny_runValue ?_))
        have lS : l < s.heap.objs.size := Heap.lt_size lget
        have hh3 : A.in1.in1.in1.handled = none := by simp [hh]
        have ne1 : l ≠ (s.heap.push (sOb w)).objs.size := by rw [Heap.size_push]; exact Nat.ne_of_lt (Nat.lt_succ_of_lt lS)
        have ne2 : s.heap.objs.size ∉ [(s.heap.push (sOb w)).objs.size, l] := by
          rw [Heap.size_push]
          simp only [List.mem_cons, List.mem_singleton, List.not_mem_nil, or_false, not_or]
          exact ⟨Nat.ne_of_lt (Nat.lt_succ_self _), Nat.ne_of_gt lS⟩
        have vals : ∀ (i : Nat) (v : Value), items[i]? = some v → ∃ k t, ns[i]? = some k ∧ v = .int k t := fun i v hv => by
          have hi : i < ns.length := by rw [← cnt]; exact (Array.getElem?_eq_some_iff.mp hv).1
          obtain ⟨t, e⟩ := PyProof.Rows.IntsAre.int_at hit i v (by rw [Array.getElem?_toList]; exact hv)
          exact ⟨ns[i], t, List.getElem?_eq_getElem hi, by rw [e, List.getD_eq_getElem?_getD, List.getElem?_eq_getElem hi] <;> rfl⟩
        refine set_update_ints ((Walks.tuple hh3 _ l ne1 items).toS) s.heap.objs.size ne2 ns cnt hb vals (items.size - 0) 0 _ (by omega) (Nat.zero_le _) ⟨⟨_, Heap.get?_push_size _ rfl, rfl, rfl⟩, isl.at fun o e => Heap.get?_push_of_some _ e⟩ ?_ ?_
        · have z : ((s.heap.push (sOb w)).push (tuIt l)).get? s.heap.objs.size = some (sOb w) := Heap.get?_push_of_some _ new0
          exact ⟨0, Nat.le_refl 0, setR_new_at z⟩
        · intro s' c' hm hc' hS'
          obtain ⟨h', gg, dd, tk', oo⟩ := s'
          have eg : gg = s.gens := hm.gens
          have ed : dd = s.drawn := hm.drawn
          have eo : oo = s.os := hm.os
          subst eg; subst ed; subst eo
          rw [cnt] at hc'
          refine wpAny_pure (show wpAny _ _ (PySem.ret Value.none) _ _ _ from wpAny_pure ⟨rfl, h', tk', c', rfl, hS', hc', fun b o e => ?_⟩)
          have b0 : b < s.heap.objs.size := Heap.lt_size e
          have b1 : b ≠ s.heap.objs.size := Nat.ne_of_lt b0
          have b2 : b ≠ (s.heap.push (sOb w)).objs.size := by rw [Heap.size_push]; exact Nat.ne_of_lt (Nat.lt_succ_of_lt b0)
          exact hm.heap b o (by simp only [List.mem_cons, List.mem_singleton, List.not_mem_nil, or_false, not_or]; exact ⟨b1, b2⟩) (Heap.get?_push_of_some _ (Heap.get?_push_of_some _ e))
      · cases r₂ with
        | error e => exact hr₂
        | ok fl₂ =>
          cases fl₂ with
          | ret r =>
            obtain ⟨rfl, h', tk, c', rfl, hS', hc', hk'⟩ := hr₂
            repeat (any_goals (first | assumption | wp_step))
            exact h _ _ _ hS' hc' hk'
          | _ => exact hr₂.elim
    | _ => exact hr.elim
end
theorem mem_insI {k j : Int} : ∀ {l : List Int}, j ∈ insI k l ↔ j = k ∨ j ∈ l
  | [] => by simp [insI]
  | x :: r => by
    unfold insI
    by_cases c : k < x
    · rw [if_pos c]; simp
    · rw [if_neg c]
      by_cases c2 : k = x
      · rw [if_pos c2, c2]
        simp
      · rw [if_neg c2, List.mem_cons, mem_insI, List.mem_cons]
        constructor
        · rintro (h | h | h)
          · exact .inr (.inl h)
          · exact .inl h
          · exact .inr (.inr h)
        · rintro (h | h | h)
          · exact .inr (.inl h)
          · exact .inl h
          · exact .inr (.inr h)
theorem asc_insI {k : Int} : ∀ {l : List Int}, l.Pairwise (· < ·) → (insI k l).Pairwise (· < ·)
  | [], _ => by simp [insI]
  | x :: r, h => by
    obtain ⟨h1, h2⟩ := List.pairwise_cons.mp h
    unfold insI
    by_cases c : k < x
    · rw [if_pos c]
      refine List.pairwise_cons.mpr ⟨fun y hy => ?_, h⟩
      rcases List.mem_cons.mp hy with e | hy
      · rw [e]; exact c
      · have := h1 y hy; omega
    · rw [if_neg c]
      by_cases c2 : k = x
      · rw [if_pos c2]; exact h
      · rw [if_neg c2]
        refine List.pairwise_cons.mpr ⟨fun y hy => ?_, asc_insI h2⟩
        rcases mem_insI.mp hy with e | hy
        · omega
        · exact h1 y hy
theorem asc_ssI : ∀ l : List Int, (ssI l).Pairwise (· < ·)
  | [] => List.Pairwise.nil
  | x :: r => asc_insI (asc_ssI r)
theorem mem_ssI {j : Int} : ∀ {l : List Int}, j ∈ ssI l ↔ j ∈ l
  | [] => Iff.rfl
  | x :: r => by
    show j ∈ insI x (ssI r) ↔ _
    rw [mem_insI, mem_ssI, List.mem_cons]
theorem asc_uniq : ∀ {a b : List Int}, a.Pairwise (· < ·) → b.Pairwise (· < ·) → (∀ k, k ∈ a ↔ k ∈ b) → a = b
  | [], [], _, _, _ => rfl
  | [], y :: b, _, _, h => by have := (h y).mpr List.mem_cons_self; cases this
  | x :: a, [], _, _, h => by have := (h x).mp List.mem_cons_self; cases this
  | x :: a, y :: b, h1, h2, h => by
    obtain ⟨p1, p2⟩ := List.pairwise_cons.mp h1
    obtain ⟨q1, q2⟩ := List.pairwise_cons.mp h2
    have e : x = y := by
      rcases List.mem_cons.mp ((h x).mp List.mem_cons_self) with e | hx
      · exact e
      · rcases List.mem_cons.mp ((h y).mpr List.mem_cons_self) with e | hy
        · exact e.symm
        · have := p1 y hy
          have := q1 x hx
          omega
    subst e
    rw [asc_uniq p2 q2 fun k => ?_]
    constructor
    · intro hk
      rcases List.mem_cons.mp ((h k).mp (List.mem_cons_of_mem _ hk)) with e | hk'
      · have := p1 k hk; omega
      · exact hk'
    · intro hk
      rcases List.mem_cons.mp ((h k).mpr (List.mem_cons_of_mem _ hk)) with e | hk'
      · have := q1 k hk; omega
      · exact hk'
theorem ints_rep {K : PySem.W.Frag} {H : Hp} {as : List Addr} : ∀ {vs : List V} {ds : List D} {is : List Int}, Reps K H as vs ds → intsO ds = some is → vs = is.map V.int
  | [], _, is, h, e => by cases h; cases e; rfl
  | v :: vs, _, is, h, e => by
    cases h with
    | @cons _ d _ ds r t =>
      cases r with
      | int i =>
        have e : (intsO ds).map (i :: ·) = some is := e
        cases e2 : intsO ds with
        | none => rw [e2] at e; cases e
        | some js =>
          rw [e2] at e
          cases e
          rw [ints_rep t e2]
          rfl
      | _ => cases e
theorem reps_ints {K : PySem.W.Frag} {H : Hp} {as : List Addr} : ∀ is : List Int, Reps K H as (is.map V.int) (is.map D.int)
  | [] => .nil
  | i :: r => .cons (.int i) (reps_ints r)
theorem HRep.more {P : Program} {w : World} {K : PySem.W.Frag} {as : List Addr} {m : Mu} {H : Hp} (r : HRep P w K as m H) {p : Addr} {ho : HO} (hp : H p = none) : Kp as as H (L2.upd H p ho) ∧ HRep P w K as m (L2.upd H p ho) := by
  have kp : Kp as as H (L2.upd H p ho) := ⟨⟨⟨[], by simp⟩, fun b o h n => ⟨by rw [upd_ne (ne_of_none h hp)]; exact h, n⟩⟩, fun b o u h => by rw [upd_ne (ne_of_none h hp)]; exact h⟩
  refine ⟨kp, r.len, r.nd, fun n o a h1 h2 => ?_⟩
  obtain ⟨ho', h3, h4⟩ := r.ob n o a h1 h2
  exact ⟨ho', by rw [upd_ne (ne_of_none h3 hp)]; exact h3, h4.mono r kp⟩
section
variable {X : Cx} {W : WX} {a b : Expr} {fa fb : Env → M D} {pos p2 : Pos}
def rSetL (K : PySem.W.Frag) (w : World) : List V → Hp → VK → Prop := fun vs H Q => ∃ (a : Addr) (ns : List Int), vs = [.ref a] ∧ (SqL K H a (ns.map V.int) ∨ SqT K H a (ns.map V.int)) ∧ ns.length ≤ 60 ∧ ∀ p c, H p = none → c ≤ ns.length → Q (.ref p) (upd H p (SetO w p (fun j => decide (j ∈ ns)) c))
theorem cr_setL (hc : X.calm = true) : CallR X (.type "set") (rSetL X.K X.w) := by
  intro pins s σ H xs us Q I r h
  obtain ⟨l, ns, rfl, hq, h60, q⟩ := h
  rw [Vals.ref1 r]
  rcases hq with hq | hq
  · obtain ⟨its, rv, p, hz⟩ := I.list hq
    refine setL_call ns (I.ok.hd hc) p.isList (by simpa using intsAre_of rv) (Nat.lt_of_le_of_lt (Nat.succ_le_succ h60) (by decide)) fun h' tk c R hcn k => ?_
    exact ⟨.ref s.heap.objs.size, _, I.laid (t' := tk) (fun b o e => k b o e) (Nat.le_refl _) (setO_new R), rfl, q _ c (I.hok.fresh (Nat.le_refl _)) hcn⟩
  · obtain ⟨its, rv, p, hz⟩ := I.tuple hq
    refine setT_call ns (I.ok.hd hc) p (by simpa using intsAre_of rv) (Nat.lt_of_le_of_lt (Nat.succ_le_succ h60) (by decide)) fun h' tk c R hcn k => ?_
    exact ⟨.ref s.heap.objs.size, _, I.laid (t' := tk) (fun b o e => k b o e) (Nat.le_refl _) (setO_new R), rfl, q _ c (I.hok.fresh (Nat.le_refl _)) hcn⟩
theorem e_sset {p q : Pos} (hc : X.calm = true) (hg : Gl X "sorted") (hm : X.mg "sorted" = none) (hg2 : Gl X "set") (hm2 : X.mg "set" = none) (ha : PE X a (tE X W fa)) (hp : plainE a = true) :
    PE X (.Call (.Name "sorted" p) [.Call (.Name "set" q) [a] [] p2] [] pos) (tE X W fun ρ => bd (fa ρ) sset1) := by
  refine PEimp (pe_callB (cr_sortedSet hc) hg hm (by decide +kernel) (pa_cons (pe_callTy (cr_setL hc) hg2 hm2 (by decide +kernel) (pa_cons ha pa_nil (starEach_c hp)) (by decide) (by decide) (starEach_c hp) rfl) pa_nil rfl)) fun σ H Q ⟨as, m, ρ, sl, hr, v⟩ => ?_
  refine tE_mono (tE_bd sl hr v) fun x H1 ⟨as1, m1, dx, sl1, hr1, k1, rx, v1⟩ => ?_
  cases rx with
  | @ref l n h1 =>
    have v1 : Vg X.prog X.w X.K X.mg (RD X.K) as1 H1 (match (lstAt m1 n).bind intsO with
      | some is => if is.length ≤ 60 then alc (.lst ((ssI is).map D.int)) m1 else .bad
      | none => .bad) Q fun c d H' => W c d σ H' := v1
    cases e : lstAt m1 n with
    | none => rw [e] at v1; exact False.elim v1
    | some ds =>
      rw [e] at v1
      cases e2 : intsO ds with
      | none => rw [show (some ds).bind intsO = none from e2] at v1; exact False.elim v1
      | some is =>
        rw [show (some ds).bind intsO = some is from e2] at v1
        dsimp only at v1
        by_cases c : is.length ≤ 60
        · rw [if_pos c] at v1
          obtain ⟨vs, g1, g2, g3⟩ := hr1.read h1 e
          have ev := ints_rep g3 e2
          subst ev
          refine ⟨l, is, rfl, .inl g1, c, fun p cc hp hcc => ?_⟩
          obtain ⟨kp, hr2⟩ := hr1.more (ho := SetO X.w p (fun j => decide (j ∈ is)) cc) hp
          refine ⟨p, _, cc, rfl, upd_same, by omega, fun ns q n1 n2 n3 hq => ?_⟩
          have en : ns = ssI is := asc_uniq n1 (asc_ssI is) fun k => by rw [n2, mem_ssI, decide_eq_true_eq]
          subst en
          have hz : (ssI is).length ≤ sizeLine := by rw [sizeLine_eq]; omega
          exact Vg.alc (v1.kp kp) hr2 hq fun kp' => .lst (by rw [List.length_map]; exact hz) (reps_ints _)
        · rw [if_neg c] at v1
          exact False.elim v1
  | @tup l xs ds h1 h2 h3 =>
    have v1 : Vg X.prog X.w X.K X.mg (RD X.K) as1 H1 (match intsO ds with
      | some is => if is.length ≤ 60 then alc (.lst ((ssI is).map D.int)) m1 else .bad
      | none => .bad) Q fun c d H' => W c d σ H' := v1
    cases e2 : intsO ds with
    | none => rw [e2] at v1; exact False.elim v1
    | some is =>
      rw [e2] at v1
      dsimp only at v1
      by_cases c : is.length ≤ 60
      · rw [if_pos c] at v1
        have ev := ints_rep h3 e2
        subst ev
        refine ⟨l, is, rfl, .inr h1, c, fun p cc hp hcc => ?_⟩
        obtain ⟨kp, hr2⟩ := hr1.more (ho := SetO X.w p (fun j => decide (j ∈ is)) cc) hp
        refine ⟨p, _, cc, rfl, upd_same, by omega, fun ns q n1 n2 n3 hq => ?_⟩
        have en : ns = ssI is := asc_uniq n1 (asc_ssI is) fun k => by rw [n2, mem_ssI, decide_eq_true_eq]
        subst en
        have hz : (ssI is).length ≤ sizeLine := by rw [sizeLine_eq]; omega
        exact Vg.alc (v1.kp kp) hr2 hq fun kp' => .lst (by rw [List.length_map]; exact hz) (reps_ints _)
      · rw [if_neg c] at v1
        exact False.elim v1
  | _ => exact False.elim v1
end
section
variable {prog : Program} {w : World} {A : Around} {E : Value → Shared → Prop} {s : Shared}
theorem adj_rev (n : Nat) : Builtin.Slice.sliceAdjust none none (-1) (n : Int) = ((n : Int) - 1, -1) := rfl
theorem plc_rev (n : Nat) : Builtin.Slice.slicePlaces ((n : Int) - 1) (-1) (-1) = n := by
  unfold Builtin.Slice.slicePlaces
  rw [if_neg (by decide)]
  by_cases h : (n : Int) - 1 > -1
  · rw [if_pos h]
    have : ((n : Int) - 1 - -1 - 1) / (- -1) + 1 = n := by
      rw [show (- -1 : Int) = 1 by decide, Int.ediv_one]
      omega
    omega
  · rw [if_neg h]
    omega
theorem pick_rev (xs : Array Value) : ((List.range xs.size).filterMap fun (m : Nat) => xs[(((xs.size : Int) - 1) + (m : Int) * (-1)).toNat]?).toArray = xs.toList.reverse.toArray := by
  congr 1
  apply List.ext_getElem?
  intro i
  have e : (List.range xs.size).filterMap (fun (m : Nat) => xs[(((xs.size : Int) - 1) + (m : Int) * (-1)).toNat]?) = (List.range xs.size).map fun m => (xs[xs.size - 1 - m]?).getD .none := by
    rw [← List.filterMap_eq_map]
    have : ∀ l : List Nat, (∀ m ∈ l, m < xs.size) → l.filterMap (fun (m : Nat) => xs[(((xs.size : Int) - 1) + (m : Int) * (-1)).toNat]?) = l.filterMap (some ∘ fun m => (xs[xs.size - 1 - m]?).getD .none) := by
      intro l
      induction l with
      | nil => intro _; rfl
      | cons a l ih =>
        intro h
        have ha := h a List.mem_cons_self
        have e9 : (some ∘ fun m => (xs[xs.size - 1 - m]?).getD .none) a = some xs[xs.size - 1 - a] := by
          show some ((xs[xs.size - 1 - a]?).getD .none) = _
          rw [Array.getElem?_eq_getElem (by omega)]
          rfl
        rw [List.filterMap_cons, List.filterMap_cons, e9, ih fun m hm => h m (List.mem_cons_of_mem _ hm), show (((xs.size : Int) - 1) + (a : Int) * (-1)).toNat = xs.size - 1 - a by omega, Array.getElem?_eq_getElem (by omega)]
    exact this _ fun m hm => List.mem_range.mp hm
  rw [e]
  by_cases h : i < xs.size
  · rw [List.getElem?_map, List.getElem?_range h, List.getElem?_reverse (by simpa using h)]
    simp only [Option.map_some, Array.length_toList, Array.getElem?_toList]
    rw [Array.getElem?_eq_getElem (by omega)]
    rfl
  · rw [List.getElem?_eq_none (by simpa using h), List.getElem?_eq_none (by simpa using h)]
theorem app_rev {sl : Addr} {n : Nat} {u : Tok} {Q : Int × Int × Nat → Shared → Prop} (hs : s.heap.IsSliceOf sl .none .none (.int (-1) u)) (h : Q ((n : Int) - 1, -1, n) s) : wpAny (model prog w) A (Builtin.Slice.sliceApplied (.ref sl) (pure (n : Int))) Q E s := by
  obtain ⟨ob, e1, e2, e3⟩ := hs
  unfold Builtin.Slice.sliceApplied Builtin.Slice.sliceFields
  refine wpAny_bind (wpAny_bind (wpAny_field e1 e3 (x := .none) rfl (wpAny_bind (wpAny_field e1 e3 (x := .none) rfl (wpAny_bind (wpAny_field e1 e3 (x := .int (-1) u) rfl (wpAny_pure ?_)))))))
  refine wpAny_bind (slicePart_int ?_)
  show wpAny _ _ (if ((-1 : Int) == 0) = true then _ else _) _ _ s
  rw [if_neg (by decide)]
  refine wpAny_bind (slicePart_none (wpAny_bind (slicePart_none (wpAny_bind (wpAny_pure ?_)))))
  show wpAny _ _ (match Builtin.Slice.sliceAdjust none none (-1) (n : Int) with | (lo, hi) => pure (lo, (-1 : Int), Builtin.Slice.slicePlaces lo hi (-1))) _ _ s
  rw [adj_rev n]
  show wpAny _ _ (pure ((n : Int) - 1, (-1 : Int), Builtin.Slice.slicePlaces ((n : Int) - 1) (-1) (-1))) _ _ s
  rw [plc_rev]
  exact wpAny_pure h
theorem get_rev {t sl : Addr} {items : Array Value} {u : Tok} {Q : Value → Shared → Prop} (ht : IsTup s.heap t items) (hs : s.heap.IsSliceOf sl .none .none (.int (-1) u)) (hz : items.size ≤ sizeLine)
    (h : Q (.ref s.heap.objs.size) { s with heap := s.heap.push { cls := .type "tuple", data := .seq items.toList.reverse.toArray } }) : wpAny (model prog w) A (getItem (.ref t) (.ref sl)) Q E s := by
  have sz : sizeOk (.seq items.toList.reverse.toArray) := by
    show items.toList.reverse.toArray.size ≤ sizeLine
    rw [List.size_toArray, List.length_reverse, Array.length_toList]
    exact hz
  obtain ⟨ob, e1, e2, e3⟩ := id hs
  have ty : s.TypeIs (.ref sl) "slice" := ⟨ob, e1, e2⟩
  unfold getItem
  try with_reducible refine wpAny_holding ?_
  first | refine wpAny_bind (wpAny_pure ?_) | skip
  refine wpAny_bind (wpAny_sequenceKey ht.typeIs (by decide) (wpAny_bind (wpAny_callSpecial?_slot (name := Str.ofString "__getitem__") ht.typeIs PyProof.Rows.slot_tuple_getitem (wpAny_call_entry PyProof.Rows.slot_tuple_getitem ht.typeIs entry_tuple_getitem ?_ (args_tuple_getitem _ _)))))
  show wpAny _ _ (Builtin.Tuple.tupleItemsOf (.ref t) >>= _) _ _ s
  refine wpAny_bind (tupleItemsOf_ ht (wpAny_bind (wpAny_typeOf ty ?_)))
  rw [if_pos (by decide)]
  refine wpAny_bind (app_rev hs ?_)
  show wpAny _ _ (if (((items.size : Int) - 1) == 0 && (-1 : Int) == 1 && items.size == items.size) = true then _ else _) _ _ s
  rw [if_neg (by simp), pick_rev]
  first
    | exact wpAny_bind (m := Builtin.Tuple.tupleExact _) (wpAny_newObj_type (wpAny_pure ⟨_, rfl, wpAny_pure h⟩) sz)
    | exact wpAny_bind (m := Builtin.Tuple.tupleExact _) (wpAny_newObj_type (wpAny_bind (wpAny_pure (wpAny_pure ⟨_, rfl, wpAny_pure h⟩))) sz)
    | exact wpAny_bind (wpAny_bind (m := Builtin.Tuple.tupleExact _) (wpAny_newObj_type (wpAny_pure (wpAny_pure ⟨_, rfl, wpAny_pure h⟩)) sz))
    | exact wpAny_bind (wpAny_bind (m := Builtin.Tuple.tupleExact _) (wpAny_newObj_type (wpAny_pure ⟨_, rfl, wpAny_pure h⟩) sz))
end
section
variable {X : Cx} {W : WX} {a b : Expr} {fa fb : Env → M D} {pos p2 : Pos}
theorem vals_rev : ∀ {xs : List V} {us : List Value}, Vals xs us → Vals xs.reverse us.reverse
  | _, _, .nil => .nil
  | _, _, .cons r t => by
    rw [List.reverse_cons, List.reverse_cons]
    exact (vals_rev t).append (.cons r .nil)
theorem e_slR (ha : PE X a (tE X W fa)) (hb : PE X b (tE X W fb)) : PE X (.Subscript a (.Slice none none (some b) p2) pos) (tE X W fun ρ => bd (fa ρ) fun x => bd (fb ρ) fun k => dRev x k) := by
  refine ⟨fun pins s σ H Q I ⟨as, m, ρ, sl, hr, v⟩ => ?_⟩
  refine Subscript_ (thn (ha.run pins s σ H _ I (tE_bd sl hr v)) fun u1 s1 ⟨x, H1, I1, r1, as1, m1, dx, sl1, hr1, k1, rx, v1⟩ => ?_)
  refine wpAny_Slice ?_
  rw [evalPart_none]
  refine wpAny_pure (wpAny_pure ?_)
  rw [evalPart_some]
  refine thn (hb.run pins s1 σ H1 _ I1 (tE_bd sl1 hr1 v1)) fun u2 s2 ⟨y, H2, I2, r2, as2, m2, dy, sl2, hr2, k2, ry, v2⟩ => ?_
  have rx2 := rx.mono hr1 k2
  cases rx2 with
  | @tup t xs ds h1 h2 h3 =>
    cases ry with
    | int k =>
      obtain ⟨rfl, v3⟩ := Vg.chk v2
      obtain rfl : u1 = Value.ref t := r1
      obtain ⟨tk, rfl⟩ := r2
      have I4 : Inv X pins σ H2 { s2 with heap := s2.heap.push { cls := .type "slice", data := .fields #[.none, .none, .int (-1) tk] } } := I2.kept (t' := s2.toks) fun b ob q => Heap.get?_push_of_some _ q
      obtain ⟨its, rv, ht, hz⟩ := I4.tuple h1
      have hT := PyProof.Rows.slot_tuple_getitem.lookup
      refine tail_any (ops := [.ref t, .ref s2.heap.objs.size]) ht.typeIs hT (get_rev ht (Heap.IsSliceOf.new ..) (by rw [List.size_toArray, ← rv.length]; exact hz) ?_) (by with_unfolding_all rfl)
      have fresh : H2 (s2.heap.objs.size + 1) = none := I2.hok.fresh (Nat.le_succ _)
      have ez : (s2.heap.push { cls := .type "slice", data := .fields #[.none, .none, .int (-1) tk] }).objs.size = s2.heap.objs.size + 1 := Heap.size_push ..
      obtain ⟨kp, hr3⟩ := hr2.tup (xs := xs.reverse) fresh
      rw [ez]
      have lx : xs.reverse.length ≤ sizeLine := by rw [List.length_reverse]; exact h2
      refine ⟨.ref (s2.heap.objs.size + 1), _, ?_, rfl, v3 _ _ _ kp hr3 (.tup (SqT.of upd_same) lx ((h3.rev).mono hr2 kp))⟩
      have J := I4.laid (t' := s2.toks) (o := .tup xs.reverse) (h' := (s2.heap.push { cls := .type "slice", data := .fields #[.none, .none, .int (-1) tk] }).push { cls := .type "tuple", data := .seq its.toArray.toList.reverse.toArray }) (a := s2.heap.objs.size + 1) (fun b ob q => Heap.get?_push_of_some _ q) (by rw [ez]; exact Nat.le_refl _) ⟨lx, its.toArray.toList.reverse, by simpa using vals_rev rv, ?_⟩
      · exact J
      · have := IsTup.new (s2.heap.push { cls := .type "slice", data := .fields #[.none, .none, .int (-1) tk] }) its.toArray.toList.reverse.toArray
        rw [ez] at this
        exact this
    | _ => exact False.elim v2
  | _ => exact False.elim v2
end
end Af
namespace Af
open PySem PySem.Spec PyProof.Rows L2
abbrev FzD (P : Program) (w : World) (d : Addr) (o : Obj) (l : List (NestedKey × Addr × V)) (H : Hp) : Prop := H d = some (.frz o (.ext (DctAt P w d l)))
def ItX (P : Program) (w : World) (d : Addr) (o : Obj) (l : List (NestedKey × Addr × V)) : It :=
  ⟨fun j G => FzD P w d o l G ∧ j < l.length, fun j G x G' => G' = G ∧ ∃ p, l[j]? = some p ∧ x = .ref p.2.1, fun j G => FzD P w d o l G ∧ l.length ≤ j⟩
theorem px_get : ∀ {l : List (NestedKey × Addr × V)} {xs : List (NestedKey × Addr × Value)} {j : Nat} {p : NestedKey × Addr × V}, Paired PX l xs → l[j]? = some p → ∃ x, xs[j]? = some x ∧ x.2.1 = p.2.1
  | _, _, 0, p, .cons r _, e => by cases e; exact ⟨_, rfl, r.2.1⟩
  | _, _, j + 1, p, .cons _ t, e => by
    obtain ⟨x, h1, h2⟩ := px_get (j := j) t (by simpa using e)
    exact ⟨x, by simpa using h1, h2⟩
  | _, _, j, p, .nil, e => by simp at e
section
variable {X : Cx} {pins : List (Addr × Obj)} {σ : L2.St} {H : Hp} {s : Shared} {d : Addr} {o : Obj} {l : List (NestedKey × Addr × V)}
theorem fzd_at (I : Inv X pins σ H s) (h : FzD X.prog X.w d o l H) : (d == sysModules) = false ∧ s.heap.get? d = some o ∧ o.ExactDict ∧ ∃ (ar : Array DictEntry) (ep : Nat), o.data = .dict ar ep ∧ ar.size = l.length ∧ ∀ (j : Nat) p, l[j]? = some p → ∃ en : DictEntry, ar[j]? = some en ∧ en.key = .ref p.2.1 := by
  obtain ⟨hd, ⟨z, o', ar, ep, xs, q1, q2, q3, q4, q5⟩, _⟩ := I.hok d _ h
  rw [hd] at q1
  cases q1
  refine ⟨z, hd, q2, ar, ep, q3, ?_, fun j p e => ?_⟩
  · have := congrArg List.length q4
    rw [List.length_map, px_len q5, Array.length_toList] at this
    exact this
  · obtain ⟨x, e1, e2⟩ := px_get q5 e
    have q : ar.toList[j]? = some (entryOfKey (nestedKind X.prog X.w) x) := by rw [q4, List.getElem?_map, e1]; rfl
    rw [Array.getElem?_toList] at q
    exact ⟨_, q, by rw [← e2]; rfl⟩
end
theorem turnX {P : Program} {w : World} {K : PySem.W.Frag} {tg : Expr} {d : Addr} {o : Obj} {ar : Array DictEntry} {ep : Nat} {l : List (NestedKey × Addr × V)} (r : Addr) (hod : o.data = .dict ar ep) :
    Turn P w K tg (ItX P w d o l) [r] r (fun j h => h.IsKeyIter r d j l.length ep) where
  mem := List.mem_singleton.mpr rfl
  obj := fun j h q b hb => by
    rw [List.mem_singleton.mp hb]
    obtain ⟨oi, e1, e2, e3⟩ := q
    exact ⟨oi, e1, fun v z => by rw [e3] at z; cases z⟩
  keep := fun j h h' q k => q.at fun oi e => k r (List.mem_singleton.mpr rfl) oi e
  item := by
    intro X hP hw hK hc j pins s σ H E I hf q hg
    subst hP hw hK
    obtain ⟨f0, f1, f2, f3, f4, f5⟩ := hf r (List.mem_singleton.mpr rfl)
    obtain ⟨hg1, hg2⟩ := hg
    obtain ⟨_, hat, hx, ar', ep', hdt, hsz, ent⟩ := fzd_at I hg1
    obtain ⟨rfl, rfl⟩ := dict_ep hod hdt
    obtain ⟨pp, hp⟩ : ∃ pp, l[j]? = some pp := ⟨_, List.getElem?_eq_getElem hg2⟩
    obtain ⟨en, hen, hkey⟩ := ent j _ hp
    refine next_key_item q hat hdt hsz hen fun h' q' sb => ?_
    have J : Inv X pins σ H { s with heap := h' } := I.turned (t' := s.toks) (fun b ob nb e => (sb.2 b nb).trans e) f0 f1 f3 f4 f5
    obtain ⟨oi, e1, e2, e3⟩ := id q'
    refine ⟨en.key, rfl, go_of (s := { s with heap := h' }) e1 e2 e3 (by decide) ?_⟩
    exact ⟨.ref pp.2.1, H, J, hkey, ⟨rfl, _, hp, rfl⟩, q', fun b hb => (hf b hb).1⟩
  done := by
    intro X hP hw hK hc j pins s σ H E I hf q hg
    subst hP hw hK
    obtain ⟨f0, f1, f2, f3, f4, f5⟩ := hf r (List.mem_singleton.mpr rfl)
    obtain ⟨_, hat, hx, ar', ep', hdt, hsz, ent⟩ := fzd_at I hg.1
    obtain ⟨rfl, rfl⟩ := dict_ep hod hdt
    refine next_key_end (I.ok.hd hc) q hat hdt hsz hg.2 fun h' eb => ⟨rfl, ?_⟩
    exact I.turned (t' := s.toks) (fun b ob nb e => eb b ob nb e) f0 f1 f3 f4 f5
  self := fun A j s Q E q h => wpAny_pyIter_keyiter q h
theorem DRel.get {K : PySem.W.Frag} {H : Hp} {as : List Addr} : ∀ {l : List (NestedKey × Addr × V)} {kvs : List (D × D)} {j : Nat} {q : D}, DRel K H as l kvs → (kvs.map (·.1))[j]? = some q → ∃ p, l[j]? = some p ∧ Rep K H as (.ref p.2.1) q
  | _, _, j, q, .nil, e => by simp at e
  | _, _, 0, q, .cons h1 h2 h3 t, e => by cases e; exact ⟨_, rfl, h2⟩
  | _, _, j + 1, q, .cons h1 h2 h3 t, e => by
    obtain ⟨p, e1, r⟩ := DRel.get (j := j) t (by simpa using e)
    exact ⟨p, by simpa using e1, r⟩
theorem DRel.len {K : PySem.W.Frag} {H : Hp} {as : List Addr} : ∀ {l : List (NestedKey × Addr × V)} {kvs : List (D × D)}, DRel K H as l kvs → l.length = kvs.length
  | _, _, .nil => rfl
  | _, _, .cons _ _ _ t => by rw [List.length_cons, List.length_cons, t.len]
section
variable {X : Cx} {W : WX} {e x : Expr} {fa : Env → M D} {i : Nat}
theorem i_keys {tg : Expr} (he : PE X e (tE X W fa)) : PI X tg e (tI X W fun ρ => bd (fa ρ) srcK) := by
  refine ⟨fun pins s σ H R I ⟨as, m, ρ, sl, hr, v⟩ => thn (he.run pins s σ H _ I (tE_bd sl hr v)) fun u s1 ⟨x, H1, I1, r1, as1, m1, dx, sl1, hr1, k1, rx, v1⟩ => ?_⟩
  cases rx with
  | @ref a n h1 =>
    cases r1
    have v1 : Vg X.prog X.w X.K X.mg (RI X) as1 H1 (match m1[n]? with
      | some (.dct true kvs) => .ok ⟨kvs.map (·.1), [(n, .dct true kvs)]⟩ m1
      | _ => .bad) R (fun c d H' => W c d σ H') := v1
    split at v1
    · rename_i kvs e1
      obtain ⟨l, ⟨o, g1⟩, g2, g3, g4⟩ := hr1.dct h1 e1
      obtain ⟨z, hat, hx, ar, ep, hdt, hsz, ent⟩ := fzd_at I1 g1
      refine wpAny_pyIter_dict_raw z ⟨o, hat, hx, hdt⟩ ?_
      rw [hsz]
      refine pi_one (tk := s1.toks) I1 _ (turnX _ hdt) ⟨_, Heap.get?_push_size _ rfl, rfl, rfl⟩ (v1 _ _ _ Kp.refl hr1 ⟨by show (kvs.map (·.1)).length ≤ _; rw [List.length_map]; exact g2, fun as' m' H' k hr' st => ?_⟩)
      have fz := k.2 _ _ _ g1
      have dr := g4.mono hr1 k
      refine ⟨fun j e => ⟨fz, by rw [e]; show l.length ≤ (kvs.map (·.1)).length; rw [List.length_map, dr.len]; exact Nat.le_refl _⟩, fun j q e => ?_⟩
      obtain ⟨p, e2, rp⟩ := dr.get e
      refine ⟨⟨fz, (List.getElem?_eq_some_iff.mp e2).1⟩, fun y H2 ⟨e3, p', e4, e5⟩ => ?_⟩
      rw [e2] at e4
      cases e4
      subst e3 e5
      exact ⟨Kp.refl, hr', rp⟩
    · exact False.elim v1
  | _ => exact False.elim v1
theorem lock_inv {α : Type} {ρ : Env} {f : M α} {m : Mu} {r : Res α} (h : lockM i ρ f m = r) : r = .bad ∨ ∃ n kvs, ρ[i]? = some (some (.ref n)) ∧ m[n]? = some (.dct false kvs) ∧ r = (match f (m.set n (.dct true kvs)) with
      | .ok a m' => .ok a (m'.set n (.dct false kvs))
      | _ => .bad) := by
  unfold lockM at h
  split at h
  · rename_i n e1
    split at h
    · rename_i kvs e2
      exact .inr ⟨n, kvs, e1, e2, h.symm⟩
    · exact .inl h.symm
  · exact .inl h.symm
theorem lock_in {P : Program} {w : World} {K : PySem.W.Frag} {as : List Addr} {m : Mu} {H : Hp} (hr : HRep P w K as m H) {a : Addr} {n : Nat} {kvs : List (D × D)} (h1 : as[n]? = some a) (e2 : m[n]? = some (.dct false kvs)) :
    ∃ l, H a = some (.ext (DctAt P w a l)) ∧ kvs.length ≤ sizeLine ∧ (l.map (·.1)).Nodup ∧ ∀ od, Kp as as H (upd H a (.frz od (.ext (DctAt P w a l)))) ∧ HRep P w K as (m.set n (.dct true kvs)) (upd H a (.frz od (.ext (DctAt P w a l)))) ∧ DRel K (upd H a (.frz od (.ext (DctAt P w a l)))) as l kvs := by
  obtain ⟨l, g1, g2, g3, g4⟩ := hr.dct h1 e2
  have g1 : H a = some (.ext (DctAt P w a l)) := g1
  refine ⟨l, g1, g2, g3, fun od => ?_⟩
  obtain ⟨k, r⟩ := hr.upd (o := .dct true kvs) (ho := .frz od (.ext (DctAt P w a l))) h1 (by rw [g1]; trivial) fun kp => .fdc g2 g3 (g4.mono hr kp)
  exact ⟨k, r, g4.mono hr k⟩
theorem lock_out {P : Program} {w : World} {K : PySem.W.Frag} {as as' : List Addr} {m' : Mu} {H H' : Hp} {a : Addr} {n : Nat} {od : Obj} {kvs : List (D × D)} {l : List (NestedKey × Addr × V)} (hH : H a = some (.ext (DctAt P w a l))) (h1 : as[n]? = some a) (h4 : DRel K (upd H a (.frz od (.ext (DctAt P w a l)))) as l kvs) (g2 : kvs.length ≤ sizeLine) (g3 : (l.map (·.1)).Nodup) {m1 : Mu} (hr1 : HRep P w K as m1 (upd H a (.frz od (.ext (DctAt P w a l)))))
    (k : Kp as as' (upd H a (.frz od (.ext (DctAt P w a l)))) H') (hr' : HRep P w K as' m' H') :
    H' a = some (.frz od (.ext (DctAt P w a l))) ∧ Kp as as' H (upd H' a (.ext (DctAt P w a l))) ∧ HRep P w K as' (m'.set n (.dct false kvs)) (upd H' a (.ext (DctAt P w a l))) ∧ Kp0 as' as' H' (upd H' a (.ext (DctAt P w a l))) := by
  have fz : H' a = some (.frz od (.ext (DctAt P w a l))) := k.2 _ _ _ upd_same
  have ma : a ∈ as := List.mem_of_getElem? h1
  obtain ⟨k0, r0⟩ := hr'.upd0 (ho := .ext (DctAt P w a l)) (o := .dct false kvs) (k.get h1) fun k0 => .dct g2 g3 ((h4.mono hr1 k).mono0 hr' k0)
  refine ⟨fz, ⟨⟨k.1.1, fun b ob e nb => ?_⟩, fun b ob u e => ?_⟩, r0, k0⟩
  · have ne : b ≠ a := fun z => nb (by rw [z]; exact ma)
    obtain ⟨q1, q2⟩ := k.1.2 b ob (by rw [upd_ne ne]; exact e) nb
    exact ⟨by rw [upd_ne ne]; exact q1, q2⟩
  · have ne : b ≠ a := fun z => by rw [z, hH] at e; cases e
    rw [upd_ne ne]
    exact k.2 b ob u (by rw [upd_ne ne]; exact e)
theorem Sl.mono0 {P : Program} {w : World} {K : PySem.W.Frag} {H H' : Hp} {as as' : List Addr} {m : Mu} {σ : L2.St} {ρ : Env} (s : Sl K H as σ ρ) (r : HRep P w K as m H) (k : Kp0 as as' H H') : Sl K H' as' σ ρ :=
  ⟨s.1, fun j d e => by
    obtain ⟨v, h1, h2⟩ := s.2 j d e
    exact ⟨v, h1, h2.mono0 r k⟩⟩
theorem e_lk (h : PE X x (tE X W fa)) : PE X x (tE X W fun ρ => lockM i ρ (fa ρ)) := by
  refine PEimp (pe_lock h) fun σ H Q ⟨as, m, ρ, sl, hr, v⟩ => ?_
  dsimp only at v
  rcases lock_inv (r := lockM i ρ (fa ρ) m) rfl with e | ⟨n, kvs, e1, e2, e3⟩
  · rw [e] at v
    exact False.elim v
  · rw [e3] at v
    obtain ⟨sv, e4, rv⟩ := sl.2 i _ e1
    cases rv with
    | @ref a _ h1 =>
      obtain ⟨l, g1, g2, g3, lk⟩ := lock_in hr h1 e2
      refine ⟨a, _, g1, trivial, fun od => ?_⟩
      obtain ⟨kp, hr1, dr⟩ := lk od
      refine ⟨as, m.set n (.dct true kvs), ρ, sl.mono hr kp, hr1, ?_⟩
      cases q : fa ρ (m.set n (.dct true kvs)) with
      | ok d m' =>
        rw [q] at v
        intro b as' H' k hr' r
        obtain ⟨fz, k1, r1, k0⟩ := lock_out g1 h1 dr g2 g3 hr1 k hr'
        exact ⟨fz, v b as' _ k1 r1 (r.mono0 hr' k0)⟩
      | exc c fs m' => rw [q] at v; exact False.elim v
      | bad => rw [q] at v; exact False.elim v
theorem s_lk {st : Stmt} {f : Env → M Fl} (h : PS X st (tS X W f)) : PS X st (tS X W fun ρ => lockM i ρ (noX (f ρ))) := by
  refine PSimp (ps_lock h) fun Dn σ H ⟨as, m, ρ, sl, hr, v⟩ => ?_
  dsimp only at v
  rcases lock_inv (r := lockM i ρ (noX (f ρ)) m) rfl with e | ⟨n, kvs, e1, e2, e3⟩
  · rw [e] at v
    exact False.elim v
  · rw [e3] at v
    obtain ⟨sv, e4, rv⟩ := sl.2 i _ e1
    cases rv with
    | @ref a _ h1 =>
      obtain ⟨l, g1, g2, g3, lk⟩ := lock_in hr h1 e2
      refine ⟨a, _, g1, trivial, fun od => ?_⟩
      obtain ⟨kp, hr1, dr⟩ := lk od
      refine ⟨as, m.set n (.dct true kvs), ρ, sl.mono hr kp, hr1, ?_⟩
      unfold noX at v
      cases q : f ρ (m.set n (.dct true kvs)) with
      | ok fl m' =>
        rw [q] at v
        cases fl with
        | nx ρ' =>
          intro σ' as' H' k hr' r
          obtain ⟨fz, k1, r1, k0⟩ := lock_out g1 h1 dr g2 g3 hr1 k hr'
          exact ⟨fz, v σ' as' _ k1 r1 (r.mono0 hr' k0)⟩
        | rt d =>
          intro u as' H' k hr' r
          obtain ⟨fz, k1, r1, k0⟩ := lock_out g1 h1 dr g2 g3 hr1 k hr'
          exact ⟨fz, v u as' _ k1 r1 (r.mono0 hr' k0)⟩
        | bk ρ' =>
          intro σ' as' H' k hr' r
          obtain ⟨fz, k1, r1, k0⟩ := lock_out g1 h1 dr g2 g3 hr1 k hr'
          exact ⟨fz, v σ' as' _ k1 r1 (r.mono0 hr' k0)⟩
        | ct ρ' =>
          intro σ' as' H' k hr' r
          obtain ⟨fz, k1, r1, k0⟩ := lock_out g1 h1 dr g2 g3 hr1 k hr'
          exact ⟨fz, v σ' as' _ k1 r1 (r.mono0 hr' k0)⟩
        | xc ρ' c fs => exact False.elim v
      | exc c fs m' => rw [q] at v; exact False.elim v
      | bad => rw [q] at v; exact False.elim v
variable {a b o e f : Expr} {fo fb fe ff : Env → M D} {pos apos cpos : Pos}
theorem e_any {x : Expr} : PE X x (tE X W fun _ => nope) := ⟨fun pins s σ H Q I ⟨as, m, ρ, sl, hr, v⟩ => False.elim v⟩
theorem s_any {x : Stmt} : PS X x (tS X W fun _ => nope) := ⟨fun pins s σ H D I ⟨as, m, ρ, sl, hr, v⟩ => False.elim v⟩
theorem has_aux {σ : L2.St} {H : Hp} {Q : VK} (h : tE X W (fun ρ => bd (fa ρ) fun x => bd (fb ρ) fun y => hasM x y) σ H Q) : tDIn (tE X W fa) (tE X W fb) σ H Q := by
  obtain ⟨as, m, ρ, sl, hr, v⟩ := h
  refine tE_mono (tE_bd sl hr v) fun x H1 ⟨as1, m1, dx, sl1, hr1, k1, rx, v1⟩ => ?_
  refine tE_mono (tE_bd sl1 hr1 v1) fun y H2 ⟨as2, m2, dy, sl2, hr2, k2, ry, v2⟩ => ?_
  cases rx with
  | int i =>
    cases ry with
    | @ref q n h1 =>
      have v2 : Vg X.prog X.w X.K X.mg (RD X.K) as2 H2 (match m2[n]? with
        | some (.mp kvs) => .ok (.bl (lookI kvs i).isSome) m2
        | _ => .bad) Q fun c d H' => W c d σ H' := v2
      split at v2
      · rename_i kvs e1
        obtain ⟨kv, g1, g2, g3⟩ := hr2.mpk h1 e1
        refine ⟨q, _, rfl, DGet.k (k := Sum.inl i) g1, ?_⟩
        have e2 : (valV kv (Sum.inl i)).isSome = (lookI kvs i).isSome := by
          rcases look_rep (k := i) g2 g3 with ⟨p1, p2⟩ | ⟨v, d, p1, p2, _⟩ <;> rw [p1, p2] <;> rfl
        rw [e2]
        exact v2 _ _ _ Kp.refl hr2 (Rep.bl _)
      · exact False.elim v2
    | _ => exact False.elim v2
  | _ => cases ry <;> exact False.elim v2
theorem e_hasK (hu : X.A.units + 200 < cLine) (ha : PE X a (tE X W fa)) (hb : PE X b (tE X W fb)) (hm : behindInMarks .In b = false) : PE X (.Compare a [.In] [b] pos) (tE X W fun ρ => bd (fa ρ) fun x => bd (fb ρ) fun y => hasM x y) :=
  PEimp (pe_cmp (pc_din (by omega) ha hb) hm) fun σ H Q h => has_aux h
theorem t_hasK (hu : X.A.units + 200 < cLine) (ha : PE X a (tE X W fa)) (hb : PE X b (tE X W fb)) (hm : behindInMarks .In b = false) : PT X (.Compare a [.In] [b] pos) (tTr X W fun ρ => bd (fa ρ) fun x => bd (fb ρ) fun y => hasM x y) :=
  PTimp (pt_cmp (pc_din (by omega) ha hb) hm) fun σ H Q h => has_aux (tTr_tE h)
theorem isMp_inv {α : Type} {R : List Addr → Hp → V → α → Prop} {f : Unit → M α} {as : List Addr} {H : Hp} {m : Mu} {dx : D} {Q : V → Hp → Prop} {E : XK} (v : Vg X.prog X.w X.K X.mg R as H (bd (isMp dx) f m) Q E) : ∃ n zs, dx = .ref n ∧ m[n]? = some (.mp zs) ∧ Vg X.prog X.w X.K X.mg R as H (f () m) Q E := by
  cases dx with
  | ref n =>
    have v : Vg X.prog X.w X.K X.mg R as H (bd (fun m => (match m[n]? with
      | some (.mp _) => .ok () m
      | _ => .bad : Res Unit)) f m) Q E := v
    unfold Af.bd at v
    dsimp only at v
    cases e : m[n]? with
    | none => rw [e] at v; exact False.elim v
    | some ob =>
      rw [e] at v
      cases ob with
      | mp zs => exact ⟨n, zs, rfl, e, v⟩
      | _ => exact False.elim v
  | _ => exact False.elim v
theorem e_getK (hu : X.A.units + 200 < cLine) (ho : PE X o (tE X W fo)) (he : PE X e (tE X W fe)) (hf : PE X f (tE X W ff)) (hb : baseE o = true) (h1 : plainE e = true) (h2 : plainE f = true) (hline : (apos.endLine == cpos.line) = true) :
    PE X (.Call (.Attribute o "get" apos) [e, f] [] cpos) (tE X W fun ρ => bd (fo ρ) fun x => bd (isMp x) fun _ => bd (fe ρ) fun y => bd (ff ρ) fun u => getM x y u) := by
  have hm : M2 X o "get" apos e f cpos := ⟨base_ok hb, few_ok (es := [e, f]) (by simp [h1, h2]) (by simp only [List.length_cons, List.length_nil]; decide), hline, by rw [starEach_c h1, starEach_c h2]; rfl⟩
  refine PEimp (pe_dget2 (by omega) ho he hf hm) fun σ H Q ⟨as, m, ρ, sl, hr, v⟩ => ?_
  refine tE_mono (tE_bd sl hr v) fun x H1 ⟨as1, m1, dx, sl1, hr1, k1, rx, v1⟩ => ?_
  obtain ⟨n, zs, rfl, e1, v2⟩ := isMp_inv v1
  cases rx with
  | @ref q _ h1' =>
    obtain ⟨kv0, g0, _⟩ := hr1.mpk h1' e1
    refine ⟨q, rfl, .inl ⟨kv0, .inl g0⟩, ?_⟩
    refine tE_mono (tE_bd sl1 hr1 v2) fun y H2 ⟨as2, m2, dy, sl2, hr2, k2, ry, v3⟩ => ?_
    refine tE_mono (tE_bd sl2 hr2 v3) fun u H3 ⟨as3, m3, du, sl3, hr3, k3, ru, v4⟩ => ?_
    have h3 := k3.get (k2.get h1')
    cases ry with
    | int i =>
      have v4 : Vg X.prog X.w X.K X.mg (RD X.K) as3 H3 (match m3[n]? with
        | some (.mp kvs) => .ok ((lookI kvs i).getD du) m3
        | _ => .bad) Q fun c d H' => W c d σ H' := v4
      split at v4
      · rename_i kvs e3
        obtain ⟨kv, g1, g2, g3⟩ := hr3.mpk h3 e3
        refine ⟨_, DGet.k (k := Sum.inl i) g1, ?_⟩
        rcases look_rep (k := i) g2 g3 with ⟨p1, p2⟩ | ⟨v, d, p1, p2, p3⟩
        · rw [p1]
          rw [p2] at v4
          exact v4 _ _ _ Kp.refl hr3 ru
        · rw [p1]
          rw [p2] at v4
          exact v4 _ _ _ Kp.refl hr3 p3
      · exact False.elim v4
    | _ => exact False.elim v4
end
end Af
namespace Af
open PySem PySem.Spec PyProof.Rows L2
section
variable {prog : Program} {w : World} {A : Around} {E : Value → Shared → Prop} {s : Shared}
theorem gather {T : String} (hT : T = "list" ∨ T = "tuple") {l : Addr} {o : Obj} {vs : List Value} {n : Nat} {Q : List Value → Shared → Prop} (ho : s.heap.get? l = some o) (hc : o.cls = .type T) (hd : o.data = .seq vs.toArray n) (hz : vs.length ≤ sizeLine)
    (k : Q vs { s with heap := (s.heap.push (seqObj "list" #[] 0)).update s.heap.objs.size (Obj.mapSeq (· ++ vs.toArray)) }) : wpAny (model prog w) A (collect (.ref l)) Q E s := by
  have old : (s.heap.push (seqObj "list" #[] 0)).get? l = some o := Heap.get?_push_of_some _ ho
  have own : (s.heap.push (seqObj "list" #[] 0)).get? s.heap.objs.size = some (seqObj "list" #[] 0) := Heap.get?_push_size _ rfl
  unfold collect
  refine wpAny_bind (wpAny_runValue (codeAny_builtin entry_proto_collect' (show wpAny (model prog w) _ (do again (.builtin "list.__iadd__" ⟨[← newList [], .ref l], []⟩)) _ _ s from ?_)))
  refine wpAny_bind (wpAny_newList (wpAny_pure ⟨Code.quiet_builtin _ (by decide +kernel), codeAny_builtin entry_list_iadd' (show wpAny (model prog w) _ (Builtin.List.listExtendWith (.ref s.heap.objs.size) (.ref l) (.ref s.heap.objs.size)) _ _ { s with heap := s.heap.push (seqObj "list" #[] 0) } from ?_)⟩))
  (unfold Builtin.List.listExtendWith)
  refine wpAny_bind (wpAny_typeOf (T := T) ⟨o, old, hc⟩ ?_)
  have yes : (Builtin.List.listSameRef (.ref s.heap.objs.size) (.ref l) || Value.type T == Value.type "list" || Value.type T == Value.type "tuple") = true := by
    rcases hT with e | e <;> subst e <;> simp
  rw [if_pos yes]
  refine wpAny_bind (listItems_at old hd (wpAny_bind (listItems_at own rfl ?_)))
  rw [if_neg (show ¬ ((!(#[] : Array Value).isEmpty && _) = true) from by simp)]
  have fits : ((#[] : Array Value) ++ vs.toArray).size ≤ sizeLine + 1 := by
    simp only [Array.size_append, List.size_toArray, List.length_nil]
    omega
  refine wpAny_bind (listUpdate_at own rfl (wpAny_pure ?_) (Nat.zero_le _) fits)
  refine wpAny_bind (wpAny_load (get?_update_seq own _) ?_)
  refine (show wpAny _ _ (pure ((#[] : Array Value) ++ vs.toArray).toList) Q E _ from ?_)
  have same : ((#[] : Array Value) ++ vs.toArray).toList = vs := by simp
  rw [same]
  exact wpAny_pure k
theorem sorted_seq {T : String} (hT : T = "list" ∨ T = "tuple") {l : Addr} {o : Obj} {vs : List Value} {n : Nat} {kw : List (Str × Value)} {Q : Value → Shared → Prop} (ho : s.heap.get? l = some o) (hc : o.cls = .type T) (hd : o.data = .seq vs.toArray n) (hz : vs.length ≤ sizeLine) (ha : argsOk "sorted" ⟨[.ref l], kw⟩)
    (body : ∀ E' : Value → Shared → Prop, wpAny (model prog w) A.in1 (call (.builtin "list.sort") [.ref (s.heap.objs.size + 1)] kw) (fun _ s' => Q (.ref (s.heap.objs.size + 1)) s') E' { s with heap := PySem.W.copyHeap s.heap vs }) :
    wpAny (model prog w) A (call (.builtin "sorted") [.ref l] kw) Q E s := by
  refine call_function_entry_kw kind_sorted plain_sorted entry_sorted ha ?_
  unfold Builtin.«sorted»
  refine wpAny_bind (m := checkCount "sorted" 1 1 _) (wpAny_pure (wpAny_bind (gather hT ho hc hd hz (wpAny_bind (wpAny_newList ?_ hz)))))
  have many : ((s.heap.push (seqObj "list" #[] 0)).update s.heap.objs.size (Obj.mapSeq (· ++ vs.toArray))).objs.size = s.heap.objs.size + 1 := by
    simp only [Heap.size_update, size_push']
  show wpAny _ _ _ _ _ { s with heap := PySem.W.copyHeap s.heap vs }
  rw [many]
  refine wpAny_bind (wpAny_holding (wpAny_mono (body _) (fun v s' hq => ?_) fun _ _ e => e))
  exact wpAny_pure ⟨_, rfl, hq⟩
end
theorem each_ints {ns : List Int} {us : List Value} (r : Vals (ns.map V.int) us) : PySem.W.EachIs (fun u (i : Int) => ∃ t, u = Value.int i t) us ns := by
  induction ns generalizing us with
  | nil =>
    cases r
    exact .nil
  | cons i ns ih =>
    rw [List.map_cons] at r
    cases r with
    | cons h t => exact .cons h (ih t)
theorem vals_each {ns : List Int} {us : List Value} (r : PySem.W.EachIs (fun u (i : Int) => ∃ t, u = Value.int i t) us ns) : Vals (ns.map V.int) us := by
  induction r with
  | nil => exact .nil
  | cons h _ ih => exact .cons h ih
section
variable {X : Cx} {W : WX} {a b : Expr} {fa fb : Env → M D} {pos : Pos} {pins : List (Addr × Obj)} {σ0 : L2.St} {H0 : Hp} {s0 : Shared}
theorem sabs_call (hu : X.A.units + 200 < cLine) {pins : List (Addr × Obj)} {s : Shared} {σ : L2.St} {H : Hp} {T : String} (hT : T = "list" ∨ T = "tuple") {l : Addr} {o : Obj} {n : Nat} {ns : List Int} {us : List Value} {Q : VK} (I : Inv X pins σ H s) (ho : s.heap.get? l = some o) (hc : o.cls = .type T) (hd : o.data = .seq us.toArray n) (rv : Vals (ns.map V.int) us) (hz : ns.length ≤ sizeLine)
    (q : ∀ p, H p = none → Q (.ref p) (L2.upd H p (.lst ((sortA ns).map V.int)))) : wpAny (model X.prog X.w) X.A (call (.builtin "sorted") [.ref l] [(Str.ofString "key", .builtin "abs")]) (EP X pins σ Q) X.xe s := by
  have lens : us.length = ns.length := by
    have := rv.length
    rw [List.length_map] at this
    exact this.symm
  refine sorted_seq hT ho hc hd (by omega) (PyProof.Rows.ksk_s1 _ _) fun E' => ?_
  refine PySem.W.list_sort_key_data (b := false) absD (PySem.W.copyHeap_at s.heap us) (each_ints rv) (fun x hx y hy => ?_) (.inr fun x hx => ?_) hz (fun x _ => ?_) (PyProof.Rows.ksk_l1 _ _) (PyProof.Rows.ksk_t4 _ _) (fun v x hv hx h tk kp => ?_) fun out c h' tk kp e1 e2 e3 => ?_
  · obtain ⟨i, _, rfl⟩ := List.mem_map.mp hx
    obtain ⟨j, _, rfl⟩ := List.mem_map.mp hy
    rfl
  · obtain ⟨i, _, rfl⟩ := List.mem_map.mp hx
    exact ⟨fun z => (by cases z), fun xs z => by cases z⟩
  · show X.A.in1.units + 1 + (PyData.depth (.int x.natAbs)) < cLine
    have d1 : PyData.depth (.int x.natAbs) ≤ 1 := by simp [PyData.depth]
    have u1 : X.A.in1.units = X.A.units + 1 := rfl
    omega
  · obtain ⟨t, rfl⟩ := hv
    refine call_abs_int fun u tk => ⟨h, tk, rfl, fun b o e => e, ?_⟩
    have ea : (if x < 0 then -x else x) = (x.natAbs : Int) := by split <;> omega
    rw [ea]
    exact .int _ _
  · have fresh : H (s.heap.objs.size + 1) = none := I.hok.fresh (Nat.le_succ _)
    have old : ∀ b ob, s.heap.get? b = some ob → h'.get? b = some ob := fun b ob z => kp b ob (Nat.ne_of_lt (Nat.lt_succ_of_lt (Heap.lt_size z))) (PySem.W.copyHeap_old z)
    have vo := vals_each e3
    have lo : ((sortA ns).map V.int).length ≤ sizeLine := by
      rw [List.length_map]
      unfold sortA
      rw [List.length_mergeSort]
      exact hz
    exact ⟨.ref (s.heap.objs.size + 1), _, I.laid (t' := tk) (o := .lst ((sortA ns).map V.int)) old (Nat.le_succ _) ⟨lo, out, c, vo, e1⟩, rfl, q _ fresh⟩
theorem sabs_ok (hu : X.A.units + 200 < cLine) {pins : List (Addr × Obj)} {s : Shared} {σ : L2.St} {H : Hp} {as : List Addr} {m : Mu} {x : V} {dx : D} {u : Value} {Q : VK} {Eq : XK} (I : Inv X pins σ H s) (hr : HRep X.prog X.w X.K as m H) (rx : Rep X.K H as x dx) (ru : RelV x u)
    (v : Vg X.prog X.w X.K X.mg (RD X.K) as H (sabsM dx m) Q Eq) : wpAny (model X.prog X.w) X.A (call (.builtin "sorted") [u] [(Str.ofString "key", .builtin "abs")]) (EP X pins σ Q) X.xe s := by
  have v : Vg X.prog X.w X.K X.mg (RD X.K) as H (match intsOf m dx with
    | some is => if is.length ≤ sizeLine then alc (.lst ((sortA is).map D.int)) m else .bad
    | none => .bad) Q Eq := v
  split at v
  · rename_i is e1
    split at v
    · rename_i hz
      have fin : ∀ p, H p = none → Q (.ref p) (L2.upd H p (.lst ((sortA is).map V.int))) := fun p hp => by
        have lo : ((sortA is).map V.int).length ≤ sizeLine := by
          rw [List.length_map]
          unfold sortA
          rw [List.length_mergeSort]
          exact hz
        exact Vg.alc v hr hp fun kp => .lst lo (reps_ints _)
      cases rx with
      | @ref a n h1 =>
        obtain ⟨xs, e2, e3⟩ := Option.bind_eq_some_iff.mp (show (lstAt m n).bind intsO = some is from e1)
        obtain ⟨vs, g1, g2, g3⟩ := hr.read h1 e2
        rw [ints_of e3 g3] at g1
        obtain ⟨its, rv, pl, _⟩ := I.list g1
        obtain rfl : u = Value.ref a := ru
        obtain ⟨o, k, ho, hc, hdn, hd⟩ := pl
        exact sabs_call hu (.inl rfl) I ho hc hd rv hz fin
      | @tup a vs ds h1 h2 h3 =>
        have e1 : intsO ds = some is := e1
        rw [ints_of e1 h3] at h1
        obtain ⟨its, rv, ⟨o, ho, hc, k, hd⟩, _⟩ := I.tuple h1
        obtain rfl : u = Value.ref a := ru
        exact sabs_call hu (.inr rfl) I ho hc hd rv hz fin
      | _ => cases e1
    · exact False.elim v
  · exact False.elim v
theorem e_sabs {p q kp : Pos} (hu : X.A.units + 200 < cLine) (hg : Gl X "sorted") (hm : X.mg "sorted" = none) (hg2 : Gl X "abs") (hm2 : X.mg "abs" = none) (ha : PE X a (tE X W fa)) (hp : plainE a = true) :
    PE X (.Call (.Name "sorted" p) [a] [⟨some "key", .Name "abs" q, kp⟩] pos) (tE X W fun ρ => bd (fa ρ) sabsM) := by
  refine ⟨fun pins s σ H Q I ⟨as, m, ρ, sl, hr, v⟩ => ?_⟩
  have bS : bootBuiltins "sorted" = some (.builtin "sorted") := by decide +kernel
  have bA : bootBuiltins "abs" = some (.builtin "abs") := by decide +kernel
  have run := (pa_cons ha pa_nil (starEach_c hp)).run pos pins s σ H (fun xs H1 => ∃ x as1 m1 dx, xs = [x] ∧ HRep X.prog X.w X.K as1 m1 H1 ∧ Rep X.K H1 as1 x dx ∧ Vg X.prog X.w X.K X.mg (RD X.K) as1 H1 (sabsM dx m1) Q fun c d H' => W c d σ H') I (tE_mono (tE_bd sl hr v) fun x H1 ⟨as1, m1, dx, sl1, hr1, k1, rx, v1⟩ => ⟨x, as1, m1, dx, rfl, hr1, rx, v1⟩)
  refine wpAny_Call_Name_kw (ld_blt I hg hm bS ?_)
  refine PyProof.Rows.callWith_kw (thn run fun us s1 ⟨xs, H1, I1, r1, x, as1, m1, dx, ex, hr1, rx, v1⟩ => ?_) (by rw [starEach_c hp]; rfl) (by rw [starEach_c hp]; rfl)
  subst ex
  obtain ⟨u, rfl, ru⟩ := vals1 r1
  refine wpAny_evalAll_cons (wpAny_bind (ld_blt I1 hg2 hm2 bA (wpAny_bind (wpAny_standAt (wpAny_pure (wpAny_evalAll_nil ?_))))))
  exact sabs_ok hu I1 hr1 rx ru v1
theorem src_sortedK {prog : Program} {w : World} {A : Around} {E : Value → Shared → Prop} {s : Shared} {T : String} {r d : Addr} {n : Nat} {P : Nat → Value → Prop} {OK : Heap → Prop} {kw : List (Str × Value)} {Q : Value → Shared → Prop} (K : PySem.W.KdlSrc prog w T r d n P OK) (hh : A.handled = none) (hok : OK s.heap) (hn : n ≤ sizeLine) (ha : argsOk "sorted" ⟨[.ref r], kw⟩)
    (h : ∀ (h' : Heap) (tk : Nat) (acc : Array Value), (∀ b o, s.heap.get? b = some o → h'.get? b = some o) → s.heap.objs.size < h'.objs.size → ItemsOf P acc n →
      wpAny (model prog w) A.in1 (call (.builtin "list.sort") [.ref h'.objs.size] kw) (fun _ s' => Q (.ref h'.objs.size) s') E { s with heap := h'.push { cls := .type "list", data := .seq acc.toList.toArray }, toks := tk }) :
    wpAny (model prog w) A (call (.builtin "sorted") [.ref r] kw) Q E s := by
  refine call_function_entry_kw kind_sorted plain_sorted entry_sorted ha ?_
  unfold Builtin.«sorted»
  refine wpAny_bind (m := checkCount "sorted" 1 1 _) (wpAny_pure ?_)
  refine wpAny_bind (src_collect (A := A.in1) K hh hok hn fun h' tk acc hk hlt hacc => ?_)
  refine wpAny_bind (wpAny_newList ?_ (by rw [Array.length_toList, hacc.1]; exact hn))
  have hg := h h' tk acc hk hlt hacc
  refine wpAny_bind (wpAny_holding (wpAny_mono hg (fun _ s' x => ?_) fun _ _ e => e))
  exact wpAny_pure ⟨_, rfl, x⟩
theorem sabsK_ok (hc : X.calm = true) (hu : X.A.units + 200 < cLine) {pins : List (Addr × Obj)} {s : Shared} {σ : L2.St} {H : Hp} {as : List Addr} {m : Mu} {x : V} {dx : D} {u : Value} {Q : VK} {Eq : XK} (I : Inv X pins σ H s) (hr : HRep X.prog X.w X.K as m H) (rx : Rep X.K H as x dx) (ru : RelV x u)
    (v : Vg X.prog X.w X.K X.mg (RD X.K) as H (sabsKM dx m) Q Eq) : wpAny (model X.prog X.w) X.A (call (.builtin "sorted") [u] [(Str.ofString "key", .builtin "abs")]) (EP X pins σ Q) X.xe s := by
  cases rx with
  | @ref a n h1 =>
    have v : Vg X.prog X.w X.K X.mg (RD X.K) as H (match m[n]? with
      | some (.mp kvs) => if kvs.length ≤ sizeLine then alc (.lst ((sortA (kvs.map (·.1))).map D.int)) m else .bad
      | _ => .bad) Q Eq := v
    split at v
    · rename_i kvs e1
      split at v
      · rename_i hz
        obtain rfl : u = Value.ref a := ru
        obtain ⟨kv, g1, g2, g3⟩ := hr.mpk h1 e1
        obtain ⟨_, hd, vs, rel, dd⟩ := dk_of I.hok g1
        obtain ⟨es, ep, hraw, hsz, hat⟩ := dd.raw
        have hlen : vs.length = kvs.length := by
          have := congrArg List.length g2
          rw [List.length_map, List.length_map] at this
          rw [← rel.length, this]
        have hkeys : vs.map (·.1) = kvs.map (fun p => Sum.inl p.1) := by rw [← rel.keys, g2]
        refine src_sortedK (src_rawK hd) (I.ok.hd hc) hraw (by omega) (PyProof.Rows.ksk_s1 _ _) fun h' tk acc kp hg hi => ?_
        have each : PySem.W.EachIs (fun u (i : Int) => ∃ t, u = Value.int i t) acc.toList (kvs.map (·.1)) := by
          rw [items_eq (f := (·.key)) hi]
          have gen : ∀ (l : List DictEntry) (ks : List Int), l.length = ks.length → (∀ i (h1 : i < l.length) (h2 : i < ks.length), ∃ t, l[i].key = Value.int ks[i] t) → PySem.W.EachIs (fun u (i : Int) => ∃ t, u = Value.int i t) (l.map (·.key)) ks := by
            intro l
            induction l with
            | nil =>
              intro ks hl _
              cases ks with
              | nil => exact .nil
              | cons _ _ => cases hl
            | cons y l ih =>
              intro ks hl hk
              cases ks with
              | nil => cases hl
              | cons k ks => exact .cons (hk 0 (by simp) (by simp)) (ih ks (by simpa using hl) fun i h1 h2 => hk (i + 1) (by simpa using h1) (by simpa using h2))
          refine gen _ _ (by rw [Array.length_toList, List.length_map]; omega) fun i h1 h2 => ?_
          rw [Array.length_toList] at h1
          have hiv : i < vs.length := by omega
          obtain ⟨q1, _⟩ := hat i h1 vs[i].1 vs[i].2 (List.getElem?_eq_getElem hiv)
          have ek : vs[i].1 = Sum.inl (kvs.map (·.1))[i] := by
            have a1 : (vs.map (·.1))[i]? = some vs[i].1 := by rw [List.getElem?_map, List.getElem?_eq_getElem hiv]; rfl
            have a2 : (kvs.map (fun p : Int × D => (Sum.inl p.1 : Key)))[i]? = some (Sum.inl (kvs.map (·.1))[i]) := by
              have hik : i < kvs.length := by omega
              rw [List.getElem?_map, List.getElem?_eq_getElem hik]
              simp
            rw [hkeys, a2] at a1
            exact (Option.some.inj a1).symm
          rw [ek] at q1
          rcases keyIs_shape (show keyIs (Sum.inl (kvs.map (·.1))[i]) es[i].key = true from q1) with ⟨j, t, z1, z2⟩ | ⟨y, t, z1, _⟩
          · cases z1
            exact ⟨t, by rw [Array.getElem_toList]; exact z2⟩
          · cases z1
        have lz : (kvs.map (·.1)).length ≤ sizeLine := by rw [List.length_map]; exact hz
        have hl0 : (h'.push (seqObj "list" acc.toList.toArray 0)).get? h'.objs.size = some (seqObj "list" acc.toList.toArray 0) := Heap.get?_push_size _ rfl
        have old : ∀ b o, s.heap.get? b = some o → b ≠ h'.objs.size := fun b o e => Nat.ne_of_lt (Heap.lt_size (kp b o e))
        refine PySem.W.list_sort_key_data (b := false) absD (s := { s with heap := h'.push (seqObj "list" acc.toList.toArray 0), toks := tk }) hl0 each (fun x hx y hy => ?_) (.inr fun x hx => ?_) lz (fun x _ => ?_) (PyProof.Rows.ksk_l1 _ _) (PyProof.Rows.ksk_t4 _ _) (fun v x hv hx h tk kp => ?_) fun out c h2 tk2 kp2 e1' e2' e3' => ?_
        · obtain ⟨i, _, rfl⟩ := List.mem_map.mp hx
          obtain ⟨j, _, rfl⟩ := List.mem_map.mp hy
          rfl
        · obtain ⟨i, _, rfl⟩ := List.mem_map.mp hx
          exact ⟨fun z => (by cases z), fun xs z => by cases z⟩
        · show X.A.in1.units + 1 + (PyData.depth (.int x.natAbs)) < cLine
          have d1 : PyData.depth (.int x.natAbs) ≤ 1 := by simp [PyData.depth]
          have u1 : X.A.in1.units = X.A.units + 1 := rfl
          omega
        · obtain ⟨t, rfl⟩ := hv
          refine call_abs_int fun u tk => ⟨h, tk, rfl, fun b o e => e, ?_⟩
          have ea : (if x < 0 then -x else x) = (x.natAbs : Int) := by split <;> omega
          rw [ea]
          exact .int _ _
        · have fresh : H h'.objs.size = none := I.hok.fresh (Nat.le_of_lt hg)
          have old2 : ∀ b ob, s.heap.get? b = some ob → h2.get? b = some ob := fun b ob z => kp2 b ob (old b ob z) (Heap.get?_push_of_some _ (kp b ob z))
          have vo := vals_each e3'
          have lo : ((sortA (kvs.map (·.1))).map V.int).length ≤ sizeLine := by
            rw [List.length_map]
            unfold sortA
            rw [List.length_mergeSort]
            exact lz
          exact ⟨.ref h'.objs.size, _, I.laid (t' := tk2) (o := .lst ((sortA (kvs.map (·.1))).map V.int)) old2 (Nat.le_of_lt hg) ⟨lo, out, c, (show Vals ((sortA (kvs.map (·.1))).map V.int) out from vo), e1'⟩, rfl, Vg.alc v hr fresh fun kp => .lst lo (reps_ints _)⟩
      · exact False.elim v
    · exact False.elim v
  | _ => exact False.elim v
theorem e_sabsK {p q kp : Pos} (hc : X.calm = true) (hu : X.A.units + 200 < cLine) (hg : Gl X "sorted") (hm : X.mg "sorted" = none) (hg2 : Gl X "abs") (hm2 : X.mg "abs" = none) (ha : PE X a (tE X W fa)) (hp : plainE a = true) :
    PE X (.Call (.Name "sorted" p) [a] [⟨some "key", .Name "abs" q, kp⟩] pos) (tE X W fun ρ => bd (fa ρ) sabsKM) := by
  refine ⟨fun pins s σ H Q I ⟨as, m, ρ, sl, hr, v⟩ => ?_⟩
  have bS : bootBuiltins "sorted" = some (.builtin "sorted") := by decide +kernel
  have bA : bootBuiltins "abs" = some (.builtin "abs") := by decide +kernel
  have run := (pa_cons ha pa_nil (starEach_c hp)).run pos pins s σ H (fun xs H1 => ∃ x as1 m1 dx, xs = [x] ∧ HRep X.prog X.w X.K as1 m1 H1 ∧ Rep X.K H1 as1 x dx ∧ Vg X.prog X.w X.K X.mg (RD X.K) as1 H1 (sabsKM dx m1) Q fun c d H' => W c d σ H') I (tE_mono (tE_bd sl hr v) fun x H1 ⟨as1, m1, dx, sl1, hr1, k1, rx, v1⟩ => ⟨x, as1, m1, dx, rfl, hr1, rx, v1⟩)
  refine wpAny_Call_Name_kw (ld_blt I hg hm bS ?_)
  refine PyProof.Rows.callWith_kw (thn run fun us s1 ⟨xs, H1, I1, r1, x, as1, m1, dx, ex, hr1, rx, v1⟩ => ?_) (by rw [starEach_c hp]; rfl) (by rw [starEach_c hp]; rfl)
  subst ex
  obtain ⟨u, rfl, ru⟩ := vals1 r1
  refine wpAny_evalAll_cons (wpAny_bind (ld_blt I1 hg2 hm2 bA (wpAny_bind (wpAny_standAt (wpAny_pure (wpAny_evalAll_nil ?_))))))
  exact sabsK_ok hc hu I1 hr1 rx ru v1
theorem ixK_aux {σ : L2.St} {H : Hp} {Q : VK} (h : tE X W (fun ρ => bd (fa ρ) fun x => bd (fb ρ) fun y => ixKM x y) σ H Q) : tDGet (tE X W fa) (tE X W fb) σ H Q := by
  obtain ⟨as, m, ρ, sl, hr, v⟩ := h
  refine tE_mono (tE_bd sl hr v) fun x H1 ⟨as1, m1, dx, sl1, hr1, k1, rx, v1⟩ => ?_
  refine tE_mono (tE_bd sl1 hr1 v1) fun y H2 ⟨as2, m2, dy, sl2, hr2, k2, ry, v2⟩ => ?_
  cases rx with
  | @ref q n h1 =>
    cases ry with
    | int i =>
      have v2 : Vg X.prog X.w X.K X.mg (RD X.K) as2 H2 (match m2[n]? with
        | some (.mp kvs) => opt (lookI kvs i) m2
        | _ => .bad) Q fun c d H' => W c d σ H' := v2
      split at v2
      · rename_i kvs e1
        obtain ⟨kv, g1, g2, g3⟩ := hr2.mpk (k2.get h1) e1
        obtain ⟨d, e, v3⟩ := Vg.opt v2
        rcases look_rep (k := i) g2 g3 with ⟨p1, p2⟩ | ⟨v, d', p1, p2, p3⟩
        · rw [p2] at e
          cases e
        · rw [p2] at e
          cases e
          exact ⟨q, v, rfl, p1 ▸ DGet.k (k := Sum.inl i) g1, v3 _ _ _ Kp.refl hr2 p3⟩
      · exact False.elim v2
    | _ => exact False.elim v2
  | _ => cases ry <;> exact False.elim v2
theorem e_ixK (hu : X.A.units + 200 < cLine) (ha : PE X a (tE X W fa)) (hb : PE X b (tE X W fb)) (hs : NoSl b) : PE X (.Subscript a b pos) (tE X W fun ρ => bd (fa ρ) fun x => bd (fb ρ) fun y => ixKM x y) :=
  PEimp (pe_dget (by omega) ha hb hs) fun σ H Q h => ixK_aux h
theorem tups_each (I : Inv X pins σ0 H0 s0) {as : List Addr} : ∀ {ds : List D} {vs : List V} {us : List Value}, ds.all isTup = true → Reps X.K H0 as vs ds → Vals vs us → PySem.W.EachIs (fun u d => (∃ v, RelV v u ∧ Rep X.K H0 as v d) ∧ ∃ (a : Addr) (o : Obj) (its : Array Value) (n : Nat) (zs : List D), d = .tup zs ∧ u = .ref a ∧ s0.heap.get? a = some o ∧ o.cls = .type "tuple" ∧ o.data = .seq its n ∧ its.size = zs.length ∧ zs.length ≤ sizeLine) us ds
  | _, _, _, _, .nil, .nil => .nil
  | _, _, _, hd, .cons r rs, .cons p ps => by
    simp only [List.all_cons, Bool.and_eq_true] at hd
    refine .cons ⟨⟨_, p, r⟩, ?_⟩ (tups_each I hd.2 rs ps)
    cases r with
    | @tup a xs ds h1 h2 h3 =>
      obtain ⟨its, rv, ⟨o, ho, hc, n, hdt⟩, _⟩ := I.tuple h1
      obtain rfl : _ = Value.ref a := p
      refine ⟨a, o, its.toArray, n, ds, rfl, rfl, ho, hc, hdt, ?_, by rw [← h3.length]; exact h2⟩
      rw [List.size_toArray, ← rv.length, h3.length]
    | _ => exact absurd hd.1 Bool.false_ne_true
theorem slen_call (hu : X.A.units + 200 < cLine) {pins : List (Addr × Obj)} {s : Shared} {σ : L2.St} {H : Hp} {T : String} (hT : T = "list" ∨ T = "tuple") {as : List Addr} {l : Addr} {o : Obj} {n : Nat} {ds : List D} {vs : List V} {us : List Value} {Q : VK} (I : Inv X pins σ H s) (ho : s.heap.get? l = some o) (hc : o.cls = .type T) (hd : o.data = .seq us.toArray n) (rv : Vals vs us) (rr : Reps X.K H as vs ds) (ht : ds.all isTup = true) (hz : ds.length ≤ sizeLine)
    (q : ∀ p ws, H p = none → ws.length ≤ sizeLine → Reps X.K H as ws (ds.mergeSort (PySem.W.dataLe false lenD)) → Q (.ref p) (L2.upd H p (.lst ws))) : wpAny (model X.prog X.w) X.A (call (.builtin "sorted") [.ref l] [(Str.ofString "key", .builtin "len")]) (EP X pins σ Q) X.xe s := by
  have lens : us.length = ds.length := by rw [← rv.length, rr.length]
  have ea := tups_each I ht rr rv
  refine sorted_seq hT ho hc hd (by omega) (PyProof.Rows.ksk_s1 _ _) fun E' => ?_
  refine PySem.W.list_sort_key_data (b := false) lenD (PySem.W.copyHeap_at s.heap us) ea (fun x hx y hy => ?_) (.inr fun x hx => ?_) hz (fun x hx => ?_) (PyProof.Rows.ksk_l1 _ _) (PyProof.Rows.ksk_t4 _ _) (fun v x hv hx h tk kp => ?_) fun out c h' tk kp e1 e2 e3 => ?_
  · obtain ⟨i, hi, rfl⟩ := List.mem_map.mp hx
    obtain ⟨j, hj, rfl⟩ := List.mem_map.mp hy
    have h1 := List.all_eq_true.mp ht i hi
    have h2 := List.all_eq_true.mp ht j hj
    cases i with
    | tup xs =>
      cases j with
      | tup ys => rfl
      | _ => exact absurd h2 Bool.false_ne_true
    | _ => exact absurd h1 Bool.false_ne_true
  · obtain ⟨i, hi, rfl⟩ := List.mem_map.mp hx
    have h1 := List.all_eq_true.mp ht i hi
    cases i with
    | tup xs => exact ⟨fun z => (by cases z), fun xs z => by cases z⟩
    | _ => exact absurd h1 Bool.false_ne_true
  · have h1 := List.all_eq_true.mp ht x hx
    have d1 : PyData.depth (lenD x) ≤ 1 := by
      cases x with
      | tup xs => simp [lenD, PyData.depth]
      | _ => exact absurd h1 Bool.false_ne_true
    have u1 : X.A.in1.units = X.A.units + 1 := rfl
    omega
  · obtain ⟨_, a, oo, its, k, zs, rfl, rfl, g1, g2, g3, g4, g5⟩ := hv
    have gh := kp a oo (Nat.ne_of_lt (Nat.lt_succ_of_lt (Heap.lt_size g1))) (PySem.W.copyHeap_old g1)
    have big : sizeLine < 2 ^ 62 := by decide
    refine PyProof.Rows.len_tuple (items := its) ⟨oo, gh, g2, k, g3⟩ (by omega) ⟨h, _, rfl, fun b o e => e, ?_⟩
    rw [g4]
    exact .int _ _
  · have fresh : H (s.heap.objs.size + 1) = none := I.hok.fresh (Nat.le_succ _)
    have old : ∀ b ob, s.heap.get? b = some ob → h'.get? b = some ob := fun b ob z => kp b ob (Nat.ne_of_lt (Nat.lt_succ_of_lt (Heap.lt_size z))) (PySem.W.copyHeap_old z)
    obtain ⟨ws, w1, w2⟩ := vals_of_each (e3.mono fun _ _ h => h.1)
    have lo : ws.length ≤ sizeLine := by
      rw [w2.length, List.length_mergeSort]
      exact hz
    exact ⟨.ref (s.heap.objs.size + 1), _, I.laid (t' := tk) (o := .lst ws) old (Nat.le_succ _) ⟨lo, out, c, w1, e1⟩, rfl, q _ ws fresh lo w2⟩
theorem slen_ok (hu : X.A.units + 200 < cLine) {pins : List (Addr × Obj)} {s : Shared} {σ : L2.St} {H : Hp} {as : List Addr} {m : Mu} {x : V} {dx : D} {u : Value} {Q : VK} {Eq : XK} (I : Inv X pins σ H s) (hr : HRep X.prog X.w X.K as m H) (rx : Rep X.K H as x dx) (ru : RelV x u)
    (v : Vg X.prog X.w X.K X.mg (RD X.K) as H (slenM dx m) Q Eq) : wpAny (model X.prog X.w) X.A (call (.builtin "sorted") [u] [(Str.ofString "key", .builtin "len")]) (EP X pins σ Q) X.xe s := by
  have v : Vg X.prog X.w X.K X.mg (RD X.K) as H (match seqOf m dx with
    | some xs => if xs.length ≤ sizeLine ∧ xs.all isTup = true then alc (.lst (xs.mergeSort (PySem.W.dataLe false lenD))) m else .bad
    | none => .bad) Q Eq := v
  split at v
  · rename_i xs e1
    split at v
    · rename_i hz
      have fin : ∀ p ws, H p = none → ws.length ≤ sizeLine → Reps X.K H as ws (xs.mergeSort (PySem.W.dataLe false lenD)) → Q (.ref p) (L2.upd H p (.lst ws)) := fun p ws hp lo rw_ => Vg.alc v hr hp fun kp => .lst lo (rw_.mono hr kp)
      cases rx with
      | @ref a n h1 =>
        obtain ⟨vs, g1, g2, g3⟩ := hr.read h1 (show lstAt m n = some xs from e1)
        obtain ⟨its, rv, pl, _⟩ := I.list g1
        obtain rfl : u = Value.ref a := ru
        obtain ⟨o, k, ho, hc, hdn, hd⟩ := pl
        exact slen_call hu (.inl rfl) I ho hc hd rv g3 hz.2 hz.1 fin
      | @tup a vs ds h1 h2 h3 =>
        cases e1
        obtain ⟨its, rv, ⟨o, ho, hc, k, hd⟩, _⟩ := I.tuple h1
        obtain rfl : u = Value.ref a := ru
        exact slen_call hu (.inr rfl) I ho hc hd rv h3 hz.2 hz.1 fin
      | _ => cases e1
    · exact False.elim v
  · exact False.elim v
theorem e_slen {p q kp : Pos} (hu : X.A.units + 200 < cLine) (hg : Gl X "sorted") (hm : X.mg "sorted" = none) (hg2 : Gl X "len") (hm2 : X.mg "len" = none) (ha : PE X a (tE X W fa)) (hp : plainE a = true) :
    PE X (.Call (.Name "sorted" p) [a] [⟨some "key", .Name "len" q, kp⟩] pos) (tE X W fun ρ => bd (fa ρ) slenM) := by
  refine ⟨fun pins s σ H Q I ⟨as, m, ρ, sl, hr, v⟩ => ?_⟩
  have bS : bootBuiltins "sorted" = some (.builtin "sorted") := by decide +kernel
  have bA : bootBuiltins "len" = some (.builtin "len") := by decide +kernel
  have run := (pa_cons ha pa_nil (starEach_c hp)).run pos pins s σ H (fun xs H1 => ∃ x as1 m1 dx, xs = [x] ∧ HRep X.prog X.w X.K as1 m1 H1 ∧ Rep X.K H1 as1 x dx ∧ Vg X.prog X.w X.K X.mg (RD X.K) as1 H1 (slenM dx m1) Q fun c d H' => W c d σ H') I (tE_mono (tE_bd sl hr v) fun x H1 ⟨as1, m1, dx, sl1, hr1, k1, rx, v1⟩ => ⟨x, as1, m1, dx, rfl, hr1, rx, v1⟩)
  refine wpAny_Call_Name_kw (ld_blt I hg hm bS ?_)
  refine PyProof.Rows.callWith_kw (thn run fun us s1 ⟨xs, H1, I1, r1, x, as1, m1, dx, ex, hr1, rx, v1⟩ => ?_) (by rw [starEach_c hp]; rfl) (by rw [starEach_c hp]; rfl)
  subst ex
  obtain ⟨u, rfl, ru⟩ := vals1 r1
  refine wpAny_evalAll_cons (wpAny_bind (ld_blt I1 hg2 hm2 bA (wpAny_bind (wpAny_standAt (wpAny_pure (wpAny_evalAll_nil ?_))))))
  exact slen_ok hu I1 hr1 rx ru v1
theorem e_lvals {p apos cpos : Pos} (hc : X.calm = true) (hg : Gl X "list") (hm : X.mg "list" = none) (ha : PE X a (tE X W fa)) (hb : attributeBase a "values" X.env (eval a X.env) = eval a X.env) (hline : (apos.endLine == cpos.line) = true) :
    PE X (.Call (.Name "list" p) [.Call (.Attribute a "values" apos) [] [] cpos] [] pos) (tE X W fun ρ => bd (fa ρ) lvalsM) := by
  have hv : bootBuiltins "list" = some (.type "list") := by decide +kernel
  have hs : starEach [.Call (.Attribute a "values" apos) [] [] cpos] X.env = (false, eval (.Call (.Attribute a "values" apos) [] [] cpos) X.env) :: starEach [] X.env := by rfl
  refine ⟨fun pins s σ H Q I ⟨as, m, ρ, sl, hr, v⟩ => ?_⟩
  refine wpAny_Call_Name_kw (ld_blt I hg hm hv ?_)
  refine PyProof.Rows.callWith_type1 ?_ hs rfl
  rw [hs]
  show wpAny _ _ (spliced ((false, eval (.Call (.Attribute a "values" apos) [] [] cpos) X.env) :: backTo pos (starEach [] X.env))) _ _ s
  refine Calls.spliced_cons ?_
  refine wpAny_Call_method (T := "dict") (id := "dict.values") hb rfl hline F.plainAttrs_dict F.slot_dict_values F.type_dict_values (thn (ha.run pins s σ H _ I (tE_bd sl hr v)) fun u s1 ⟨x, H1, I1, r1, as1, m1, dx, sl1, hr1, k1, rx, v1⟩ => ?_)
  cases rx with
  | @ref d n h1 =>
    obtain rfl : u = Value.ref d := r1
    have v1 : Vg X.prog X.w X.K X.mg (RD X.K) as1 H1 (match m1[n]? with
      | some (.dct _ kvs) => alc (.lst (kvs.map (·.2))) m1
      | _ => .bad) Q (fun c d H' => W c d σ H') := v1
    split at v1
    · rename_i kvs e1
      obtain ⟨l, es, ep, hs0, ⟨od, hod, hox, hdt⟩, hsz, hz, dr, _, ev⟩ := dct_raw I1 hr1 h1 e1
      have I2 : Inv X pins σ H1 { s1 with heap := s1.heap.push { cls := .type "dict_values", data := .fields #[.ref d] } } := I1.kept (t' := s1.toks) fun b ob q => Heap.get?_push_of_some _ q
      have ht : s1.TypeIs (.ref d) "dict" := ⟨od, hod, hox.1⟩
      refine ⟨ht, fun a' e => (by cases e; exact ⟨od, hod, hox.2.1⟩), ?_⟩
      show wpAny _ _ (callWith cpos (.builtin "dict.values") [.ref d] [] []) _ X.xe s1
      refine method_meetsIn F.slot_dict_values F.entry_dict_values rfl (PySem.evalArgs_none ⟨rfl, ht, F.args_dict_values_1 _, _, meets_dict_values_raw d hs0, ⟨es, ep, od, hod, hox, hdt⟩, ?_⟩)
      refine Calls.spliced_nil ?_
      exact listV_call hc I2 hr1 h1 e1 ⟨_, Heap.get?_push_size _ rfl, rfl, rfl⟩ v1
    · exact False.elim v1
  | _ => exact False.elim v1
end
end Af
namespace Af
open PySem PySem.Spec PyProof.Rows L2
open Sem (wp)
section
variable {pg : Program} {w : World} {A : Around} {E : Value → Shared → Prop} {s : Shared} {z TI TO T a b : Addr} {pa pb : List Addr} {na nb i : Nat} {Pa Pb : Nat → Value → Prop} {Sa Sb : Nat → Heap → Prop} {fl : Bool} {oT : Obj}
theorem zh_item {Q : Value → Shared → Prop} (S : ZipSep2 z TI TO a b pa pb) (Da : Draws pg w A a pa na Pa Sa) (Db : Draws pg w A b pb nb Pb Sb) (hZ : IsZipHeld s.heap z TI TO T fl) (hO : s.heap.get? T = some oT) (hP : IsTupOf2 s.heap TI (.ref a) (.ref b))
    (sa : Sa i s.heap) (sb : Sb i s.heap) (la : i < na) (lb : i < nb)
    (q : ∀ x y h' tk, Pa i x → Pb i y → IsZipHeld h' z TI TO T true → Sa (i + 1) h' → Sb (i + 1) h' → IsTupOf2 h' s.heap.objs.size x y → h'.objs.size = s.heap.objs.size + 1 → (∀ c o, c ≠ z → c ≠ a → c ≠ b → s.heap.get? c = some o → h'.get? c = some o) → Q (.ref s.heap.objs.size) { s with heap := h', toks := tk }) :
    wpAny (model pg w) A (Builtin.«zip.__next__» ⟨[.ref z], []⟩) (fun fin s' => ∃ v, fin = .done (.ret v) ∧ Q v s') E s := by
  show wpAny (model pg w) A (field (Value.ref z) 2 >>= _) _ E s
  refine wpAny_bind (wpAny_field hZ rfl (x := Value.bool false) rfl ?_)
  show wpAny (model pg w) A (field (Value.ref z) 3 >>= _) _ E s
  refine wpAny_bind (wpAny_field hZ rfl (x := Value.ref TI) rfl (wpAny_bind (wpAny_seqItems hP rfl ?_)))
  show wpAny (model pg w) A (Builtin.SmallTypes.ownedTupleIsFree (Value.ref z) >>= _) _ E s
  refine wpAny_bind (wpAny_tupleHeld_zip hZ hO fun h1 hZ1 k1 => ?_)
  simp only [Bool.false_eq_true, if_false]
  refine wpAny_bind ?_
  rw [← Array.forIn_toList]
  simp only [List.forIn_nil, List.forIn_cons]
  refine wpAny_bind (wpAny_bind (wpAny_holding ?_))
  show wpAny (model pg w) A (Builtin.SmallTypes.nextOf (Value.ref a) >>= _) _ E { s with heap := h1 }
  refine wpAny_bind (Da.item i { s with heap := h1 } _ _ la (Da.over sa k1 S.zf1) fun x h2 t2 hx sa2 k2 => wpAny_pure (wpAny_pure ?_))
  replace k2 : Heap.SameBut a h1 h2 := k2
  refine wpAny_bind (wpAny_bind (wpAny_holding ?_))
  show wpAny (model pg w) A (Builtin.SmallTypes.nextOf (Value.ref b) >>= _) _ E { s with heap := h2, toks := t2 }
  refine wpAny_bind (Db.item i { s with heap := h2, toks := t2 } _ _ lb (Db.over (Db.over sb k1 S.zf2) k2 S.sep1_2) fun y h3 t3 hy sb3 k3 => wpAny_pure (wpAny_pure (wpAny_pure ?_)))
  replace k3 : Heap.SameBut b h2 h3 := k3
  show wpAny (model pg w) A (newTuple [x, y] >>= _) _ E { s with heap := h3, toks := t3 }
  refine wpAny_bind (wpAny_newTuple (wpAny_pure ⟨_, rfl, ?_⟩))
  have sz : h3.objs.size = s.heap.objs.size := by rw [k3.1, k2.1, k1.1]
  have hZ3 : IsZipHeld h3 z TI TO T true := k3.extBut _ _ S.zi2 (k2.extBut _ _ S.zi1 hZ1)
  have kk : ∀ c o, c ≠ z → c ≠ a → c ≠ b → s.heap.get? c = some o → h3.get? c = some o := fun c o c1 c2 c3 e => k3.extBut _ _ c3 (k2.extBut _ _ c2 (k1.extBut _ _ c1 e))
  have sa3 : Sa (i + 1) h3 := Da.over sa2 k3 S.sep2_1
  have up : ∀ c o, h3.get? c = some o → (h3.push { cls := .type "tuple", data := .seq #[x, y] }).get? c = some o := fun c o e => Heap.get?_push_of_some _ e
  have hn : IsTupOf2 (h3.push { cls := .type "tuple", data := .seq #[x, y] }) h3.objs.size x y := Heap.get?_push_size _ rfl
  have hs : (h3.push { cls := .type "tuple", data := .seq #[x, y] }).objs.size = h3.objs.size + 1 := Heap.size_push ..
  show Q (.ref h3.objs.size) _
  rw [sz] at hn hs ⊢
  exact q x y _ t3 hx hy (up _ _ hZ3) (Da.frame _ _ _ sa3 fun c _ o e => up c o e) (Db.frame _ _ _ sb3 fun c _ o e => up c o e) hn hs fun c o c1 c2 c3 e => up c o (kk c o c1 c2 c3 e)
theorem zh_end {Q : Fin → Shared → Prop} (S : ZipSep2 z TI TO a b pa pb) (Da : Draws pg w A a pa na Pa Sa) (Db : Draws pg w A b pb nb Pb Sb) (hZ : IsZipHeld s.heap z TI TO T fl) (hO : s.heap.get? T = some oT) (hP : IsTupOf2 s.heap TI (.ref a) (.ref b))
    (sa : Sa i s.heap) (sb : Sb i s.heap) (la : i ≤ na) (lb : i ≤ nb) (he : i = na ∨ i = nb)
    (q : ∀ h' tk e, (∀ c o, c ≠ z → c ≠ a → c ≠ b → s.heap.get? c = some o → h'.get? c = some o) → (∃ o, h'.get? e = some o ∧ o.cls = .type "StopIteration") → E (.ref e) { s with heap := h', toks := tk }) :
    wpAny (model pg w) A (Builtin.«zip.__next__» ⟨[.ref z], []⟩) Q E s := by
  show wpAny (model pg w) A (field (Value.ref z) 2 >>= _) _ E s
  refine wpAny_bind (wpAny_field hZ rfl (x := Value.bool false) rfl ?_)
  show wpAny (model pg w) A (field (Value.ref z) 3 >>= _) _ E s
  refine wpAny_bind (wpAny_field hZ rfl (x := Value.ref TI) rfl (wpAny_bind (wpAny_seqItems hP rfl ?_)))
  show wpAny (model pg w) A (Builtin.SmallTypes.ownedTupleIsFree (Value.ref z) >>= _) _ E s
  refine wpAny_bind (wpAny_tupleHeld_zip hZ hO fun h1 hZ1 k1 => ?_)
  simp only [Bool.false_eq_true, if_false]
  refine wpAny_bind ?_
  rw [← Array.forIn_toList]
  simp only [List.forIn_nil, List.forIn_cons]
  refine wpAny_bind (wpAny_bind (wpAny_holding ?_))
  show wpAny (model pg w) A (Builtin.SmallTypes.nextOf (Value.ref a) >>= _) _ E { s with heap := h1 }
  by_cases c : i < na
  · refine wpAny_bind (Da.item i { s with heap := h1 } _ _ c (Da.over sa k1 S.zf1) fun x h2 t2 hx sa2 k2 => wpAny_pure (wpAny_pure ?_))
    replace k2 : Heap.SameBut a h1 h2 := k2
    refine wpAny_bind (wpAny_bind (wpAny_holding ?_))
    show wpAny (model pg w) A (Builtin.SmallTypes.nextOf (Value.ref b) >>= _) _ E { s with heap := h2, toks := t2 }
    have eb : i = nb := by omega
    refine wpAny_bind (Db.done { s with heap := h2, toks := t2 } _ _ (by rw [← eb]; exact Db.over (Db.over sb k1 S.zf2) k2 S.sep1_2) fun h3 e k3 hs => ?_)
    exact q h3 t2 e (fun c o c1 c2 c3 x => k3 _ _ c3 (k2.extBut _ _ c2 (k1.extBut _ _ c1 x))) hs
  · have ea : i = na := by omega
    refine wpAny_bind (Da.done { s with heap := h1 } _ _ (by rw [← ea]; exact Da.over sa k1 S.zf1) fun h2 e k2 hs => ?_)
    exact q h2 s.toks e (fun c o c1 c2 _ x => k2 _ _ c2 (k1.extBut _ _ c1 x)) hs
theorem zh_next {Q : Option Value → Shared → Prop} (S : ZipSep2 z TI TO a b pa pb) (Da : Draws pg w A.in1 a pa na Pa Sa) (Db : Draws pg w A.in1 b pb nb Pb Sb) (hZ : IsZipHeld s.heap z TI TO T fl) (hO : s.heap.get? T = some oT) (hP : IsTupOf2 s.heap TI (.ref a) (.ref b))
    (sa : Sa i s.heap) (sb : Sb i s.heap) (la : i < na) (lb : i < nb)
    (q : ∀ x y h' tk, Pa i x → Pb i y → IsZipHeld h' z TI TO T true → Sa (i + 1) h' → Sb (i + 1) h' → IsTupOf2 h' s.heap.objs.size x y → h'.objs.size = s.heap.objs.size + 1 → (∀ c o, c ≠ z → c ≠ a → c ≠ b → s.heap.get? c = some o → h'.get? c = some o) → Q (some (.ref s.heap.objs.size)) { s with heap := h', toks := tk }) :
    wpAny (model pg w) A (pyNext (.ref z)) Q E s := by
  have ty : s.TypeIs (.ref z) "zip" := ⟨_, hZ, rfl⟩
  unfold pyNext
  exact wpAny_bind (wpAny_attempt (wpAny_callSpecial?_slot (name := Str.ofString "__next__") ty F.slot_zip_next (wpAny_call_entry F.slot_zip_next ty F.entry_zip_next (zh_item S Da Db hZ hO hP sa sb la lb fun x y h' tk y1 y2 b1 b2 b3 b4 b5 b6 => wpAny_pure (q x y h' tk y1 y2 b1 b2 b3 b4 b5 b6)) (F.args_zip_next_1 _))))
theorem zh_stop {Q : Option Value → Shared → Prop} (S : ZipSep2 z TI TO a b pa pb) (Da : Draws pg w A.in1 a pa na Pa Sa) (Db : Draws pg w A.in1 b pb nb Pb Sb) (hZ : IsZipHeld s.heap z TI TO T fl) (hO : s.heap.get? T = some oT) (hP : IsTupOf2 s.heap TI (.ref a) (.ref b))
    (sa : Sa i s.heap) (sb : Sb i s.heap) (la : i ≤ na) (lb : i ≤ nb) (he : i = na ∨ i = nb)
    (q : ∀ h' tk, (∀ c o, c ≠ z → c ≠ a → c ≠ b → s.heap.get? c = some o → h'.get? c = some o) → Q none { s with heap := h', toks := tk }) : wpAny (model pg w) A (pyNext (.ref z)) Q E s := by
  have ty : s.TypeIs (.ref z) "zip" := ⟨_, hZ, rfl⟩
  unfold pyNext
  refine wpAny_bind (wpAny_attempt (wpAny_callSpecial?_slot (name := Str.ofString "__next__") ty F.slot_zip_next (wpAny_call_entry F.slot_zip_next ty F.entry_zip_next (zh_end S Da Db hZ hO hP sa sb la lb he fun h' tk e hk hs => ?_) (F.args_zip_next_1 _))))
  obtain ⟨o, ho, hc⟩ := hs
  exact wpAny_bind (wpAny_isInstance (T := "StopIteration") (b := true) ⟨o, ho, hc⟩ isSubtype_stop (wpAny_pure (q _ _ hk)))
end
section
variable {pg : Program} {w : World}
def ZOk (z TI TO a b l t : Addr) (xs ys : Array Value) (h : Heap) : Prop := IsZip h z TI TO .none ∧ IsTupOf2 h TI (.ref a) (.ref b) ∧ (∃ u v, IsTupOf2 h TO u v) ∧ (h.IsListIter a l 0 ∧ h.IsList l xs) ∧ h.IsTupleIter b t 0 ∧ h.IsTuple t ys
def ZSt (z TI TO a b l t d : Addr) (xs ys : Array Value) (i : Nat) (h : Heap) : Prop := IsTupOf2 h TI (.ref a) (.ref b) ∧ (h.IsListIter a l i ∧ h.IsList l xs) ∧ (h.IsTupleIter b t i ∧ h.IsTuple t ys) ∧ ((IsZip h z TI TO .none ∧ ∃ u v, IsTupOf2 h TO u v) ∨ ∃ T fl oT, IsZipHeld h z TI TO T fl ∧ h.get? T = some oT ∧ T ≠ z ∧ T ≠ a ∧ T ≠ b ∧ T ≠ d)
theorem pa_zip {z TI TO a b l t : Addr} (S : ZipSep2 z TI TO a b [a, l] [b, t]) (la : l ≠ a) (tb : t ≠ b) (xs ys : Array Value) :
    PairArg pg w "zip" z [z, TI, TO, a, b, l, t] [z, TO, a, b] (min xs.size ys.size) (fun i k v => xs[i]? = some k ∧ ys[i]? = some v) (ZOk z TI TO a b l t xs ys) where
  type := fun s h => ⟨_, h.1, rfl⟩
  notDict := rfl
  keep := fun h h' ok k => by
    obtain ⟨p1, p2, ⟨u, v, p3⟩, ⟨p4, p5⟩, p6, p7⟩ := ok
    exact ⟨k _ _ p1, k _ _ p2, ⟨u, v, k _ _ p3⟩, ⟨p4.at fun o e => k _ o e, p5.at fun o e => k _ o e⟩, p6.at fun o e => k _ o e, p7.at fun o e => k _ o e⟩
  there := fun h ok c hc => by
    obtain ⟨p1, p2, ⟨u, v, p3⟩, ⟨⟨o4, p4, _⟩, ⟨o5, p5, _⟩⟩, ⟨o6, p6, _⟩, ⟨o7, p7, _⟩⟩ := ok
    simp only [List.mem_cons, List.not_mem_nil, or_false] at hc
    rcases hc with e | e | e | e | e | e | e <;> subst e
    · exact ⟨_, p1⟩
    · exact ⟨_, p2⟩
    · exact ⟨_, p3⟩
    · exact ⟨_, p4⟩
    · exact ⟨_, p6⟩
    · exact ⟨_, p5⟩
    · exact ⟨_, p7⟩
  sub := fun c hc => by
    simp only [List.mem_cons, List.not_mem_nil, or_false] at hc ⊢
    rcases hc with e | e | e | e <;> simp [e]
  noKeys := fun A s Q E hA ok q => getAttrOr_miss_zip ok.1 rfl rfl rfl zip_no_keys (by decide +kernel) hA q
  iter := fun A s d Q E hA ok hd hdf q => by
    obtain ⟨p1, p2, ⟨u, v, p3⟩, p4, p6⟩ := ok
    simp only [List.mem_cons, List.not_mem_nil, or_false, not_or] at hdf
    obtain ⟨dz, dI, dO, da, db, dl, dt⟩ := hdf
    refine wpAny_pyIter_zip p1 (q z [z, TO, a, b] (ZSt z TI TO a b l t d xs ys) s.heap s.toks ?_ ⟨p2, p4, p6, .inl ⟨p1, u, v, p3⟩⟩ (fun _ _ e => e) fun c hc => .inl hc)
    have Da := Draws.list (prog := pg) (w := w) (A := A.in1) hA a l la xs
    have Db := Draws.tuple (prog := pg) (w := w) (A := A.in1) hA b t tb ys
    exact {
      off := fun hc => by
        simp only [List.mem_cons, List.not_mem_nil, or_false] at hc
        rcases hc with e | e | e | e
        · exact dz e
        · exact dO e
        · exact da e
        · exact db e
      frame := fun i h1 h2 st k => by
        obtain ⟨q1, ⟨q2, q3⟩, ⟨q4, q5⟩, q6⟩ := st
        refine ⟨k _ _ (Ne.symm dI) q1, ⟨q2.at fun o e => k _ o (Ne.symm da) e, q3.at fun o e => k _ o (Ne.symm dl) e⟩, ⟨q4.at fun o e => k _ o (Ne.symm db) e, q5.at fun o e => k _ o (Ne.symm dt) e⟩, ?_⟩
        rcases q6 with ⟨r1, u, v, r2⟩ | ⟨T, fl, oT, r1, r2, r3, r4, r5, r6⟩
        · exact .inl ⟨k _ _ (Ne.symm dz) r1, u, v, k _ _ (Ne.symm dO) r2⟩
        · exact .inr ⟨T, fl, oT, k _ _ (Ne.symm dz) r1, k _ _ r6 r2, r3, r4, r5, r6⟩
      item := fun i s1 Q1 E1 hi st hds hq => by
        obtain ⟨q1, q2, q4, q6⟩ := st
        have ia : i < xs.size := by omega
        have ib : i < ys.size := by omega
        have na : s1.heap.objs.size ≠ a := by
          obtain ⟨o, e, _⟩ := q2.1
          exact Nat.ne_of_gt (Heap.lt_size e)
        have nb : s1.heap.objs.size ≠ b := by
          obtain ⟨o, e, _⟩ := q4.1
          exact Nat.ne_of_gt (Heap.lt_size e)
        have nd : s1.heap.objs.size ≠ d := Nat.ne_of_gt hds
        rcases q6 with ⟨r1, u, v, r2⟩ | ⟨T, fl, oT, r1, r2, r3, r4, r5, r6⟩
        · refine wpAny_pyNext_zipD2_item S Da Db r1 q1 r2 q2 q4 ia ib fun x y h' tk hx hy w1 w2 w3 w4 w5 w6 kp => ?_
          exact hq s1.heap.objs.size x y h' tk ⟨hx, hy⟩ (.inl ⟨_, w5, rfl, _, rfl⟩) ⟨kp _ _ S.TIz S.TITO S.TIi1 S.TIi2 q1, w3, w4, .inr ⟨s1.heap.objs.size, false, _, w1, w5, Nat.ne_of_gt (Heap.lt_size r1), na, nb, nd⟩⟩
            fun c o hc e => kp c o (fun z => hc (by simp [z])) (fun z => hc (by simp [z])) (fun z => hc (by simp [z])) (fun z => hc (by simp [z])) e
        · refine zh_next S Da Db r1 r2 q1 q2 q4 ia ib fun x y h' tk hx hy w1 w3 w4 w5 w6 kp => ?_
          exact hq s1.heap.objs.size x y h' tk ⟨hx, hy⟩ (.inl ⟨_, w5, rfl, _, rfl⟩) ⟨kp _ _ S.TIz S.TIi1 S.TIi2 q1, w3, w4, .inr ⟨T, true, oT, w1, kp _ _ r3 r4 r5 r2, r3, r4, r5, r6⟩⟩
            fun c o hc e => kp c o (fun z => hc (by simp [z])) (fun z => hc (by simp [z])) (fun z => hc (by simp [z])) e
      done := fun s1 Q1 E1 st hq => by
        obtain ⟨q1, q2, q4, q6⟩ := st
        have hl : min xs.size ys.size ≤ xs.size := Nat.min_le_left ..
        have hr : min xs.size ys.size ≤ ys.size := Nat.min_le_right ..
        have he : min xs.size ys.size = xs.size ∨ min xs.size ys.size = ys.size := by omega
        rcases q6 with ⟨r1, u, v, r2⟩ | ⟨T, fl, oT, r1, r2, r3, r4, r5, r6⟩
        · exact wpAny_pyNext_zipD2_end S Da Db r1 q1 r2 q2 q4 hl hr he fun h' tk kp => hq h' tk fun c o hc e => kp c o (fun z => hc (by simp [z])) (fun z => hc (by simp [z])) (fun z => hc (by simp [z])) (fun z => hc (by simp [z])) e
        · exact zh_stop S Da Db r1 r2 q1 q2 q4 hl hr he fun h' tk kp => hq h' tk fun c o hc e => kp c o (fun z => hc (by simp [z])) (fun z => hc (by simp [z])) (fun z => hc (by simp [z])) e }
end
section
variable {K : PySem.W.Frag} {H : Hp} {as : List Addr}
theorem zipI_rep : ∀ {xs ys : List D} {kvs : List (Int × D)} {vs ws : List V} {us qs : List Value}, pairsI (zipL xs ys) = some kvs → Reps K H as vs xs → Reps K H as ws ys → Vals vs us → Vals ws qs →
    ∃ (kv : List (Key × V)) (prs : List (Key × Value)), KV kv prs ∧ prs.length = min us.length qs.length ∧ (∀ (i : Nat) (k v : Value), us[i]? = some k → qs[i]? = some v → ∃ kk, prs[i]? = some (kk, v) ∧ keyIs kk k = true) ∧ kv.map (·.1) = kvs.map (fun p => Sum.inl p.1) ∧ Reps K H as (kv.map (·.2)) (kvs.map (·.2))
  | [], ys, kvs, vs, ws, us, qs, e, r1, r2, v1, v2 => by
    cases r1
    cases v1
    cases e
    exact ⟨[], [], .nil, by simp, fun i k v h => by simp at h, rfl, .nil⟩
  | x :: xs, [], kvs, vs, ws, us, qs, e, r1, r2, v1, v2 => by
    cases r2
    cases v2
    cases e
    exact ⟨[], [], .nil, by simp, fun i k v _ h => by simp at h, rfl, .nil⟩
  | x :: xs, y :: ys, kvs, vs, ws, us, qs, e, r1, r2, v1, v2 => by
    cases x with
    | int k =>
      obtain ⟨kvs', e1, rfl⟩ := Option.map_eq_some_iff.mp (show (pairsI (zipL xs ys)).map ((k, y) :: ·) = some kvs from e)
      cases r1 with
      | cons a1 b1 =>
        cases r2 with
        | cons a2 b2 =>
          cases v1 with
          | cons c1 d1 =>
            cases v2 with
            | cons c2 d2 =>
              obtain ⟨kv, prs, z1, z2, z3, z4, z5⟩ := zipI_rep e1 b1 b2 d1 d2
              cases a1
              refine ⟨(Sum.inl k, _) :: kv, (Sum.inl k, _) :: prs, .cons ⟨rfl, c2⟩ z1, by simp [z2, Nat.succ_min_succ], fun i key v h1 h2 => ?_, by rw [List.map_cons, List.map_cons, z4], .cons a2 z5⟩
              cases i with
              | zero =>
                cases h1
                cases h2
                obtain ⟨t, et⟩ := (show ∃ t, _ = Value.int k t from c1)
                exact ⟨_, rfl, by rw [et]; simp [keyIs, Value.isInt]⟩
              | succ i =>
                obtain ⟨kk, w1, w2⟩ := z3 i key v (by simpa using h1) (by simpa using h2)
                exact ⟨kk, by simpa using w1, w2⟩
    | _ => cases e
theorem zipT_rep : ∀ {xs ys : List D} {kvs : List (D × D)} {vs ws : List V} {us qs : List Value}, pairsT (zipL xs ys) = some kvs → Reps K H as vs xs → Reps K H as ws ys → Vals vs us → Vals ws qs →
    ∃ (l : List (NestedKey × Addr × V)) (ps : List (NestedKey × Addr × Value)), Paired PX l ps ∧ ps.length = min us.length qs.length ∧ (∀ (i : Nat) (k v : Value), us[i]? = some k → qs[i]? = some v → ∃ kk b, ps[i]? = some (kk, b, v) ∧ k = .ref b) ∧ DRel K H as l kvs ∧ (l.map fun p => some p.1) = kvs.map fun p => kd p.1
  | [], ys, kvs, vs, ws, us, qs, e, r1, r2, v1, v2 => by
    cases r1
    cases v1
    cases e
    exact ⟨[], [], .nil, by simp, fun i k v h => by simp at h, .nil, rfl⟩
  | x :: xs, [], kvs, vs, ws, us, qs, e, r1, r2, v1, v2 => by
    cases r2
    cases v2
    cases e
    exact ⟨[], [], .nil, by simp, fun i k v _ h => by simp at h, .nil, rfl⟩
  | x :: xs, y :: ys, kvs, vs, ws, us, qs, e, r1, r2, v1, v2 => by
    have e : (match kd x with
      | some _ => (pairsT (zipL xs ys)).map ((x, y) :: ·)
      | none => none) = some kvs := e
    cases ek : kd x with
    | none => rw [ek] at e; cases e
    | some kk =>
      rw [ek] at e
      obtain ⟨kvs', e1, rfl⟩ := Option.map_eq_some_iff.mp e
      cases r1 with
      | cons a1 b1 =>
        cases r2 with
        | cons a2 b2 =>
          cases v1 with
          | cons c1 d1 =>
            cases v2 with
            | cons c2 d2 =>
              obtain ⟨l, ps, z1, z2, z3, z4, z5⟩ := zipT_rep e1 b1 b2 d1 d2
              cases x with
              | tup ks =>
                cases a1 with
                | @tup b zs _ w1 w2 w3 =>
                  refine ⟨(kk, b, _) :: l, (kk, b, _) :: ps, .cons ⟨rfl, rfl, c2⟩ z1, by simp [z2, Nat.succ_min_succ], fun i key v h1 h2 => ?_, .cons ek (.tup w1 w2 w3) a2 z4, by rw [List.map_cons, List.map_cons, z5, ek]⟩
                  cases i with
                  | zero =>
                    cases h1
                    cases h2
                    exact ⟨_, _, rfl, c1⟩
                  | succ i =>
                    obtain ⟨kk, bb, w1, w2⟩ := z3 i key v (by simpa using h1) (by simpa using h2)
                    exact ⟨kk, bb, by simpa using w1, w2⟩
              | _ => cases ek
end
section
variable {X : Cx} {pins : List (Addr × Obj)} {σ : L2.St} {H : Hp} {s : Shared} {as : List Addr} {m : Mu} {W : WX}
theorem dzip_call (hc : X.calm = true) (hu : X.A.units + 200 < cLine) {k : Bool} {Q : VK} {Eq : XK} (I : Inv X pins σ H s) (hr : HRep X.prog X.w X.K as m H) {x y : V} {dx dy : D} {u v : Value} (rx : Rep X.K H as x dx) (ry : Rep X.K H as y dy) (ru : RelV x u) (rv : RelV y v)
    (q : Vg X.prog X.w X.K X.mg (RD X.K) as H (dZip k dx dy m) Q Eq) : wpAny (model X.prog X.w) X.A (call (.type "zip") [u, v]) (fun zv s' => wpAny (model X.prog X.w) X.A (call (.type "dict") [zv]) (EP X pins σ Q) X.xe s') X.xe s := by
  cases rx with
  | @ref l n h1 =>
    cases ry with
    | @tup t ws ys h2 h3 h4 =>
      have q : Vg X.prog X.w X.K X.mg (RD X.K) as H (match lstAt m n with
        | some xs => if k = true then (match pairsI (zipL xs ys) with
            | some kvs => alc (.mp (mergeI [] kvs)) m
            | none => .bad) else (match pairsT (zipL xs ys) with
            | some kvs => if (kvs.map fun p => kd p.1).Nodup then alc (.dct false kvs) m else .bad
            | none => .bad)
        | none => .bad) Q Eq := q
      split at q
      · rename_i xs e1
        obtain ⟨vs, g1, g2, g3⟩ := hr.read h1 e1
        obtain ⟨us, v1, pl, hz⟩ := I.list g1
        obtain ⟨qs, v2, pt, hz2⟩ := I.tuple h2
        obtain rfl : u = Value.ref l := ru
        obtain rfl : v = Value.ref t := rv
        obtain ⟨ol, kl, ho, hcl, hdn, hd⟩ := pl
        have hl0 : s.heap.IsList l us.toArray := ⟨ol, ho, hcl, kl, hd⟩
        have ht0 : s.heap.IsTuple t qs.toArray := pt
        have hls : l < s.heap.objs.size := Heap.lt_size ho
        have hts : t < s.heap.objs.size := by
          obtain ⟨o, e, _⟩ := ht0
          exact Heap.lt_size e
        refine zip_begins2 (begins_list l us.toArray) (begins_tuple t qs.toArray) hl0 ht0 fun h' p1 p2 p3 p4 p5 p6 kp => ?_
        have zsep : ZipSep2 (s.heap.objs.size + 4) (s.heap.objs.size + 2) (s.heap.objs.size + 3) s.heap.objs.size (s.heap.objs.size + 1) [s.heap.objs.size, l] [s.heap.objs.size + 1, t] := by
          have n1 : ∀ i : Nat, l ≠ s.heap.objs.size + i := fun i => Nat.ne_of_lt (Nat.lt_of_lt_of_le hls (Nat.le_add_right _ _))
          have n2 : ∀ i : Nat, t ≠ s.heap.objs.size + i := fun i => Nat.ne_of_lt (Nat.lt_of_lt_of_le hts (Nat.le_add_right _ _))
          have nz : ∀ (z : Nat) (i j : Nat), i ≠ j → z + i ≠ z + j := fun z i j h => by omega
          have nz0 : ∀ (z : Nat) (i : Nat), i ≠ 0 → z + i ≠ z := fun z i h => by omega
          have in0 : ∀ i : Nat, i ≠ 0 → s.heap.objs.size + i ∉ [s.heap.objs.size, l] := fun i h c => by
            rcases List.mem_cons.mp c with c | c
            · exact nz0 _ i h c
            · exact n1 i (List.mem_singleton.mp c).symm
          have in1 : ∀ i : Nat, i ≠ 1 → s.heap.objs.size + i ∉ [s.heap.objs.size + 1, t] := fun i h c => by
            rcases List.mem_cons.mp c with c | c
            · exact nz _ i 1 h c
            · exact n2 i (List.mem_singleton.mp c).symm
          exact ⟨nz _ 2 4 (by decide), nz _ 3 4 (by decide), nz _ 2 3 (by decide), nz0 _ 2 (by decide), List.mem_cons_self, in0 4 (by decide), in0 3 (by decide), nz _ 2 1 (by decide), List.mem_cons_self, in1 4 (by decide), in1 3 (by decide), in1 0 (by decide), in0 1 (by decide)⟩
        have zok : ZOk (s.heap.objs.size + 4) (s.heap.objs.size + 2) (s.heap.objs.size + 3) s.heap.objs.size (s.heap.objs.size + 1) l t us.toArray qs.toArray h' :=
          ⟨p1, p2, ⟨_, _, p3⟩, ⟨⟨_, p4, rfl, rfl⟩, hl0.at fun o e => kp _ o e⟩, ⟨_, p5, rfl, rfl⟩, ht0.at fun o e => kp _ o e⟩
        have la : l ≠ s.heap.objs.size := Nat.ne_of_lt hls
        have tb : t ≠ s.heap.objs.size + 1 := Nat.ne_of_lt (Nat.lt_succ_of_lt hts)
        have fresh' : ∀ b o, s.heap.get? b = some o → b ∉ [s.heap.objs.size + 4, s.heap.objs.size + 3, s.heap.objs.size, s.heap.objs.size + 1] := fun b o e c => by
          have h := Heap.lt_size e
          simp only [List.mem_cons, List.not_mem_nil, or_false] at c
          have no : ∀ n c : Nat, c < n → (c = n + 4 ∨ c = n + 3 ∨ c = n ∨ c = n + 1) → False := fun n c h z => by omega
          exact no _ _ h c
        have hsz : s.heap.objs.size ≤ h'.objs.size := by rw [p6]; exact Nat.le_add_right _ _
        have ndz : ∀ b o, s.heap.get? b = some o → b ≠ h'.objs.size := fun b o e => Nat.ne_of_lt (Heap.lt_size (kp b o e))
        cases k with
        | true =>
          rw [if_pos rfl] at q
          split at q
          · rename_i kvs e2
            obtain ⟨kv, prs, z1, z2, z3, z4, z5⟩ := zipI_rep e2 g3 h4 v1 v2
            obtain ⟨j1, j2⟩ := merge_rep (kv0 := []) (ds0 := []) z4 z5 rfl .nil
            have hn : prs.length ≤ sizeLine := by rw [z2]; exact Nat.le_trans (Nat.min_le_left ..) (by rw [← v1.length]; exact hz)
            refine PySem.call_dict_pairs (knd := mixKind X.prog X.w) (kvs := prs) (pa_zip zsep la tb us.toArray qs.toArray) (I.ok.hd hc) zok ⟨by simpa using z2, fun i key v hi => z3 i key v (by simpa using hi.1) (by simpa using hi.2)⟩ (by simpa [← z2] using hn) fun h2 tk hm hk => ?_
            have hp : H h'.objs.size = none := I.hok.fresh hsz
            have hm2 : (h'.objs.size == sysModules) = false := beq_eq_false_iff_ne.mpr (Nat.ne_of_gt (Nat.lt_of_lt_of_le I.big hsz))
            have hlen : (mergeK [] kv).length ≤ sizeLine := by
              refine Nat.le_trans (length_mergeK kv []) ?_
              rw [List.length_nil, Nat.zero_add, z1.length]
              exact hn
            exact ⟨.ref h'.objs.size, upd H h'.objs.size (.dK (mergeK [] kv)), I.laid (t' := tk) (fun b o e => hk b o (fresh' b o e) (kp b o e)) hsz (show ObjOk X.prog X.w _ _ _ (.dK (mergeK [] kv)) from ⟨hlen, hm2, merged [] prs, KV.merge z1 .nil, hm⟩), rfl, Vg.alc q hr hp fun kp => .mp j1 (j2.mono hr kp)⟩
          · exact False.elim q
        | false =>
          rw [if_neg (by decide)] at q
          split at q
          · rename_i kvs e2
            by_cases hnd : (kvs.map fun p => kd p.1).Nodup
            · rw [if_pos hnd] at q
              obtain ⟨dl, ps, z1, z2, z3, z4, z5⟩ := zipT_rep e2 g3 h4 v1 v2
              have hn : ps.length ≤ sizeLine := by rw [z2]; exact Nat.le_trans (Nat.min_le_left ..) (by rw [← v1.length]; exact hz)
              have his := px_is I z4 z1
              refine call_dict_pairsH (knd := nestedKind X.prog X.w) (ps := ps) (pa_zip zsep la tb us.toArray qs.toArray) (I.ok.hd hc) (show X.A.units + 1 + 1 + 8 < cLine by omega) zok ⟨by simpa using z2, fun i key v hi => z3 i key v (by simpa using hi.1) (by simpa using hi.2)⟩
                (fun h2 hk x hx => (nestedKind_stays (prog := X.prog) (w := X.w)).stays (fun b ob ww mm e1 _ => hk b ob (ndz b ob e1) (fresh' b ob e1) (kp b ob e1)) (his x hx)) (by simpa [← z2] using hn) fun h2 tk hm hk => ?_
              have ndl : (dl.map (·.1)).Nodup := by
                rw [← z5] at hnd
                have : (dl.map fun p => some p.1) = (dl.map (·.1)).map some := by rw [List.map_map]; rfl
                rw [this] at hnd
                exact nodup_some hnd
              have ndx : (ps.map (·.1)).Nodup := by rw [px_keys z1]; exact ndl
              rw [stored_new (acc := []) (by simpa using ndx)] at hm
              obtain ⟨od, es, ep, w1, w2, w3, w4, w5, w6⟩ := hm
              have hp : H h'.objs.size = none := I.hok.fresh hsz
              have hm2 : (h'.objs.size == sysModules) = false := beq_eq_false_iff_ne.mpr (Nat.ne_of_gt (Nat.lt_of_lt_of_le I.big hsz))
              have at' : DctAt X.prog X.w h'.objs.size dl h2 := ⟨hm2, od, es, ep, ps, w1, w2, w3, by simpa using w4, z1⟩
              have J := I.laid (t' := tk) (o := .ext (DctAt X.prog X.w h'.objs.size dl)) (fun b ob e => hk b ob (fresh' b ob e) (kp b ob e)) hsz ⟨at', ⟨_, w1⟩, fun h1 h2 p k => by
                obtain ⟨z1, o', es', ep', xs', z2, z3⟩ := p
                exact ⟨z1, o', es', ep', xs', k _ z2, z3⟩⟩
              have ln : kvs.length ≤ sizeLine := by rw [← z4.length, ← px_len z1]; exact hn
              exact ⟨.ref h'.objs.size, _, J, rfl, Vg.alc q hr hp fun kp => .dct ln ndl (z4.mono hr kp)⟩
            · rw [if_neg hnd] at q
              exact False.elim q
          · exact False.elim q
      · exact False.elim q
    | _ => exact False.elim q
  | _ => exact False.elim q
theorem e_dzip {a b : Expr} {fa fb : Env → M D} {p q pz pos : Pos} {k : Bool} (hc : X.calm = true) (hu : X.A.units + 200 < cLine) (hg : Gl X "dict") (hm : X.mg "dict" = none) (hg2 : Gl X "zip") (hm2 : X.mg "zip" = none) (ha : PE X a (tE X W fa)) (hb : PE X b (tE X W fb)) (h1 : plainE a = true) (h2 : plainE b = true) :
    PE X (.Call (.Name "dict" p) [.Call (.Name "zip" q) [a, b] [] pz] [] pos) (tE X W fun ρ => bd (fa ρ) fun x => bd (fb ρ) fun y => dZip k x y) := by
  have hv : bootBuiltins "dict" = some (.type "dict") := by decide +kernel
  have hv2 : bootBuiltins "zip" = some (.type "zip") := by decide +kernel
  have hs : starEach [.Call (.Name "zip" q) [a, b] [] pz] X.env = (false, eval (.Call (.Name "zip" q) [a, b] [] pz) X.env) :: starEach [] X.env := by rfl
  have hs2 : starEach [a, b] X.env = (false, eval a X.env) :: starEach [b] X.env := starEach_c h1
  have hs3 : starEach [b] X.env = (false, eval b X.env) :: starEach [] X.env := starEach_c h2
  refine ⟨fun pins s σ H Q I ⟨as, m, ρ, sl, hr, v⟩ => ?_⟩
  refine wpAny_Call_Name_kw (ld_blt I hg hm hv ?_)
  refine PyProof.Rows.callWith_type1 ?_ hs rfl
  rw [hs]
  show wpAny _ _ (spliced ((false, eval (.Call (.Name "zip" q) [a, b] [] pz) X.env) :: backTo pos (starEach [] X.env))) _ _ s
  refine Calls.spliced_cons ?_
  refine wpAny_Call_Name_kw (ld_blt I hg2 hm2 hv2 ?_)
  have run := (pa_cons ha (pa_cons hb pa_nil hs3) hs2).run pz pins s σ H (fun xs H1 => ∃ x y as1 m1 dx dy, xs = [x, y] ∧ HRep X.prog X.w X.K as1 m1 H1 ∧ Rep X.K H1 as1 x dx ∧ Rep X.K H1 as1 y dy ∧ Vg X.prog X.w X.K X.mg (RD X.K) as1 H1 (dZip k dx dy m1) Q fun c d H' => W c d σ H') I
    (tE_mono (tE_bd sl hr v) fun x H1 ⟨as1, m1, dx, sl1, hr1, k1, rx, v1⟩ => tE_mono (tE_bd sl1 hr1 v1) fun y H2 ⟨as2, m2, dy, sl2, hr2, k2, ry, v2⟩ => ⟨x, y, as2, m2, dx, dy, rfl, hr2, rx.mono hr1 k2, ry, v2⟩)
  refine PyProof.Rows.callWith_type1 (thn run fun us s1 ⟨xs, H1, I1, r1, x, y, as1, m1, dx, dy, ex, hr1, rx, ry, v1⟩ => ?_) hs2 (by rw [hs3]; rfl)
  subst ex
  obtain ⟨u, v', rfl, ru, rv⟩ := vals2 r1
  refine wpAny_mono (dzip_call hc hu I1 hr1 rx ry ru rv v1) (fun zv s2 h => Calls.spliced_nil h) fun e s2 h => h
end
end Af
namespace Af
open PySem PySem.Spec PyProof.Rows L2
structure XFa (K : PySem.W.Frag) (mg : Str → Option Value) (xn : List Str) : Prop where
  at_ : ∀ c ∈ xn, ∃ C, mg c = some (.ref C) ∧ PySem.W.keepIn K (.ref C) = true
  ve : xn ≠ [] → mg "ValueError" = none
  mks : ∀ c ∈ xn, c ∈ xAll → ∀ C, mg c = some (.ref C) → PySem.W.excIn K C He.veBase "ValueError.__new__" = true ∧ PySem.W.subIn K (.ref C) (.type "BaseException") = some true ∧ PySem.W.typeIn K (.ref C) = some (.type "type") ∧ ExcC K C
  exm : ∀ c ∈ xn, c ∈ xAll → ∀ n ∈ xn, ∀ C N, mg c = some (.ref C) → mg n = some (.ref N) → PySem.W.exmOne K (.ref C) (.ref N) = some (subX c n)
  kit : ∀ c ∈ xn, c ∈ xAll → ∀ n ∈ xn, ∀ C N, mg c = some (.ref C) → mg n = some (.ref N) → PySem.W.kitOne K (.ref C) (.ref N) = some (subX c n)
  kve : ∀ c ∈ xn, c ∈ xAll → ∀ C, mg c = some (.ref C) → PySem.W.kitOne K (.ref C) (.type "ValueError") = some true
section
variable {X : Cx} {W : WX} {xn : List Str}
theorem s_raise {x m : Str} {j : Nat} {p p2 q pos : Pos} (hc : X.calm = true) (tk : Takes X W) (F : XFa X.K X.mg xn) (hx : x ∈ xn) (ha : x ∈ xAll) (hg : Gl X x) (hd : (x == ("__debug__" : Str)) = false) :
    PS X (.Raise (some (.Call (.Name x p) [.Constant (.str m) j p2] [] q)) none pos) (tS X W fun ρ m => .ok (.xc ρ x []) m) := by
  obtain ⟨C, gC, kC⟩ := F.at_ x hx
  obtain ⟨q1, q2, q3, _⟩ := F.mks x hx ha C gC
  refine PSimp (ps_raise hc tk (pmk_own PySem.F.excBase_ValueError q1 gC kC (raises_own q2 q3) hg hd)) fun Dn σ H ⟨as, m, ρ, sl, hr, v⟩ => ?_
  exact v C none σ as H gC Kp.refl hr sl (.inl ⟨rfl, rfl⟩)
theorem suite_of {i : Nat} {f : Nat → Res Fl} (h : suiteM i f ≠ .bad) (a : Nat) : unX i (f a) = suiteM i f := by
  unfold suiteM at h ⊢
  split
  · rename_i q
    exact Classical.choose_spec q a
  · rename_i q
    rw [dif_neg q] at h
    exact absurd rfl h
theorem s_try {x n : Str} {i : Nat} {body suite : List Stmt} {b₀ : Stmt} {np pos pos' : Pos} {fb : Env → M Fl} {fh : Str → Nat → Env → M Fl} (hs : X.stack = X.env :: X.outer) (hf : X.env.frame = some X.env.locals) (hN : X.N.Nodup) (hi : X.N[i]? = some n) (hln : X.env.kindOf n = some .local)
    (hg : Gl X x) (hd : (x == ("__debug__" : Str)) = false) (F : XFa X.K X.mg xn) (hx : x ∈ xn) (hall : ∀ c ∈ xAll, c ∈ xn) (tk : Takes X W)
    (hb : ∀ (W' : WX) (pn : List (Addr × Obj)) (xe : Value → Shared → Prop), Takes (X.tr pn xe) W' → PassesOwn (model X.prog X.w) X.A X.env xe → PSs (X.tr pn xe) body (tS (X.tr pn xe) W' fb))
    (hsu : ∀ (a : Addr) (oe : Obj) (C : Addr) (c : Str) (pn : List (Addr × Obj)), Zc (.ref C) none oe → (∃ vs, oe.data = .fields vs) → c ∈ xAll → X.mg c = some (.ref C) → PSs (X.suite a ((a, oe) :: pn)) (b₀ :: suite) (tS (X.suite a ((a, oe) :: pn)) noW (fh c a))) :
    PS X (.Try body [.ExceptHandler (some (.Name x np)) (some n) (b₀ :: suite) pos'] [] [] pos) (tS X W fun ρ m => match fb ρ m with
      | .ok (.xc ρ' c []) m' => if c ∈ xAll then (if subX c x then suiteM i (fun a => fh c a (ρ'.set i (some (.exo a))) m') else .ok (.xc ρ' c []) m') else .bad
      | .ok (.xc _ _ _) _ => .bad
      | r => r) := by
  obtain ⟨N, gN, kN⟩ := F.at_ x hx
  refine PSimp (ps_try_as (i := i) (tb := fun W' => tS X W' fb) (ts := fun a cls d D σ H => ∃ C c, cls = .ref C ∧ d = none ∧ c ∈ xAll ∧ X.mg c = some (.ref C) ∧ tS X noW (fh c a) D σ H) (c := .ref N) (Wout := W) hs hf hN hi hln ⟨hg, hd, .inl gN⟩ tk hb (fun a oe cls d pn hz hv => ?_)) fun Dn σ H ⟨as, m, ρ, sl, hr, v⟩ => ?_
  · refine ⟨fun pins s σ H D I ⟨C, c, e1, e2, hc, hm, h⟩ => ?_⟩
    subst e1 e2
    exact (hsu a oe C c pn hz hv hc hm).run pins s σ H D I h
  · refine ⟨as, m, ρ, sl, hr, ?_⟩
    dsimp only at v
    show Vs X as H (fb ρ m) Dn _
    cases e : fb ρ m with
    | bad => rw [e] at v; exact v.elim
    | exc c fs m' => rw [e] at v; exact v.elim
    | ok fl m' =>
      rw [e] at v
      cases fl with
      | nx ρ' => exact v
      | rt d => exact v
      | bk ρ' => exact v
      | ct ρ' => exact v
      | xc ρ' c fs =>
        cases fs with
        | cons f fs => exact v.elim
        | nil =>
          by_cases hc : c ∈ xAll
          · dsimp only at v
            rw [if_pos hc] at v
            intro C d σ' as' H' gC k hr' sl' xr
            have ed : d = none := by
              rcases xr with ⟨_, e⟩ | ⟨z, _⟩
              · exact e
              · exact absurd rfl z
            subst ed
            refine ⟨subX c x, F.exm c (hall c hc) hc x hx C N gC gN, fun hb a ha => ⟨C, c, rfl, rfl, hc, gC, as', m', _, sl'.set (.exo a) i, hr', ?_⟩, fun hb => ?_⟩
            · rw [if_pos hb] at v
              have v : Vs X as' H' (suiteM i fun a => fh c a (ρ'.set i (some (.exo a))) m') Dn W := v.kp k
              have nb : suiteM i (fun a => fh c a (ρ'.set i (some (.exo a))) m') ≠ .bad := fun z => by rw [z] at v; exact v
              rw [← suite_of nb a] at v
              cases e2 : fh c a (ρ'.set i (some (.exo a))) m' with
              | bad => rw [e2] at v; exact v.elim
              | exc c2 fs2 m2 => rw [e2] at v; exact v.elim
              | ok fl2 m2 =>
                rw [e2] at v
                cases fl2 with
                | nx ρ2 => exact fun σ2 as2 H2 k2 hr2 s2 => v _ as2 H2 k2 hr2 (s2.unset i)
                | rt d2 => exact v
                | bk ρ2 => exact fun σ2 as2 H2 k2 hr2 s2 => v _ as2 H2 k2 hr2 (s2.unset i)
                | ct ρ2 => exact fun σ2 as2 H2 k2 hr2 s2 => v _ as2 H2 k2 hr2 (s2.unset i)
                | xc ρ2 c2 fs2 => exact v.elim
            · rw [if_neg (by rw [hb]; exact Bool.false_ne_true)] at v
              exact v C none σ' as' H' gC k hr' sl' xr
          · dsimp only at v
            rw [if_neg hc] at v
            exact v.elim
def tsN (X : Cx) (fh : Str → Nat → Env → M Fl) (a : Addr) (cls : Value) (d : Option Addr) : TS := fun D σ H => ∃ C c, cls = .ref C ∧ d = none ∧ c ∈ xAll ∧ X.mg c = some (.ref C) ∧ tS X noW (fh c a) D σ H
theorem suiteN_of {f : Nat → Res Fl} (h : suiteN f ≠ .bad) (a : Nat) : unN (f a) = suiteN f := by
  unfold suiteN at h ⊢
  split
  · rename_i q
    exact Classical.choose_spec q a
  · rename_i q
    rw [dif_neg q] at h
    exact absurd rfl h
theorem suiteN_V {as : List Addr} {H : Hp} {f : Nat → Res Fl} {Dn : Ends} {σ : L2.St} (v : Vs X as H (suiteN f) Dn W) (a : Nat) : Vs X as H (f a) Dn noW := by
  have nb : suiteN f ≠ .bad := fun z => by rw [z] at v; exact v
  rw [← suiteN_of nb a] at v
  cases e2 : f a with
  | bad => rw [e2] at v; exact v.elim
  | exc c2 fs2 m2 => rw [e2] at v; exact v.elim
  | ok fl2 m2 =>
    rw [e2] at v
    cases fl2 with
    | nx ρ2 => exact v
    | rt d2 => exact v
    | bk ρ2 => exact v
    | ct ρ2 => exact v
    | xc ρ2 c2 fs2 => exact v.elim
theorem hds_cons {x : Str} {b₀ : Stmt} {suite : List Stmt} {np pos' : Pos} {hds : List ExceptHandler} {l : List (Value × (Addr → Value → Option Addr → TS))} {fh : Str → Nat → Env → M Fl} {N : Addr} (gN : X.mg x = some (.ref N)) (hg : Gl X x) (hd : (x == ("__debug__" : Str)) = false)
    (hsu : ∀ (a : Addr) (oe : Obj) (C : Addr) (c : Str) (pn : List (Addr × Obj)), Zc (.ref C) none oe → (∃ vs, oe.data = .fields vs) → c ∈ xAll → X.mg c = some (.ref C) → PSs (X.suite a ((a, oe) :: pn)) (b₀ :: suite) (tS (X.suite a ((a, oe) :: pn)) noW (fh c a))) (r : HdsOk X hds l) :
    HdsOk X (.ExceptHandler (some (.Name x np)) none (b₀ :: suite) pos' :: hds) ((.ref N, tsN X fh) :: l) := by
  refine .cons ⟨hg, hd, .inl gN⟩ (fun a oe cls d pn hz hv => ?_) r
  refine ⟨fun pins s σ H D I ⟨C, c, e1, e2, hc, hm, h⟩ => ?_⟩
  subst e1 e2
  exact (hsu a oe C c pn hz hv hc hm).run pins s σ H D I h
theorem s_try1 {x : Str} {body suite : List Stmt} {b₀ : Stmt} {np pos pos' : Pos} {fb : Env → M Fl} {fh : Str → Nat → Env → M Fl} (hs : X.stack = X.env :: X.outer) (hf : X.env.frame = some X.env.locals)
    (hg : Gl X x) (hd : (x == ("__debug__" : Str)) = false) (F : XFa X.K X.mg xn) (hx : x ∈ xn) (hall : ∀ c ∈ xAll, c ∈ xn) (tk : Takes X W)
    (hb : ∀ (W' : WX) (pn : List (Addr × Obj)) (xe : Value → Shared → Prop), Takes (X.tr pn xe) W' → PassesOwn (model X.prog X.w) X.A X.env xe → PSs (X.tr pn xe) body (tS (X.tr pn xe) W' fb))
    (hsu : ∀ (a : Addr) (oe : Obj) (C : Addr) (c : Str) (pn : List (Addr × Obj)), Zc (.ref C) none oe → (∃ vs, oe.data = .fields vs) → c ∈ xAll → X.mg c = some (.ref C) → PSs (X.suite a ((a, oe) :: pn)) (b₀ :: suite) (tS (X.suite a ((a, oe) :: pn)) noW (fh c a))) :
    PS X (.Try body [.ExceptHandler (some (.Name x np)) none (b₀ :: suite) pos'] [] [] pos) (tS X W fun ρ m => match fb ρ m with
      | .ok (.xc ρ' c []) m' => if c ∈ xAll then (if subX c x then suiteN (fun a => fh c a ρ' m') else .ok (.xc ρ' c []) m') else .bad
      | .ok (.xc _ _ _) _ => .bad
      | r => r) := by
  obtain ⟨N, gN, kN⟩ := F.at_ x hx
  refine PSimp (ps_try_many (tb := fun W' => tS X W' fb) (Wout := W) hs hf tk hb (hds_cons gN hg hd hsu .nil)) fun Dn σ H ⟨as, m, ρ, sl, hr, v⟩ => ?_
  refine ⟨as, m, ρ, sl, hr, ?_⟩
  dsimp only at v
  show Vs X as H (fb ρ m) Dn _
  cases e : fb ρ m with
  | bad => rw [e] at v; exact v.elim
  | exc c fs m' => rw [e] at v; exact v.elim
  | ok fl m' =>
    rw [e] at v
    cases fl with
    | nx ρ' => exact v
    | rt d => exact v
    | bk ρ' => exact v
    | ct ρ' => exact v
    | xc ρ' c fs =>
      cases fs with
      | cons f fs => exact v.elim
      | nil =>
        by_cases hc : c ∈ xAll
        · dsimp only at v
          rw [if_pos hc] at v
          intro C d σ' as' H' gC k hr' sl' xr
          have ed : d = none := by
            rcases xr with ⟨_, e⟩ | ⟨z, _⟩
            · exact e
            · exact absurd rfl z
          subst ed
          refine ⟨subX c x, F.exm c (hall c hc) hc x hx C N gC gN, fun hb a ha => ⟨C, c, rfl, rfl, hc, gC, as', m', _, sl', hr', ?_⟩, fun hb => ?_⟩
          · rw [if_pos hb] at v
            exact suiteN_V (σ := σ) (v.kp k) a
          · rw [if_neg (by rw [hb]; exact Bool.false_ne_true)] at v
            exact v C none σ' as' H' gC k hr' sl' xr
        · dsimp only at v
          rw [if_neg hc] at v
          exact v.elim
theorem s_try2 {x y : Str} {body suite suite2 : List Stmt} {b₀ b₁ : Stmt} {np pos pos' np2 pos2 : Pos} {fb : Env → M Fl} {fh fk : Str → Nat → Env → M Fl} (hs : X.stack = X.env :: X.outer) (hf : X.env.frame = some X.env.locals)
    (hg : Gl X x) (hd : (x == ("__debug__" : Str)) = false) (hg2 : Gl X y) (hd2 : (y == ("__debug__" : Str)) = false) (F : XFa X.K X.mg xn) (hx : x ∈ xn) (hy : y ∈ xn) (hall : ∀ c ∈ xAll, c ∈ xn) (tk : Takes X W)
    (hb : ∀ (W' : WX) (pn : List (Addr × Obj)) (xe : Value → Shared → Prop), Takes (X.tr pn xe) W' → PassesOwn (model X.prog X.w) X.A X.env xe → PSs (X.tr pn xe) body (tS (X.tr pn xe) W' fb))
    (hsu : ∀ (a : Addr) (oe : Obj) (C : Addr) (c : Str) (pn : List (Addr × Obj)), Zc (.ref C) none oe → (∃ vs, oe.data = .fields vs) → c ∈ xAll → X.mg c = some (.ref C) → PSs (X.suite a ((a, oe) :: pn)) (b₀ :: suite) (tS (X.suite a ((a, oe) :: pn)) noW (fh c a)))
    (hsu2 : ∀ (a : Addr) (oe : Obj) (C : Addr) (c : Str) (pn : List (Addr × Obj)), Zc (.ref C) none oe → (∃ vs, oe.data = .fields vs) → c ∈ xAll → X.mg c = some (.ref C) → PSs (X.suite a ((a, oe) :: pn)) (b₁ :: suite2) (tS (X.suite a ((a, oe) :: pn)) noW (fk c a))) :
    PS X (.Try body [.ExceptHandler (some (.Name x np)) none (b₀ :: suite) pos', .ExceptHandler (some (.Name y np2)) none (b₁ :: suite2) pos2] [] [] pos) (tS X W fun ρ m => match fb ρ m with
      | .ok (.xc ρ' c []) m' => if c ∈ xAll then (if subX c x then suiteN (fun a => fh c a ρ' m') else if subX c y then suiteN (fun a => fk c a ρ' m') else .ok (.xc ρ' c []) m') else .bad
      | .ok (.xc _ _ _) _ => .bad
      | r => r) := by
  obtain ⟨N, gN, kN⟩ := F.at_ x hx
  obtain ⟨N2, gN2, kN2⟩ := F.at_ y hy
  refine PSimp (ps_try_many (tb := fun W' => tS X W' fb) (Wout := W) hs hf tk hb (hds_cons gN hg hd hsu (hds_cons gN2 hg2 hd2 hsu2 .nil))) fun Dn σ H ⟨as, m, ρ, sl, hr, v⟩ => ?_
  refine ⟨as, m, ρ, sl, hr, ?_⟩
  dsimp only at v
  show Vs X as H (fb ρ m) Dn _
  cases e : fb ρ m with
  | bad => rw [e] at v; exact v.elim
  | exc c fs m' => rw [e] at v; exact v.elim
  | ok fl m' =>
    rw [e] at v
    cases fl with
    | nx ρ' => exact v
    | rt d => exact v
    | bk ρ' => exact v
    | ct ρ' => exact v
    | xc ρ' c fs =>
      cases fs with
      | cons f fs => exact v.elim
      | nil =>
        by_cases hc : c ∈ xAll
        · dsimp only at v
          rw [if_pos hc] at v
          intro C d σ' as' H' gC k hr' sl' xr
          have ed : d = none := by
            rcases xr with ⟨_, e⟩ | ⟨z, _⟩
            · exact e
            · exact absurd rfl z
          subst ed
          refine ⟨subX c x, F.exm c (hall c hc) hc x hx C N gC gN, fun hb a ha => ⟨C, c, rfl, rfl, hc, gC, as', m', _, sl', hr', ?_⟩, fun hb => ?_⟩
          · rw [if_pos hb] at v
            exact suiteN_V (σ := σ) (v.kp k) a
          · rw [if_neg (by rw [hb]; exact Bool.false_ne_true)] at v
            refine ⟨subX c y, F.exm c (hall c hc) hc y hy C N2 gC gN2, fun hb a ha => ⟨C, c, rfl, rfl, hc, gC, as', m', _, sl', hr', ?_⟩, fun hb => ?_⟩
            · rw [if_pos hb] at v
              exact suiteN_V (σ := σ) (v.kp k) a
            · rw [if_neg (by rw [hb]; exact Bool.false_ne_true)] at v
              exact v C none σ' as' H' gC k hr' sl' xr
        · dsimp only at v
          rw [if_neg hc] at v
          exact v.elim
theorem cls_ok {cn n : Str} {C : Addr} {p : Pos} (F : XFa X.K X.mg xn) (hc : cn ∈ xn) (ha : cn ∈ xAll) (gC : X.mg cn = some (.ref C)) (hn : n ∈ xn ∨ n = "ValueError") (hg : Gl X n) (hd : (n == ("__debug__" : Str)) = false) :
    ∃ (c : V) (u : Value), PE X (.Name n p) (tC c) ∧ ClsV c u ∧ PySem.W.kitOne X.K (.ref C) u = some (subX cn n) := by
  by_cases h : n ∈ xn
  · obtain ⟨N, gN, _⟩ := F.at_ n h
    exact ⟨.ref N, .ref N, pe_glob hg gN rfl hd, .own N, F.kit cn hc ha n h C N gC gN⟩
  · obtain rfl : n = "ValueError" := hn.resolve_left h
    have e : subX cn "ValueError" = true := by unfold subX; simp
    rw [e]
    exact ⟨.ty "ValueError", .type "ValueError", pe_bltn hg (F.ve (fun z => by rw [z] at hc; simp at hc)) (by decide +kernel) rfl (by decide) (by decide), .ty _, F.kve cn hc ha C gC⟩
theorem clss_ok {cn : Str} {C : Addr} (F : XFa X.K X.mg xn) (hc : cn ∈ xn) (ha : cn ∈ xAll) (gC : X.mg cn = some (.ref C)) : ∀ {ns : List Str} {es : List Expr}, Paired (fun n e => ∃ p, e = Expr.Name n p ∧ (n ∈ xn ∨ n = "ValueError") ∧ Gl X n ∧ (n == ("__debug__" : Str)) = false) ns es →
    ∃ (cs : List V) (us : List Value), PA X es (fun σ H Q => Q cs H) ∧ Paired ClsV cs us ∧ PySem.W.kitAny X.K (.ref C) us = some (ns.any (subX cn)) ∧ cs.length = ns.length
  | _, _, .nil => ⟨[], [], PAimp pa_nil fun _ _ _ h => h, .nil, rfl, rfl⟩
  | _, _, .cons (a := n) (l₁ := ns) ⟨p, rfl, hn, hg, hd⟩ r => by
    obtain ⟨cs, us, h1, h2, h3, h4⟩ := clss_ok F hc ha gC r
    obtain ⟨c, u, k1, k2, k3⟩ := cls_ok (p := p) F hc ha gC hn hg hd
    refine ⟨c :: cs, u :: us, PAimp (pa_cons k1 h1) fun _ _ _ h => h, .cons k2 h2, ?_, by simp [h4]⟩
    rw [List.any_cons]
    exact kitAny_cons k3 (fun e => by rw [e]; exact h3) (fun e => by rw [e]; rfl)
def rIsET (K : PySem.W.Frag) (D a : Addr) : List V → Hp → VK → Prop := fun xs H Q => ∃ (tp : Addr) (cs : List V) (us : List Value) (b : Bool), xs = [.ref a, .ref tp] ∧ H tp = some (.tup cs) ∧ Paired ClsV cs us ∧ PySem.W.kitAny K (.ref D) us = some b ∧ Q (.bl b) H
theorem call_isET {Y : Cx} {a D : Addr} {oe : Obj} {pn : List (Addr × Obj)} (C : ExcC Y.K D) (hz : Zc (.ref D) none oe) (hf : ∃ vs, oe.data = .fields vs) : CallR (Y.suite a ((a, oe) :: pn)) (.builtin "isinstance") (rIsET Y.K D a) := by
  intro pins s σ H xs us Q I r h
  obtain ⟨tp, cs, ws, b, rfl, hT, k, e, q⟩ := h
  obtain ⟨u1, u2, rfl, r1, r2⟩ := vals2 r
  cases (show u1 = Value.ref a from r1)
  cases (show u2 = Value.ref tp from r2)
  obtain ⟨hget, _⟩ := I.pin (a, oe) (List.mem_append.mpr (.inl List.mem_cons_self))
  obtain ⟨vs, hv⟩ := hf
  have J : PySem.W.InstAt s.heap a oe D none := by
    obtain ⟨oc, od, oda, osl⟩ := oe
    obtain ⟨h1, h2⟩ := hz
    dsimp only at h1 h2 hv
    subst h1 h2 hv
    exact ⟨hget, rfl, rfl, trivial⟩
  obtain ⟨_, its, rv, o, h1, h2, n, h3⟩ := (show ObjOk Y.prog Y.w H s.heap tp (.tup cs) from I.hok tp _ hT)
  have e3 := ClsV.all k rv
  subst e3
  obtain ⟨oc, od, dt, sl⟩ := o
  simp only at h2 h3
  subst h2 h3
  exact PySem.W.kia_tup (PySem.W.handS_kitx_exc C.hg C.hk C.hs C.hd C.ha C.hn C.ht C.hm) I.kIn J h1 e (fun z => nomatch z) fun tk => ⟨.bl b, H, I.kept (t' := tk) fun _ _ z => z, rfl, q⟩
end
def HotX (X : Cx) (G : Gm) (xn : List Str) : Prop := ∃ (Y : Cx) (a : Addr) (oe : Obj) (pn : List (Addr × Obj)) (cn : Str) (C : Addr), X = Y.suite a ((a, oe) :: pn) ∧ Zc (.ref C) none oe ∧ (∃ vs, oe.data = .fields vs) ∧ X.mg cn = some (.ref C) ∧ cn ∈ xAll ∧ cn ∈ xn ∧ G "" [] = ret (.tup [.str cn, .exo a])
section
variable {X : Cx} {W : WX} {xn : List Str} {G : Gm} {i : Nat} {n : Str} {ns : List Str}
theorem isx_of {cn : Str} {a : Nat} {as : List Addr} {H : Hp} {m : Mu} {ρ : Env} {σ : L2.St} {Q : V → Hp → Prop} {E : XK} (sl : Sl X.K H as σ ρ) (hr : HRep X.prog X.w X.K as m H) (hG : G "" [] = ret (.tup [.str cn, .exo a]))
    (v : Vg X.prog X.w X.K X.mg (RD X.K) as H ((bd (varM i ρ) fun x => bd (G "" []) fun z => isxM ns x z) m) Q E) :
    σ[i]? = some (some (.ref a)) ∧ Vg X.prog X.w X.K X.mg (RD X.K) as H (ret (.bl (ns.any (subX cn))) m) Q E := by
  rw [hG] at v
  unfold varM at v
  split at v
  · rename_i d e
    have v : Vg X.prog X.w X.K X.mg (RD X.K) as H (isxM ns d (.tup [.str cn, .exo a]) m) Q E := v
    cases d with
    | exo b =>
      unfold isxM at v
      dsimp only at v
      by_cases c : b = a
      · subst c
        rw [if_pos rfl] at v
        obtain ⟨x, h1, h2⟩ := sl.2 i _ e
        cases h2
        exact ⟨h1, v⟩
      · rw [if_neg c] at v
        exact v.elim
    | _ => exact v.elim
  · exact v.elim
theorem e_isx1 {p p1 p2 pos : Pos} (h : HotX X G xn) (F : XFa X.K X.mg xn) (hi : X.N[i]? = some n) (hv : Vis X.env.scope n) (hd1 : (n == ("__debug__" : Str)) = false) (hd2 : (n == ("__classdict__" : Str)) = false) (hg : Gl X "isinstance") (hm : X.mg "isinstance" = none)
    {k : Str} (hn : k ∈ xn ∨ k = "ValueError") (hgk : Gl X k) (hdk : (k == ("__debug__" : Str)) = false) :
    PE X (.Call (.Name "isinstance" p) [.Name n p1, .Name k p2] [] pos) (tE X W fun ρ => bd (varM i ρ) fun x => bd (G "" []) fun z => isxM [k] x z) := by
  obtain ⟨Y, a, oe, pn, cn, C, rfl, hz, hf, gC, hc1, hc2, hG⟩ := h
  obtain ⟨_, _, _, EC⟩ := F.mks cn hc2 hc1 C gC
  obtain ⟨c, u, k1, k2, k3⟩ := cls_ok (p := p2) F hc2 hc1 gC hn hgk hdk
  refine PEimp (pe_callB (call_isE (X := Y) (pn := pn) EC hz hf) hg hm boot_isinstance (pa_cons (pe_var hi hv hd1 hd2) (pa_cons k1 pa_nil)) (by decide +kernel) (by decide +kernel)) fun σ H Q ⟨as, m, ρ, sl, hr, v⟩ => ?_
  obtain ⟨e1, v⟩ := isx_of (X := Y.suite a ((a, oe) :: pn)) sl hr hG v
  exact ⟨.ref a, e1, c, u, _, rfl, fun w r => k2.eq r, k3, by simpa using Vg.ret v hr (Rep.bl _)⟩
theorem e_isxT {es : List Expr} {kk : Nat} {p p1 p2 pos : Pos} (h : HotX X G xn) (F : XFa X.K X.mg xn) (hi : X.N[i]? = some n) (hv : Vis X.env.scope n) (hd1 : (n == ("__debug__" : Str)) = false) (hd2 : (n == ("__classdict__" : Str)) = false) (hg : Gl X "isinstance") (hm : X.mg "isinstance" = none)
    (hl : ns.length ≤ sizeLine) (hns : Paired (fun n e => ∃ p, e = Expr.Name n p ∧ (n ∈ xn ∨ n = "ValueError") ∧ Gl X n ∧ (n == ("__debug__" : Str)) = false) ns es) :
    PE X (.Call (.Name "isinstance" p) [.Name n p1, .Tuple es kk p2] [] pos) (tE X W fun ρ => bd (varM i ρ) fun x => bd (G "" []) fun z => isxM ns x z) := by
  obtain ⟨Y, a, oe, pn, cn, C, rfl, hz, hf, gC, hc1, hc2, hG⟩ := h
  obtain ⟨_, _, _, EC⟩ := F.mks cn hc2 hc1 C gC
  obtain ⟨cs, us, k1, k2, k3, k4⟩ := clss_ok F hc2 hc1 gC hns
  refine PEimp (pe_callB (call_isET (Y := Y) (pn := pn) EC hz hf) hg hm boot_isinstance (pa_cons (pe_var hi hv hd1 hd2) (pa_cons (pe_tup k1) pa_nil)) (by decide +kernel) (by decide +kernel)) fun σ H Q ⟨as, m, ρ, sl, hr, v⟩ => ?_
  obtain ⟨e1, v⟩ := isx_of (X := Y.suite a ((a, oe) :: pn)) sl hr hG v
  refine ⟨.ref a, e1, by rw [k4]; exact hl, fun q hq => ?_⟩
  obtain ⟨kp, hr'⟩ := hr.tup (xs := cs) hq
  exact ⟨q, cs, us, _, rfl, upd_same, k2, k3, v _ _ _ kp hr' (Rep.bl _)⟩
end
end Af
namespace Af
open PySem PySem.Spec PyProof.Rows L2
theorem meth_eq {M : Model} {A : Around} {E : Value → Shared → Prop} {s : Shared} {env : PySem.Env} {o : Expr} {nm : Str} {apos pos : Pos} {args : List Expr} {Q : Value → Shared → Prop} (hb : attributeBase o nm env (eval o env) = eval o env)
    (hf : methodCallForm (args.length + ([] : List Keyword).length) (backTo pos (starEach args env)) (backToKw pos (keywordEach [] env)) = true) (hline : (apos.endLine == pos.line) = true)
    (h : wpAny M A (eval o env) (fun ov s₁ => wpAny M A (getMethod ov nm (do return (← importBound o env).getD true)) (fun fx s₂ => wpAny M A (callWith pos fx.1 fx.2 (backTo pos (starEach args env)) (backToKw pos (keywordEach [] env))) Q E s₂) E s₁) E s) :
    wpAny M A (eval (.Call (.Attribute o nm apos) args [] pos) env) Q E s := by
  rw [arm_eval_Call, hb]
  refine wpAny_bind (wpAny_mono h (fun ov s₁ h₁ => wpAny_bind (wpAny_standAt ?_)) fun _ _ x => x)
  have hpos : methodCallPos true o env apos pos = pure pos := by unfold methodCallPos; simp [hline]
  unfold methodCall
  rw [hf]
  refine wpAny_bind (wpAny_holding (show wpAny M A (calleeOf true o env ov nm) _ _ _ from ?_))
  refine (show wpAny M A (getMethod ov nm (do return (← importBound o env).getD true)) _ _ _ from wpAny_mono h₁ (fun fx s₂ h₂ => ?_) fun _ _ x => x)
  rw [hpos]
  exact wpAny_bind (wpAny_pure h₂)
section
variable {X : Cx} {W : WX} {a o e value : Expr} {es : List Expr} {fa fo fv : Env → M D} {fs : Env → M (List D)} {pos apos p : Pos} {c f x : Str} {k : Nat} {g : Addr} {fd : FuncData} {ps : List Str}
theorem e_fld (hcl : Cls X.K (He.ga X.K c)) (hn : NoAttr X.K (He.ga X.K c) f) (ha : PE X a (tE X W fa)) (hb : attributeBase a f X.env (eval a X.env) = eval a X.env) : PE X (.Attribute a f pos) (tE X W fun ρ => bd (fa ρ) (fldM c f)) := by
  refine PEimp (pe_fld ha hb) fun σ H Q ⟨as, m, ρ, sl, hr, v⟩ => ?_
  refine tE_mono (tE_bd sl hr v) fun y H1 ⟨as1, m1, dx, sl1, hr1, k1, rx, v1⟩ => ?_
  cases rx with
  | @ref b n h1 =>
    have v2 : Vg X.prog X.w X.K X.mg (RD X.K) as1 H1 (match m1[n]? with
      | some (.ins c' fs) => if c' = c then opt (fs.lookup f) m1 else .bad
      | _ => .bad) Q (fun c d H' => W c d σ H') := v1
    split at v2
    · rename_i c' fs e1
      split at v2
      · rename_i ec
        subst ec
        obtain ⟨dd, hfs, g1, g2, g3, g4, g5⟩ := hr1.insk h1 e1
        obtain ⟨y, e2, v3⟩ := Vg.opt v2
        obtain ⟨v', e3, r3⟩ := fldI_rep (c := c') g4 g5 e2
        exact ⟨b, _, dd, hfs, v', rfl, g1, hcl, hn, e3, v3 _ _ _ Kp.refl hr1 r3⟩
      · exact False.elim v2
    · exact False.elim v2
  | _ => exact False.elim v1
theorem isIns_inv {α β : Type} {R : List Addr → Hp → β → α → Prop} {as : List Addr} {H : Hp} {m : Mu} {x : V} {dx : D} {fk : Unit → M α} {Q : β → Hp → Prop} {E : XK} (hr : HRep X.prog X.w X.K as m H) (rx : Rep X.K H as x dx) (v : Vg X.prog X.w X.K X.mg R as H (bd (isIns c f dx) fk m) Q E) :
    ∃ b dd hfs, x = .ref b ∧ H b = some (.ins (He.ga X.K c) dd hfs) ∧ hfs.lookup f = none ∧ Vg X.prog X.w X.K X.mg R as H (fk () m) Q E := by
  cases rx with
  | @ref b n h1 =>
    have e0 : isIns c f (.ref n) m = match m[n]? with
      | some (.ins c' fs) => if c' = c ∧ fs.lookup f = none then .ok () m else .bad
      | _ => .bad := rfl
    cases e1 : m[n]? with
    | none =>
      rw [e1] at e0
      have : bd (isIns c f (.ref n)) fk m = .bad := by unfold bd; rw [e0]
      rw [this] at v
      exact False.elim v
    | some ob =>
      cases ob with
      | ins c' fs =>
        rw [e1] at e0
        dsimp only at e0
        by_cases hc : c' = c ∧ fs.lookup f = none
        · rw [if_pos hc] at e0
          have : bd (isIns c f (.ref n)) fk m = fk () m := by unfold bd; rw [e0]
          rw [this] at v
          obtain ⟨dd, hfs, g1, g2, g3, g4, g5⟩ := hr.insk h1 e1
          rw [hc.1] at g1
          exact ⟨b, dd, hfs, rfl, g1, fldI_none g4 hc.2, v⟩
        · rw [if_neg hc] at e0
          have : bd (isIns c f (.ref n)) fk m = .bad := by unfold bd; rw [e0]
          rw [this] at v
          exact False.elim v
      | _ =>
        rw [e1] at e0
        have : bd (isIns c f (.ref n)) fk m = .bad := by unfold bd; rw [e0]
        rw [this] at v
        exact False.elim v
  | _ => exact False.elim v
theorem e_mcall {F : List D → M D} (hcl : Cls X.K (He.ga X.K c)) (hm : Meth X.K (He.ga X.K c) f g) (hF : FG X.prog X.w X.K X.mg X.base k g fd ps (spF X.prog X.w X.K X.mg ps.length F)) (hF0 : ∀ ds m, ds.length ≠ ps.length → F ds m = .bad) (hr : Room k X.A) (hgd : X.A.guards = some []) (tk : Takes X W) (hbd : Binds X.K fd ps [])
    (ho : PE X o (tE X W fo)) (ha : PA X (e :: es) (tA X W fs)) (hb : attributeBase o f X.env (eval o X.env) = eval o X.env) (hp : (e :: es).all plainE = true) (hl : (e :: es).length < 30) (hline : (apos.endLine == pos.line) = true) :
    PE X (.Call (.Attribute o f apos) (e :: es) [] pos) (tE X W fun ρ => bd (fo ρ) fun x => bd (isIns c f x) fun _ => bd (fs ρ) fun xs => F (x :: xs)) := by
  have hp' := hp
  simp only [List.all_cons, Bool.and_eq_true] at hp'
  refine ⟨fun pins s σ H Q I ⟨as, m, ρ, sl, hr0, v⟩ => ?_⟩
  refine meth_eq hb (few_ok hp hl) hline (thn (ho.run pins s σ H _ I (tE_bd sl hr0 v)) fun u s1 ⟨y, H1, I1, r1, as1, m1, dx, sl1, hr1, k1, rx, v1⟩ => ?_)
  obtain ⟨b, dd, hfs, ey, g1, g2, v2⟩ := isIns_inv hr1 rx v1
  subst ey
  obtain rfl : u = Value.ref b := r1
  refine getmeth_ok I1 g1 hcl hm g2 ?_
  refine PySem.W.callWith_K (first := [.ref b]) (h₀ := X.base) I1.ok.mod.kin hm.kp (thn (ha.run pos pins s1 σ H1 _ I1 (tA_bd sl1 hr1 v2)) fun us s2 ⟨vs, H2, I2, r, as2, m2, ds, sl2, hr2, k2, rs, v3⟩ => ⟨I2.kIn, ?_⟩) (starEach_c hp'.1) (star_any (by simpa using hp'.2))
  refine run_fg (us := .ref b :: us) (vs := .ref b :: vs) hF hr hgd tk hbd I2 (.cons rfl r) ⟨?_, as2, m2, dx :: ds, hr2, .cons (rx.mono hr1 k2) rs, v3⟩
  rw [List.length_cons, rs.length]
  refine Classical.byContradiction fun z => ?_
  rw [hF0 (dx :: ds) m2 z] at v3
  exact v3
theorem e_mcall0 {F : List D → M D} (hcl : Cls X.K (He.ga X.K c)) (hm : Meth X.K (He.ga X.K c) f g) (hF : FG X.prog X.w X.K X.mg X.base k g fd ps (spF X.prog X.w X.K X.mg ps.length F)) (hF0 : ∀ ds m, ds.length ≠ ps.length → F ds m = .bad) (hr : Room k X.A) (hgd : X.A.guards = some []) (tk : Takes X W) (hbd : Binds X.K fd ps [])
    (ho : PE X o (tE X W fo)) (hb : attributeBase o f X.env (eval o X.env) = eval o X.env) (hline : (apos.endLine == pos.line) = true) :
    PE X (.Call (.Attribute o f apos) [] [] pos) (tE X W fun ρ => bd (fo ρ) fun x => bd (isIns c f x) fun _ => bd (ret []) fun xs => F (x :: xs)) := by
  refine ⟨fun pins s σ H Q I ⟨as, m, ρ, sl, hr0, v⟩ => ?_⟩
  refine meth_eq hb (by rfl) hline (thn (ho.run pins s σ H _ I (tE_bd sl hr0 v)) fun u s1 ⟨y, H1, I1, r1, as1, m1, dx, sl1, hr1, k1, rx, v1⟩ => ?_)
  obtain ⟨b, dd, hfs, ey, g1, g2, v2⟩ := isIns_inv hr1 rx v1
  subst ey
  obtain rfl : u = Value.ref b := r1
  refine getmeth_ok I1 g1 hcl hm g2 ?_
  refine PySem.W.callWith_K0 (first := [.ref b]) I1.kIn hm.kp (run_fg (us := [.ref b]) (vs := [.ref b]) hF hr hgd tk hbd I1 (.cons rfl .nil) ⟨?_, as1, m1, [dx], hr1, .cons rx .nil, v2⟩)
  refine Classical.byContradiction fun z => ?_
  have v2 : Vg X.prog X.w X.K X.mg (RD X.K) as1 H1 (F [dx] m1) Q (fun c d H' => W c d σ H') := v2
  rw [hF0 [dx] m1 z] at v2
  exact v2
def newM (c : Str) (F : List D → M D) (xs : List D) : M D := bd (alc (.ins c [])) fun x => bd (F (x :: xs)) fun y => bd (nonM y) fun _ => ret x
theorem run_mk {F : List D → M D} {pins : List (Addr × Obj)} {σ : L2.St} {H : Hp} {s : Shared} {Q : VK} {us : List Value} {vs : List V} {as : List Addr} {m : Mu} {ds : List D} (M : Mk X.K (He.ga X.K c) g) (hF : FG X.prog X.w X.K X.mg X.base k g fd ps (spF X.prog X.w X.K X.mg ps.length F)) (hF0 : ∀ ds m, ds.length ≠ ps.length → F ds m = .bad) (hr : Room (k + 1) X.A) (hgd : X.A.guards = some []) (tk : Takes X W) (hb : Binds X.K fd ps [])
    (I : Inv X pins σ H s) (hr0 : HRep X.prog X.w X.K as m H) (r : Vals vs us) (rs : Reps X.K H as vs ds) (v : Vg X.prog X.w X.K X.mg (RD X.K) as H (newM c F ds m) Q fun c d H' => W c d σ H') : wpAny (model X.prog X.w) X.A (call (.ref (He.ga X.K c)) us) (EP X pins σ Q) X.xe s := by
  have hx : H (s.heap.objs.size + 1) = none := I.hok.fresh (Nat.le_succ _)
  have hd : H s.heap.objs.size = none := I.hok.fresh (Nat.le_refl _)
  have ne : s.heap.objs.size ≠ s.heap.objs.size + 1 := Nat.ne_of_lt (Nat.lt_succ_self _)
  have I2 := Inv.made (C := He.ga X.K c) I
  obtain ⟨kp, hr1⟩ := hr0.newI (c := c) hx hd ne
  have r2 : Vals (V.ref (s.heap.objs.size + 1) :: vs) (Value.ref (s.heap.objs.size + 1) :: us) := .cons rfl r
  have rs2 : Reps X.K (upd (upd H s.heap.objs.size (.own (s.heap.objs.size + 1))) (s.heap.objs.size + 1) (.ins (He.ga X.K c) s.heap.objs.size [])) (as ++ [s.heap.objs.size + 1]) (V.ref (s.heap.objs.size + 1) :: vs) (.ref m.length :: ds) := .cons (.ref (by rw [← hr0.len]; simp)) (rs.mono hr0 kp)
  have hbad : (D.ref m.length :: ds).length = ps.length := by
    refine Classical.byContradiction fun z => ?_
    have : newM c F ds m = .bad := by
      unfold newM bd alc
      dsimp only
      rw [hF0 _ _ z]
    rw [this] at v
    exact v
  have hl : (Value.ref (s.heap.objs.size + 1) :: us).length = ps.length := by rw [← r2.length, rs2.length]; exact hbad
  have v' : Vg X.prog X.w X.K X.mg (RD X.K) (as ++ [s.heap.objs.size + 1]) (upd (upd H s.heap.objs.size (.own (s.heap.objs.size + 1))) (s.heap.objs.size + 1) (.ins (He.ga X.K c) s.heap.objs.size [])) (F (.ref m.length :: ds) (m ++ [.ins c []])) (fun y H2 => y = .non ∧ Q (.ref (s.heap.objs.size + 1)) H2) fun c d H' => W c d σ H' := by
    have v0 : Vg X.prog X.w X.K X.mg (RD X.K) as H (bd (F (.ref m.length :: ds)) (fun y => bd (nonM y) fun _ => ret (.ref m.length)) (m ++ [.ins c []])) Q fun c d H' => W c d σ H' := v
    unfold bd at v0
    cases q : F (.ref m.length :: ds) (m ++ [.ins c []]) with
    | bad => rw [q] at v0; exact False.elim v0
    | exc cn fs m' =>
      rw [q] at v0
      exact fun C d as' H' e k' h' x' => v0 C d as' H' e (kp.trans k') h' x'
    | ok d m' =>
      rw [q] at v0
      intro y as' H' k' h' ry
      cases d with
      | non =>
        have v0 : Vg X.prog X.w X.K X.mg (RD X.K) as H (.ok (.ref m.length) m') Q fun c d H' => W c d σ H' := v0
        cases ry
        refine ⟨rfl, v0 (.ref (s.heap.objs.size + 1)) as' H' (kp.trans k') h' (.ref (k'.get ?_))⟩
        rw [← hr0.len]
        simp
      | _ => exact False.elim v0
  have b := hb { s with heap := (s.heap.push PySem.W.emptyDict).push (PySem.W.instObj (He.ga X.K c) s.heap.objs.size) } (Value.ref (s.heap.objs.size + 1) :: us) I2.kIn (by rw [List.append_nil]; exact hl)
  rw [List.append_nil] at b
  refine wpAny_call (make_map (f := g) I.kIn M.makes M.init (beq_iff_eq.mp M.fn) (codeAny_mono (hF.run _ X.stack _ _ ⟨Value.ref (s.heap.objs.size + 1) :: us, []⟩ (Value.ref (s.heap.objs.size + 1) :: us) _ _ _ (hr.make (He.ga X.K c) us []) (by unfold Around.under; dsimp only; rw [hgd]; rfl)
    (I2.env0.make (He.ga X.K c) us []) b r2 ⟨by rw [rs2.length]; exact hbad, _, _, _, hr1, rs2, v'⟩) fun r s' hq' => ?_))
  cases r with
  | error e => exact tk e s' (XE.of_call I2 (fun _ _ _ h => h) hq')
  | ok fl =>
    cases fl with
    | ret u =>
      obtain ⟨v, H', I3, rv, ev, q3⟩ := I2.after hq'
      subst ev
      exact ⟨rv, ⟨V.ref (s.heap.objs.size + 1), H', I3, rfl, q3⟩⟩
    | next => exact False.elim hq'
    | brk => exact False.elim hq'
    | cont => exact False.elim hq'
theorem e_new {F : List D → M D} (M : Mk X.K (He.ga X.K c) g) (hF : FG X.prog X.w X.K X.mg X.base k g fd ps (spF X.prog X.w X.K X.mg ps.length F)) (hF0 : ∀ ds m, ds.length ≠ ps.length → F ds m = .bad) (hr : Room (k + 1) X.A) (hgd : X.A.guards = some []) (tk : Takes X W) (hbd : Binds X.K fd ps [])
    (hg : Gl X c) (hm : X.mg c = some (.ref (He.ga X.K c))) (ha : PA X (e :: es) (tA X W fs)) (hdb : (c == ("__debug__" : Str)) = false) (he : starEach (e :: es) X.env = (false, eval e X.env) :: starEach es X.env) (hpl : (backTo pos (starEach es X.env)).any (·.1) = false) :
    PE X (.Call (.Name c p) (e :: es) [] pos) (tE X W fun ρ => bd (fs ρ) (newM c F)) := by
  refine ⟨fun pins s σ H Q I ⟨as, m, ρ, sl, hr0, v⟩ => ?_⟩
  refine wpAny_Call_Name_kw (ld_glob I hg hm ?_ hdb)
  refine PySem.W.callWith_K (h₀ := X.base) I.ok.mod.kin M.kp (thn (ha.run pos pins s σ H _ I (tA_bd sl hr0 v)) fun us s1 ⟨vs, H1, I1, r, as1, m1, ds, sl1, hr1, k1, rs, v1⟩ => ⟨I1.kIn, ?_⟩) he hpl
  exact run_mk M hF hF0 hr hgd tk hbd I1 hr1 r rs v1
theorem e_new0 {F : List D → M D} (M : Mk X.K (He.ga X.K c) g) (hF : FG X.prog X.w X.K X.mg X.base k g fd ps (spF X.prog X.w X.K X.mg ps.length F)) (hF0 : ∀ ds m, ds.length ≠ ps.length → F ds m = .bad) (hr : Room (k + 1) X.A) (hgd : X.A.guards = some []) (tk : Takes X W) (hbd : Binds X.K fd ps [])
    (hg : Gl X c) (hm : X.mg c = some (.ref (He.ga X.K c))) (hdb : (c == ("__debug__" : Str)) = false) : PE X (.Call (.Name c p) [] [] pos) (tE X W fun ρ => bd (ret []) (newM c F)) := by
  refine ⟨fun pins s σ H Q I ⟨as, m, ρ, sl, hr0, v⟩ => ?_⟩
  refine wpAny_Call_Name_kw (ld_glob I hg hm ?_ hdb)
  exact PySem.W.callWith_K0 I.kIn M.kp (run_mk (us := []) M hF hF0 hr hgd tk hbd I hr0 .nil .nil v)
theorem s_setF {tpos : Pos} (hcl : Cls X.K (He.ga X.K c)) (hn : NoAttr X.K (He.ga X.K c) f) (ho : PE X o (tE X W fo)) (hv : PE X value (tE X W fv)) (hs : swapsWith value (some (.Attribute o f tpos)) pos.line X.env = pure false) :
    PS X (.Assign [.Attribute o f tpos] value pos) (tS X W fun ρ => bs ρ (fv ρ) fun v => bs ρ (fo ρ) fun x => bs ρ (setFM c f v x) fun _ => ret (.nx ρ)) := by
  refine PSimp (ps_fld ho hv hs) fun Dn σ H ⟨as, m, ρ, sl, hr, v⟩ => ?_
  refine tE_mono (tE_bs sl hr v) fun y H1 ⟨as1, m1, dy, k1, hr1, sl1, ry, v1⟩ => ?_
  refine tE_mono (tE_bs sl1 hr1 v1) fun x H2 ⟨as2, m2, dx, k2, hr2, sl2, rx, v2⟩ => ?_
  have ry2 := ry.mono hr1 k2
  cases rx with
  | @ref b n h1 =>
    have e0 : setFM c f dy (.ref n) m2 = match m2[n]? with
      | some (.ins c' fs) => if c' = c ∧ fs.length < 1000 then .ok () (m2.set n (.ins c (putFD f dy fs))) else .bad
      | _ => .bad := rfl
    have bad : setFM c f dy (.ref n) m2 = .bad → False := fun z => by
      have : bs ρ (setFM c f dy (.ref n)) (fun _ => ret (.nx ρ)) m2 = .bad := by unfold bs; rw [z]
      rw [this] at v2
      exact v2
    cases e1 : m2[n]? with
    | none =>
      rw [e1] at e0
      exact (bad e0).elim
    | some ob =>
      cases ob with
      | ins c' fs =>
        rw [e1] at e0
        dsimp only at e0
        by_cases hc : c' = c ∧ fs.length < 1000
        · rw [if_pos hc] at e0
          have ev : bs ρ (setFM c f dy (.ref n)) (fun _ => ret (.nx ρ)) m2 = .ok (.nx ρ) (m2.set n (.ins c (putFD f dy fs))) := by
            unfold bs
            rw [e0]
            rfl
          rw [ev] at v2
          obtain ⟨dd, hfs, g1, g2, g3, g4, g5⟩ := hr2.insk h1 e1
          rw [hc.1] at g1
          have lf : hfs.length < 1000 := by
            have := congrArg List.length g4
            rw [List.length_map, List.length_map] at this
            omega
          refine ⟨b, _, dd, hfs, rfl, g1, hcl, hn, lf, ?_⟩
          have nb : dd ≠ b := fun z => by
            rw [z, g1] at g2
            cases g2
          obtain ⟨kp, hr3⟩ := hr2.upd (o := .ins c (putFD f dy fs)) (ho := .ins (He.ga X.K c) dd (L2.putF f y hfs)) h1 (by rw [g1]; trivial) fun kp => .ins (by rw [upd_ne nb]; exact g2) g3 (putI_keys g4) (by
            exact (putI_rep ry2 g4 g5).mono hr2 kp)
          exact v2 σ as2 _ kp hr3 (sl2.mono hr2 kp)
        · rw [if_neg hc] at e0
          exact (bad e0).elim
      | _ =>
        rw [e1] at e0
        exact (bad e0).elim
  | _ => exact (show False from v2).elim
end
end Af
namespace Af
open PySem PySem.Spec PyProof.Rows L2
def onBin (x : Expr) (f : Expr → Operator → Expr → Bool) : Bool := match x with | .BinOp l o r _ => f l o r | _ => false
theorem onBin_eq {x : Expr} {f} (h : onBin x f = true) : ∃ l o r p, x = .BinOp l o r p ∧ f l o r = true := by cases x <;> first | exact ⟨_, _, _, _, rfl, h⟩ | cases h
def onName (x : Expr) (f : Str → Bool) : Bool := match x with | .Name n _ => f n | _ => false
theorem onName_eq {x : Expr} {f} (h : onName x f = true) : ∃ n p, x = .Name n p ∧ f n = true := by cases x <;> first | exact ⟨_, _, rfl, h⟩ | cases h
def onConst (x : Expr) (f : Const → Bool) : Bool := match x with | .Constant c _ _ => f c | _ => false
theorem onConst_eq {x : Expr} {f} (h : onConst x f = true) : ∃ c k p, x = .Constant c k p ∧ f c = true := by cases x <;> first | exact ⟨_, _, _, rfl, h⟩ | cases h
def onUn (x : Expr) (f : UnaryOp → Expr → Bool) : Bool := match x with | .UnaryOp o y _ => f o y | _ => false
theorem onUn_eq {x : Expr} {f} (h : onUn x f = true) : ∃ o y p, x = .UnaryOp o y p ∧ f o y = true := by cases x <;> first | exact ⟨_, _, _, rfl, h⟩ | cases h
def onBool (x : Expr) (f : BoolOp → Expr → Expr → List Expr → Pos → Bool) : Bool := match x with | .BoolOp o (a :: b :: r) p => f o a b r p | _ => false
theorem onBool_eq {x : Expr} {f} (h : onBool x f = true) : ∃ o a b r p, x = .BoolOp o (a :: b :: r) p ∧ f o a b r p = true := by
  unfold onBool at h
  split at h
  · exact ⟨_, _, _, _, _, rfl, h⟩
  · cases h
def onCmp (x : Expr) (f : Expr → CmpOp → Expr → Bool) : Bool := match x with | .Compare a [o] [b] _ => f a o b | _ => false
theorem onCmp_eq {x : Expr} {f} (h : onCmp x f = true) : ∃ a o b p, x = .Compare a [o] [b] p ∧ f a o b = true := by
  unfold onCmp at h
  split at h
  · exact ⟨_, _, _, _, rfl, h⟩
  · cases h
def onChn (x : Expr) (f : Expr → CmpOp → CmpOp → Expr → Expr → Bool) : Bool := match x with | .Compare a [o, o'] [b, c] _ => f a o o' b c | _ => false
theorem onChn_eq {x : Expr} {f} (h : onChn x f = true) : ∃ a o o' b c p, x = .Compare a [o, o'] [b, c] p ∧ f a o o' b c = true := by
  unfold onChn at h
  split at h
  · exact ⟨_, _, _, _, _, _, rfl, h⟩
  · cases h
def onIf (x : Expr) (f : Expr → Expr → Expr → Bool) : Bool := match x with | .IfExp a b c _ => f a b c | _ => false
theorem onIf_eq {x : Expr} {f} (h : onIf x f = true) : ∃ a b c p, x = .IfExp a b c p ∧ f a b c = true := by cases x <;> first | exact ⟨_, _, _, _, rfl, h⟩ | cases h
def onTup (x : Expr) (f : List Expr → Bool) : Bool := match x with | .Tuple es _ _ => f es | _ => false
theorem onTup_eq {x : Expr} {f} (h : onTup x f = true) : ∃ es k p, x = .Tuple es k p ∧ f es = true := by cases x <;> first | exact ⟨_, _, _, rfl, h⟩ | cases h
def onLst (x : Expr) (f : List Expr → Bool) : Bool := match x with | .List es _ => f es | _ => false
theorem onLst_eq {x : Expr} {f} (h : onLst x f = true) : ∃ es p, x = .List es p ∧ f es = true := by cases x <;> first | exact ⟨_, _, rfl, h⟩ | cases h
def onDct (x : Expr) : Bool := match x with | .Dict [] [] _ => true | _ => false
theorem onDct_eq {x : Expr} (h : onDct x = true) : ∃ p, x = .Dict [] [] p := by
  unfold onDct at h
  split at h
  · exact ⟨_, rfl⟩
  · cases h
def onSub (x : Expr) (f : Expr → Expr → Bool) : Bool := match x with | .Subscript a i _ => f a i | _ => false
theorem onSub_eq {x : Expr} {f} (h : onSub x f = true) : ∃ a i p, x = .Subscript a i p ∧ f a i = true := by cases x <;> first | exact ⟨_, _, _, rfl, h⟩ | cases h
def onSl0 (x : Expr) : Bool := match x with | .Slice none none none _ => true | _ => false
theorem onSl0_eq {x : Expr} (h : onSl0 x = true) : ∃ p, x = .Slice none none none p := by
  unfold onSl0 at h
  split at h
  · exact ⟨_, rfl⟩
  · cases h
def onSlR (x : Expr) (f : Expr → Bool) : Bool := match x with | .Slice none none (some a) _ => f a | _ => false
theorem onSlR_eq {x : Expr} {f} (h : onSlR x f = true) : ∃ a p, x = .Slice none none (some a) p ∧ f a = true := by
  unfold onSlR at h
  split at h
  · exact ⟨_, _, rfl, h⟩
  · cases h
def onSlL (x : Expr) (f : Expr → Bool) : Bool := match x with | .Slice (some a) none none _ => f a | _ => false
theorem onSlL_eq {x : Expr} {f} (h : onSlL x f = true) : ∃ a p, x = .Slice (some a) none none p ∧ f a = true := by
  unfold onSlL at h
  split at h
  · exact ⟨_, _, rfl, h⟩
  · cases h
def onSlU (x : Expr) (f : Expr → Bool) : Bool := match x with | .Slice none (some a) none _ => f a | _ => false
theorem onSlU_eq {x : Expr} {f} (h : onSlU x f = true) : ∃ a p, x = .Slice none (some a) none p ∧ f a = true := by
  unfold onSlU at h
  split at h
  · exact ⟨_, _, rfl, h⟩
  · cases h
def onSlB (x : Expr) (f : Expr → Expr → Bool) : Bool := match x with | .Slice (some a) (some b) none _ => f a b | _ => false
theorem onSlB_eq {x : Expr} {f} (h : onSlB x f = true) : ∃ a b p, x = .Slice (some a) (some b) none p ∧ f a b = true := by
  unfold onSlB at h
  split at h
  · exact ⟨_, _, _, rfl, h⟩
  · cases h
def onCall (x : Expr) (f : Str → List Expr → Bool) : Bool := match x with | .Call (.Name n _) es [] _ => f n es | _ => false
theorem onCall_eq {x : Expr} {f} (h : onCall x f = true) : ∃ n p es q, x = .Call (.Name n p) es [] q ∧ f n es = true := by
  unfold onCall at h
  split at h
  · exact ⟨_, _, _, _, rfl, h⟩
  · cases h
def onSortK (x : Expr) (f : Str → Str → Str → Expr → Bool) : Bool := match x with | .Call (.Name n _) [y] [⟨some k, .Name g _, _⟩] _ => f n k g y | _ => false
theorem onSortK_eq {x : Expr} {f} (h : onSortK x f = true) : ∃ n p y k g q kp pos, x = .Call (.Name n p) [y] [⟨some k, .Name g q, kp⟩] pos ∧ f n k g y = true := by
  unfold onSortK at h
  split at h
  · exact ⟨_, _, _, _, _, _, _, _, rfl, h⟩
  · cases h
def onMeth (x : Expr) (f : Expr → Str → List Expr → Bool) : Bool := match x with | .Call (.Attribute o n p) es [] q => (p.endLine == q.line) && f o n es | _ => false
theorem onMeth_eq {x : Expr} {f} (h : onMeth x f = true) : ∃ o n p es q, x = .Call (.Attribute o n p) es [] q ∧ (p.endLine == q.line) = true ∧ f o n es = true := by
  unfold onMeth at h
  split at h
  · simp only [Bool.and_eq_true] at h
    exact ⟨_, _, _, _, _, rfl, h⟩
  · cases h
def onComp (x : Expr) (f : Expr → Expr → Expr → List Expr → Scope → Bool) : Bool := match x with | .ListComp elt [⟨tg, it, ifs, 0⟩] sc _ => f elt tg it ifs sc | _ => false
theorem onComp_eq {x : Expr} {f} (h : onComp x f = true) : ∃ elt tg it ifs sc p, x = .ListComp elt [⟨tg, it, ifs, 0⟩] sc p ∧ f elt tg it ifs sc = true := by
  unfold onComp at h
  split at h
  · exact ⟨_, _, _, _, _, _, rfl, h⟩
  · cases h
def on1 (es : List Expr) (f : Expr → Bool) : Bool := match es with | [a] => f a | _ => false
theorem on1_eq {es : List Expr} {f} (h : on1 es f = true) : ∃ a, es = [a] ∧ f a = true := by
  unfold on1 at h
  split at h
  · exact ⟨_, rfl, h⟩
  · cases h
def on2 (es : List Expr) (f : Expr → Expr → Bool) : Bool := match es with | [a, b] => f a b | _ => false
theorem on2_eq {es : List Expr} {f} (h : on2 es f = true) : ∃ a b, es = [a, b] ∧ f a b = true := by
  unfold on2 at h
  split at h
  · exact ⟨_, _, rfl, h⟩
  · cases h
def on3 (es : List Expr) (f : Expr → Expr → Expr → Bool) : Bool := match es with | [a, b, c] => f a b c | _ => false
theorem on3_eq {es : List Expr} {f} (h : on3 es f = true) : ∃ a b c, es = [a, b, c] ∧ f a b c = true := by
  unfold on3 at h
  split at h
  · exact ⟨_, _, _, rfl, h⟩
  · cases h
structure Cinfo where
  name : Str
  np : Nat
  ini : Str
  ms : List (Str × Str × Nat)
  fl : List Str
structure Ct where
  N : List Str
  own : Str → Option Nat
  con : Str → D → Bool
  xn : List Str
  hot : Bool
  gl : Str → Str
  cls : List Cinfo
def hasFld (c : Ct) (k f : Str) : Bool := c.cls.any fun i => decide (i.name = k) && i.fl.contains f
def hasMth (c : Ct) (k f g : Str) (n : Nat) : Bool := c.cls.any fun i => decide (i.name = k) && i.ms.any fun q => decide (q.1 = f) && decide (q.2.1 = g) && decide (q.2.2 = n)
def hasNew (c : Ct) (k : Str) (n : Nat) : Bool := c.cls.any fun i => decide (i.name = k) && decide (i.np = n)
def onAttr (x : Expr) (f : Expr → Str → Bool) : Bool := match x with | .Attribute o n _ => f o n | _ => false
theorem onAttr_eq {x : Expr} {f} (h : onAttr x f = true) : ∃ o n p, x = .Attribute o n p ∧ f o n = true := by cases x <;> first | exact ⟨_, _, _, rfl, h⟩ | cases h
def visB (sc : Scope) (x : Str) : Bool := match sc.names.lookup x with | some .local => true | some .cell => true | some .free => true | _ => false
theorem visB_eq {sc : Scope} {x : Str} (h : visB sc x = true) : Vis sc x := by
  unfold visB at h
  split at h
  · exact .inl (by assumption)
  · exact .inr (.inl (by assumption))
  · exact .inr (.inr (by assumption))
  · cases h
def locB (sc : Scope) (x : Str) : Bool := match sc.names.lookup x with | some .local => true | some .cell => true | _ => false
theorem locB_eq {sc : Scope} {x : Str} (h : locB sc x = true) : Loc sc x := by
  unfold locB at h
  split at h
  · exact .inl (by assumption)
  · exact .inr (by assumption)
  · cases h
def glB (sc : Scope) (x : Str) : Bool := match sc.names.lookup x with | some .globalImplicit => true | _ => false
theorem glB_eq {X : Cx} {x : Str} (h : glB X.env.scope x = true) : Gl X x := by
  unfold glB at h
  split at h
  · assumption
  · cases h
def bnames : List Str := ["len", "abs", "min", "max", "int", "str", "tuple", "list", "sorted", "any", "all", "sum", "repr", "dict", "bool", "isinstance", "range", "enumerate", "reversed", "zip", "set"]
def notSl : Expr → Bool | .Slice .. => false | _ => true
theorem notSl_ix {x : Expr} (h : notSl x = true) : PlainIx x := by cases x <;> first | (intro _ _; rfl) | cases h
def notSet : Expr → Bool | .Set .. => false | _ => true
theorem notSet_ok {x : Expr} {env : PySem.Env} (h : notSet x = true) : ∀ v, foldedSetIterable x env v = pure v := by cases x <;> first | (intro _; rfl) | cases h
def constIs : D → Const → Bool
  | .non, .none => true
  | .bl a, .bool b => a == b
  | .int a, .int b => decide (a = b)
  | .str a, .str b => decide (a = b)
  | _, _ => false
def plainT : Expr → Bool
  | .UnaryOp .Not _ _ => false
  | .BoolOp .. => false
  | .IfExp .. => false
  | .Compare .. => false
  | _ => true
theorem plainT_ok {x : Expr} {env : PySem.Env} (h : plainT x = true) : ∀ whole, isTrue x env whole = (do let v ← whole; standAt x.pos; holding [v] (truthy v)) := by
  cases x with
  | UnaryOp o y p => cases o <;> first | (intro _; rfl) | cases h
  | _ => first | (intro _; rfl) | cases h
def isLcE : Expr → Bool | .ListComp .. => true | _ => false
def tst : E → Bool
  | .any => false
  | .ite .. => false
  | .and a b => tst a && tst b
  | .or a b => tst a && tst b
  | .not a => tst a
  | _ => true
def ckN (c : Ct) (lb : Str → Bool) (i : Nat) (x : Expr) : Bool := onName x fun n => decide (c.N[i]? = some n) && lb n
def ckNs (c : Ct) (lb : Str → Bool) : List Nat → List Expr → Bool
  | [], [] => true
  | i :: is, x :: xs => ckN c lb i x && ckNs c lb is xs
  | _, _ => false
def ckT (c : Ct) (lb : Str → Bool) (t : T) (x : Expr) : Bool := match t with
  | .one i => ckN c lb i x
  | .many is => onTup x fun es => ckNs c lb is es
def ownL (c : Ct) (own : List Nat) : List (Str × Nat) := own.map fun i => ((c.N[i]?).getD "", i)
theorem ownL_ix {c : Ct} {own : List Nat} : (ownL c own).map (·.2) = own := by
  unfold ownL
  rw [List.map_map]
  exact List.map_id'' (fun _ => rfl) own
def ckXs (c : Ct) (sc : Scope) : List Str → List Expr → Bool
  | [], [] => true
  | n :: ns, x :: xs => onName x (fun m => decide (n = m) && (c.xn.contains n || decide (n = "ValueError")) && glB sc n && !(n == ("__debug__" : Str))) && ckXs c sc ns xs
  | _, _ => false
def argsOk (es : List Expr) : Bool := es.all plainE && decide (es.length < 30)
mutual
def ckE (c : Ct) (sc : Scope) : E → Expr → Bool
  | .var i, x => onName x fun n => decide (c.N[i]? = some n) && visB sc n && !(n == ("__debug__" : Str)) && !(n == ("__classdict__" : Str))
  | .k d, x => onConst x fun k => constIs d k
  | .g n d, x => onName x fun m => decide (n = m) && glB sc n && c.con n d && !(n == ("__debug__" : Str))
  | .bin o a b, x => onBin x fun l op r => decide (op = bopOf o) && ckE c sc a l && ckE c sc b r
  | .neg a, x => onUn x fun o y => decide (o = .USub) && ckE c sc a y
  | .not a, x => onUn x fun o y => decide (o = .Not) && ckE c sc a y
  | .and a b, x => onBool x fun o l r rest p => decide (o = .And) && ckE c sc a l && ckE c sc b (match rest with | [] => r | _ => .BoolOp .And (r :: rest) p)
  | .or a b, x => onBool x fun o l r rest p => decide (o = .Or) && ckE c sc a l && ckE c sc b (match rest with | [] => r | _ => .BoolOp .Or (r :: rest) p)
  | .cmp o a b, x => onCmp x fun l op r => decide (op = copOf o) && !(behindInMarks op r) && ckE c sc a l && ckE c sc b r
  | .chn o o' a b d, x => onChn x fun l op op' r u => decide (op = copOf o) && decide (op' = copOf o') && !(lastMarks [op, op'] [r, u]) && ckE c sc a l && ckE c sc b r && ckE c sc d u
  | .ite d a b, x => onIf x fun t l r => tst d && ckE c sc d t && ckE c sc a l && ckE c sc b r
  | .tup es, x => onTup x fun l => l.all plainE && ckEs c sc es l
  | .lst es, x => onLst x fun l => l.all plainE && ckEs c sc es l
  | .dct, x => onDct x
  | .mpd, x => onDct x
  | .ix a b, x => onSub x fun l i => notSl i && ckE c sc a l && ckE c sc b i
  | .slR a b, x => onSub x fun l i => ckE c sc a l && onSlR i fun u => ckE c sc b u
  | .sl a, x => onSub x fun l i => onSl0 i && ckE c sc a l
  | .slL a b, x => onSub x fun l i => ckE c sc a l && onSlL i fun u => ckE c sc b u
  | .slU a b, x => onSub x fun l i => ckE c sc a l && onSlU i fun u => ckE c sc b u
  | .slB a b d, x => onSub x fun l i => ckE c sc a l && onSlB i fun u v => ckE c sc b u && ckE c sc d v
  | .call f es, x => onCall x fun n l => decide (n = c.gl f) && glB sc n && (decide (c.own f = some l.length) || hasNew c f l.length) && argsOk l && !(n == ("__debug__" : Str)) && ckEs c sc es l && !c.hot
  | .fld k f a, x => onAttr x fun y n => decide (n = f) && hasFld c k f && baseE y && ckE c sc a y
  | .mcall k f g o es, x => onMeth x fun y n l => decide (n = f) && hasMth c k f g (l.length + 1) && baseE y && ckE c sc o y && argsOk l && ckEs c sc es l && !c.hot
  | .bi f es, x => onCall x fun n l => decide (n = biName f) && glB sc n && !l.isEmpty && argsOk l && ckEs c sc es l && (coolB f || !c.hot)
  | .isi t a, x => onCall x fun n l => decide (n = "isinstance") && glB sc n && on2 l fun y u => ckE c sc a y && plainE y && onName u fun m => decide (m = Str.ofString (tyName t)) && glB sc m
  | .me f o es, x => onMeth x fun y n l => decide (n = meName f) && baseE y && ckE c sc o y && argsOk l && ckEs c sc es l
  | .lrng1 t a, x => onCall x fun n l => decide (n = if t then ("tuple" : Str) else ("list" : Str)) && glB sc n && on1 l fun y => onCall y fun m l' => decide (m = "range") && glB sc m && on1 l' fun z => plainE z && ckE c sc a z && !c.hot
  | .lrng2 t a b, x => onCall x fun n l => decide (n = if t then ("tuple" : Str) else ("list" : Str)) && glB sc n && on1 l fun y => onCall y fun m l' => decide (m = "range") && glB sc m && on2 l' fun z u => plainE z && plainE u && ckE c sc a z && ckE c sc b u && !c.hot
  | .sset a, x => onCall x fun n l => decide (n = "sorted") && glB sc n && on1 l fun y => onCall y fun m l' => decide (m = "set") && glB sc m && on1 l' fun z => plainE z && ckE c sc a z && !c.hot
  | .any, x => !(isLcE x)
  | .sabs a, x => onSortK x fun n k f y => decide (n = "sorted") && decide (k = "key") && decide (f = "abs") && glB sc "sorted" && glB sc "abs" && plainE y && ckE c sc a y
  | .dzip k a b, x => onCall x fun n l => decide (n = "dict") && glB sc n && on1 l fun y => onCall y fun m l' => decide (m = "zip") && glB sc m && on2 l' fun z u => plainE z && plainE u && ckE c sc a z && ckE c sc b u && !c.hot
  | .sabsK a, x => onSortK x fun n k f y => decide (n = "sorted") && decide (k = "key") && decide (f = "abs") && glB sc "sorted" && glB sc "abs" && plainE y && !c.hot && ckE c sc a y
  | .slen a, x => onSortK x fun n k f y => decide (n = "sorted") && decide (k = "key") && decide (f = "len") && glB sc "sorted" && glB sc "len" && plainE y && ckE c sc a y
  | .lvals a, x => onCall x fun n l => decide (n = "list") && glB sc n && !c.hot && on1 l fun y => onMeth y fun z v es => decide (v = "values") && es.isEmpty && baseE z && ckE c sc a z
  | .ixK a b, x => onSub x fun l i => notSl i && ckE c sc a l && ckE c sc b i
  | .hasK a b, x => onCmp x fun l op r => decide (op = .In) && !(behindInMarks op r) && ckE c sc a l && ckE c sc b r
  | .getK o k z, x => onMeth x fun y n l => decide (n = "get") && baseE y && ckE c sc o y && on2 l fun u v => plainE u && plainE v && ckE c sc k u && ckE c sc z v
  | .isx i ns, x => onCall x fun n l => decide (n = "isinstance") && glB sc n && c.hot && on2 l fun y u => onName y (fun k => decide (c.N[i]? = some k) && visB sc k && !(k == ("__debug__" : Str)) && !(k == ("__classdict__" : Str))) && decide (ns.length < 30) && (onTup u (fun es => ckXs c sc ns es) || ckXs c sc ns [u])
  | .comp own t it elt, x => onComp x fun e tg i ifs s => !c.hot && ifs.isEmpty && blkC c.N sc s (ownL c own) && t.is.all (fun k => own.contains k) && notSet i && ckT c (locB s) t tg && ckI c sc it tg i && ckE c (relS s sc) elt e
  | .compIf own t it d elt, x => onComp x fun e tg i ifs s => !c.hot && on1 ifs (fun u => tst d && ckE c (relS s sc) d u) && blkC c.N sc s (ownL c own) && t.is.all (fun k => own.contains k) && notSet i && ckT c (locB s) t tg && ckI c sc it tg i && ckE c (relS s sc) elt e
def ckEs (c : Ct) (sc : Scope) : Es → List Expr → Bool
  | .nil, l => l.isEmpty
  | .cons e r, l => match l with
    | x :: xs => ckE c sc e x && ckEs c sc r xs
    | [] => false
def ckI (c : Ct) (sc : Scope) : I → Expr → Expr → Bool
  | .exp e, _, x => ckE c sc e x
  | .keys e, _, x => ckE c sc e x
  | .lk _ e, _, x => ckE c sc e x
  | .rng1 a, _, x => onCall x fun n l => decide (n = "range") && glB sc n && on1 l fun y => plainE y && ckE c sc a y
  | .rng2 a b, _, x => onCall x fun n l => decide (n = "range") && glB sc n && on2 l fun y z => plainE y && plainE z && ckE c sc a y && ckE c sc b z
  | .rng3 a b d, _, x => onCall x fun n l => decide (n = "range") && glB sc n && on3 l fun y z u => plainE y && plainE z && plainE u && ckE c sc a y && ckE c sc b z && ckE c sc d u
  | .enum e, tg, x => onCall x fun n l => decide (n = "enumerate") && glB sc n && onTup tg (fun _ => true) && on1 l fun y => plainE y && ckE c sc e y
  | .zip a b, tg, x => onCall x fun n l => decide (n = "zip") && glB sc n && onTup tg (fun _ => true) && on2 l fun y z => plainE y && plainE z && ckE c sc a y && ckE c sc b z
  | .rev e, _, x => onCall x fun n l => decide (n = "reversed") && glB sc n && on1 l fun y => plainE y && ckE c sc e y
  | .revR e, _, x => onCall x fun n l => decide (n = "reversed") && glB sc n && on1 l fun y => onCall y fun n2 l2 => decide (n2 = "range") && glB sc n2 && on1 l2 fun z => plainE z && ckE c sc e z
end
structure Gd (c : Ct) (G : Gm) (sc : Scope) (X : Cx) (W : WX) : Prop where
  scp : X.env.scope = sc
  kind : sc.kind = .function
  N : X.N = c.N
  nd : c.N.Nodup
  calm : c.hot = false → X.calm = true
  tk : Takes X W
  un : X.A.units + 200 < cLine
  gd : c.hot = false → X.A.guards = some []
  bl : ∀ x ∈ bnames, X.mg x = none
  own : c.hot = false → ∀ f n, c.own f = some n → (∀ ds m, ds.length ≠ n → G f ds m = .bad) ∧ ∃ k fa fd ps, ps.length = n ∧ FG X.prog X.w X.K X.mg X.base k fa fd ps (spF X.prog X.w X.K X.mg ps.length (G f)) ∧ Room k X.A ∧ X.mg (c.gl f) = some (.ref fa) ∧ PySem.W.keepIn X.K (.ref fa) = true ∧ Binds X.K fd ps []
  cfa : ∀ k ∈ c.cls, Cls X.K (He.ga X.K k.name) ∧ ∀ f ∈ k.fl, NoAttr X.K (He.ga X.K k.name) f
  mth : c.hot = false → ∀ k ∈ c.cls, ∀ q ∈ k.ms, (∀ ds m, ds.length ≠ q.2.2 → G q.2.1 ds m = .bad) ∧ ∃ lv fa fd ps, ps.length = q.2.2 ∧ FG X.prog X.w X.K X.mg X.base lv fa fd ps (spF X.prog X.w X.K X.mg ps.length (G q.2.1)) ∧ Room lv X.A ∧ Meth X.K (He.ga X.K k.name) q.1 fa ∧ Binds X.K fd ps []
  new : c.hot = false → ∀ k ∈ c.cls, c.gl k.name = k.name ∧ X.mg k.name = some (.ref (He.ga X.K k.name)) ∧ PySem.W.keepIn X.K (.ref (He.ga X.K k.name)) = true ∧ ((∀ ds m, G k.name ds m = .bad) ∨ ∃ lv fa fd ps F, ps.length = k.np + 1 ∧ FG X.prog X.w X.K X.mg X.base lv fa fd ps (spF X.prog X.w X.K X.mg ps.length F) ∧ (∀ ds m, ds.length ≠ ps.length → F ds m = .bad) ∧ (∀ ds m, G k.name ds m = newM k.name F ds m) ∧ Room (lv + 1) X.A ∧ Mk X.K (He.ga X.K k.name) fa ∧ Binds X.K fd ps [])
  con : ∀ x d, c.con x d = true → ∃ v u, X.mg x = some u ∧ RelV v u ∧ ∀ H as, Rep X.K H as v d
  xfa : XFa X.K X.mg c.xn
  hotf : c.hot = true → HotX X G c.xn
def isLc : Expr → Bool | .ListComp .. => true | _ => false
def isBoolE : Expr → Bool | .BoolOp .. => true | _ => false
def LcParts (X : Cx) (W : WX) (x : Expr) (f : Env → M D) : Prop := ∃ (elt tg iter : Expr) (ifs : List Expr) (scope : Scope) (own : List (Str × Nat)) (pos : Pos) (wi : TI) (g : TG) (tt : TT) (te : TE), x = .ListComp elt [⟨tg, iter, ifs, 0⟩] scope pos ∧ PI X tg iter wi ∧ BlkOk X.N X.env.scope scope own ∧
  (∀ (s : Shared) (H : Hp) (C : Addr) (cl : List (Str × Addr)) (fp : List Addr), PG (X.blk s H scope (compEnvC scope cl C X.env) fp) tg g) ∧ (∀ (s : Shared) (H : Hp) (C : Addr) (cl : List (Str × Addr)) (fp : List Addr), PTs (X.blk s H scope (compEnvC scope cl C X.env) fp) ifs tt) ∧
  (∀ (s : Shared) (H : Hp) (C : Addr) (cl : List (Str × Addr)) (fp : List Addr), PE (X.blk s H scope (compEnvC scope cl C X.env) fp) elt te) ∧ (∀ v, foldedSetIterable iter X.env v = pure v) ∧ ∀ σ H Q, tE X W f σ H Q → tLc wi g tt te (own.map (·.2)) σ H Q
structure Snd (X : Cx) (W : WX) (x : Expr) (t : Bool) (f : Env → M D) : Prop where
  pe : PE X x (tE X W f)
  pt : t = true → PT X x (tTr X W f)
  pw : t = true → isBoolE x = true → PW X x (tTr X W f)
  lc : isLc x = true → LcParts X W x f
theorem Snd.val {X : Cx} {W : WX} {x : Expr} {t : Bool} {f : Env → M D} (h : PE X x (tE X W f)) (hp : plainT x = true) (hl : isLc x = false) : Snd X W x t f :=
  ⟨h, fun _ => t_val h (plainT_ok hp), fun _ hb => (by cases x <;> first | (cases hb; done) | (cases hp; done)), fun h => by rw [hl] at h; cases h⟩
section
variable {c : Ct} {G : Gm} {sc : Scope} {X : Cx} {W : WX}
theorem Gd.gl (g : Gd c G sc X W) {x : Str} (h : glB sc x = true) : Gl X x := glB_eq (by rw [g.scp]; exact h)
theorem Gd.blk (g : Gd c G sc X W) (hh : c.hot = false) {s : Shared} {H : Hp} {scope : Scope} {cl : List (Str × Addr)} {C : Addr} {fp : List Addr} (hk : scope.kind = .function) : Gd c G (relS scope sc) (X.blk s H scope (compEnvC scope cl C X.env) fp) noW :=
  ⟨by rw [← g.scp]; rfl, hk, g.N, g.nd, g.calm, takes_noW, g.un, g.gd, g.bl, g.own, g.cfa, g.mth, g.new, g.con, g.xfa, fun z => by rw [hh] at z; cases z⟩
theorem ckN_ok {lb : Str → Bool} {i : Nat} {x : Expr} (h : ckN c lb i x = true) (hN : X.N = c.N) (hlb : ∀ n, lb n = true → Loc X.env.scope n ∧ (X.fn n = true ∨ X.env.scope.names.lookup n = some .local)) :
    ∃ n pos, x = Expr.Name n pos ∧ X.N[i]? = some n ∧ Loc X.env.scope n ∧ (X.fn n = true ∨ X.env.scope.names.lookup n = some .local) := by
  have h : onName x (fun n => decide (c.N[i]? = some n) && lb n) = true := h
  obtain ⟨n, p, rfl, h⟩ := onName_eq h
  have h : (decide (c.N[i]? = some n) && lb n) = true := h
  rw [Bool.and_eq_true, decide_eq_true_eq] at h
  exact ⟨n, p, rfl, by rw [hN]; exact h.1, hlb n h.2⟩
theorem ckNs_ok {lb : Str → Bool} (hN : X.N = c.N) (hlb : ∀ n, lb n = true → Loc X.env.scope n ∧ (X.fn n = true ∨ X.env.scope.names.lookup n = some .local)) : ∀ {is : List Nat} {xs : List Expr}, ckNs c lb is xs = true →
    Paired (fun e i => ∃ n pos, e = Expr.Name n pos ∧ X.N[i]? = some n ∧ Loc X.env.scope n ∧ (X.fn n = true ∨ X.env.scope.names.lookup n = some .local)) xs is
  | [], [], _ => .nil
  | i :: is, x :: xs, h => by
    simp only [ckNs, Bool.and_eq_true] at h
    exact .cons (ckN_ok h.1 hN hlb) (ckNs_ok hN hlb h.2)
  | [], _ :: _, h => by cases h
  | _ :: _, [], h => by cases h
theorem ckT_ok {lb : Str → Bool} {t : T} {x : Expr} (h : ckT c lb t x = true) (hc : X.calm = true) (nd : c.N.Nodup) (hN : X.N = c.N) (hlb : ∀ n, lb n = true → Loc X.env.scope n ∧ (X.fn n = true ∨ X.env.scope.names.lookup n = some .local)) : PG X x (tG X t) := by
  cases t with
  | one i =>
    obtain ⟨n, p, rfl, h1, h2, h3⟩ := ckN_ok (X := X) h hN hlb
    exact g_one (by rw [hN]; exact nd) h1 h2 h3
  | many is =>
    obtain ⟨es, k, p, rfl, h⟩ := onTup_eq h
    exact g_many hc (by rw [hN]; exact nd) (ckNs_ok hN hlb h)
theorem const_ok {d : D} {k : Const} {j : Nat} {p : Pos} (h : constIs d k = true) : PE X (.Constant k j p) (tE X W fun _ => ret d) := by
  cases d <;> cases k <;> first | exact e_k pe_non (fun _ _ => .non) | (simp only [constIs, beq_iff_eq, decide_eq_true_eq] at h; subst h; first | exact e_k pe_bl (fun _ _ => .bl _) | exact e_k pe_int (fun _ _ => .int _) | exact e_k pe_str (fun _ _ => .str _)) | cases h
theorem ckXs_ok (g : Gd c G sc X W) : ∀ {ns : List Str} {xs : List Expr}, ckXs c sc ns xs = true → Paired (fun n e => ∃ p, e = Expr.Name n p ∧ (n ∈ c.xn ∨ n = "ValueError") ∧ Gl X n ∧ (n == ("__debug__" : Str)) = false) ns xs
  | [], [], _ => .nil
  | n :: ns, x :: xs, h => by
    simp only [ckXs, Bool.and_eq_true] at h
    obtain ⟨h1, h2⟩ := h
    replace h1 := onName_eq h1
    obtain ⟨m, p, rfl, h1⟩ := h1
    simp only [Bool.and_eq_true, decide_eq_true_eq, Bool.not_eq_true', Bool.or_eq_true, List.contains_iff_mem] at h1
    obtain ⟨⟨⟨rfl, h3⟩, h4⟩, h5⟩ := h1
    exact .cons ⟨p, rfl, h3, g.gl h4, h5⟩ (ckXs_ok g h2)
  | [], _ :: _, h => by cases h
  | _ :: _, [], h => by cases h
theorem lc_parts {elt tg iter : Expr} {s : Scope} {own : List Nat} {p : Pos} {fi : Env → M Src} {t : T} {fe : Env → M D} (g : Gd c G sc X W) (hh : c.hot = false) (hb : blkC c.N sc s (ownL c own) = true) (ho : (t.is.all fun k => own.contains k) = true) (hs : notSet iter = true) (ht : ckT c (locB s) t tg = true)
    (hi : PI X tg iter (tI X W fi)) (he : ∀ X W, Gd c G (relS s sc) X W → PE X elt (tE X W fe)) {tt : TT} {body : Env → D → M (Option D)} {ifs : List Expr} (htt : s.kind = .function → ∀ (s' : Shared) (H : Hp) (C : Addr) (cl : List (Str × Addr)) (fp : List Addr), PTs (X.blk s' H s (compEnvC s cl C X.env) fp) ifs tt)
    {f : Env → M D} (hf : f = fun ρ => bd (fi ρ) fun s => bd (loopC s.at_ (body ρ) s.items []) fun ds => alc (.lst ds))
    (hbad : ∀ ρ x m, asg t x (wipeD ρ own) = none → body ρ x m = .bad)
    (hbd : ∀ (σ2 : L2.St) (H2 : Hp) (as2 : List Addr) (m2 : Mu) (ρ : Env) (x : D) (Q : Option V → Hp → Prop) (ρ' : Env), Sl X.K H2 as2 σ2 ρ' → HRep X.prog X.w X.K as2 m2 H2 → asg t x (wipeD ρ own) = some ρ' →
      Vg X.prog X.w X.K X.mg (fun as H v d => (v = none ∧ d = none) ∨ ∃ v' d', v = some v' ∧ d = some d' ∧ Rep X.K H as v' d') as2 H2 (body ρ x m2) Q (fun _ _ _ => False) →
      tt σ2 H2 fun b H3 => if b = true then tE X noW fe σ2 H3 fun y H4 => Q (some y) H4 else Q none H3) : LcParts X W (.ListComp elt [⟨tg, iter, ifs, 0⟩] s p) f := by
  have hk : s.kind = .function := by
    have q := blkOk_by hb
    exact q.kind
  refine ⟨elt, tg, iter, ifs, s, ownL c own, p, tI X W fi, tG X t, tt, tE X noW fe, rfl, hi, by rw [g.N, g.scp]; exact blkOk_by hb, fun s' H C cl fp => ?_, htt hk, fun s' H C cl fp => he _ _ (g.blk hh hk), notSet_ok hs, fun σ H Q h => ?_⟩
  · refine ckT_ok (X := X.blk s' H s (compEnvC s cl C X.env) fp) ht (g.calm hh) g.nd g.N fun n hn => ?_
    have hn := locB_eq hn
    rcases hn with hn | hn
    · exact ⟨.inl (lookup_relS_keep (by decide) hn), .inr (lookup_relS_keep (by decide) hn)⟩
    · exact ⟨.inr (lookup_relS_keep (by decide) hn), .inl (by show (s.names.lookup n == some .cell) = true; rw [hn]; rfl)⟩
  · rw [ownL_ix]
    rw [hf] at h
    refine comp_ok (tg := tg) (iter := iter) (elt := elt) (body := body) (fun i hi => ?_) hbad hbd h
    have := List.all_eq_true.mp ho i hi
    simpa using this
theorem LcParts.pe {x : Expr} {f : Env → M D} (hc : X.calm = true) (hN : X.N.Nodup) (h : LcParts X W x f) : PE X x (tE X W f) := by
  obtain ⟨elt, tg, iter, ifs, s, own, p, wi, g, tt, te, rfl, hi, ok, hg, ht, he, hs, q⟩ := h
  exact PEimp (pe_lc hc hN hi ok hg ht he hs) q
theorem Snd.comp {elt tg iter : Expr} {ifs : List Expr} {s : Scope} {p : Pos} {t : Bool} {f : Env → M D} (g : Gd c G sc X W) (hh : c.hot = false) (h : LcParts X W (.ListComp elt [⟨tg, iter, ifs, 0⟩] s p) f) : Snd X W (.ListComp elt [⟨tg, iter, ifs, 0⟩] s p) t f :=
  ⟨h.pe (g.calm hh) (by rw [g.N]; exact g.nd), fun _ => t_val (h.pe (g.calm hh) (by rw [g.N]; exact g.nd)) (plainT_ok rfl), fun _ h => (by cases h), fun _ => h⟩
theorem body_bad {α : Type} {t : T} {x : D} {ρ : Env} {m : Mu} {f : Env → M α} (h : asg t x ρ = none) : bd (opt (asg t x ρ)) f m = .bad := by
  rw [h]
  rfl
mutual
theorem sE (c : Ct) (G : Gm) : ∀ (e : E) (x : Expr) (sc : Scope), ckE c sc e x = true → ∀ X W, Gd c G sc X W → Snd X W x (tst e) (ev G e)
  | .var i, x, sc, h, X, W, g => by
    rw [ckE] at h
    replace h := onName_eq h
    obtain ⟨n, p, rfl, h⟩ := h
    simp only [Bool.and_eq_true, decide_eq_true_eq, Bool.not_eq_true'] at h
    exact .val (e_var (by rw [g.N]; exact h.1.1.1) (by rw [g.scp]; exact visB_eq h.1.1.2) h.1.2 h.2) rfl rfl
  | .k d, x, sc, h, X, W, g => by
    rw [ckE] at h
    replace h := onConst_eq h
    obtain ⟨k, j, p, rfl, h⟩ := h
    exact .val (const_ok h) rfl rfl
  | .g n d, x, sc, h, X, W, g => by
    rw [ckE] at h
    replace h := onName_eq h
    obtain ⟨m, p, rfl, h⟩ := h
    simp only [Bool.and_eq_true, decide_eq_true_eq, Bool.not_eq_true'] at h
    obtain ⟨⟨⟨rfl, h2⟩, h3⟩, h4⟩ := h
    obtain ⟨v, u, e1, e2, e3⟩ := g.con _ _ h3
    exact .val (e_k (pe_glob (g.gl h2) e1 e2 h4) e3) rfl rfl
  | .bin o a b, x, sc, h, X, W, g => by
    rw [ckE] at h
    replace h := onBin_eq h
    obtain ⟨l, op, r, p, rfl, h⟩ := h
    simp only [Bool.and_eq_true, decide_eq_true_eq] at h
    obtain ⟨⟨rfl, h2⟩, h3⟩ := h
    exact .val (e_bin (sE c G a _ _ h2 _ _ g).pe (sE c G b _ _ h3 _ _ g).pe) rfl rfl
  | .neg a, x, sc, h, X, W, g => by
    rw [ckE] at h
    replace h := onUn_eq h
    obtain ⟨o, y, p, rfl, h⟩ := h
    simp only [Bool.and_eq_true, decide_eq_true_eq] at h
    obtain ⟨rfl, h2⟩ := h
    exact .val (e_neg (sE c G a _ _ h2 _ _ g).pe) rfl rfl
  | .not a, x, sc, h, X, W, g => by
    rw [ckE] at h
    replace h := onUn_eq h
    obtain ⟨o, y, p, rfl, h⟩ := h
    simp only [Bool.and_eq_true, decide_eq_true_eq] at h
    obtain ⟨rfl, h2⟩ := h
    have q := sE c G a _ _ h2 _ _ g
    exact ⟨e_not q.pe, fun t => t_not (q.pt t), fun _ h => (by cases h), fun h => by cases h⟩
  | .and a b, x, sc, h, X, W, g => by
    rw [ckE] at h
    replace h := onBool_eq h
    obtain ⟨o, l, r, rest, p, rfl, h⟩ := h
    simp only [Bool.and_eq_true, decide_eq_true_eq] at h
    obtain ⟨⟨rfl, h2⟩, h3⟩ := h
    have q := sE c G a _ _ h2 _ _ g
    have q2 := sE c G b _ _ h3 _ _ g
    have r1 : PE X (.BoolOp .And (r :: rest) p) (tE X W (ev G b)) := by
      cases rest with
      | nil => exact pe_one q2.pe
      | cons _ _ => exact q2.pe
    have r2 : tst b = true → PW X (.BoolOp .And (r :: rest) p) (tTr X W (ev G b)) := fun t => by
      cases rest with
      | nil => exact pw_and1 (q2.pt t)
      | cons _ _ => exact q2.pw t rfl
    have r3 : (tst a && tst b) = true → PW X (.BoolOp .And (l :: r :: rest) p) (tTr X W (ev G (.and a b))) := fun t => by
      simp only [Bool.and_eq_true] at t
      exact t_and (q.pt t.1) (r2 t.2)
    exact ⟨e_and q.pe r1, fun t => (r3 t).pt, fun t _ => r3 t, fun h => by cases h⟩
  | .or a b, x, sc, h, X, W, g => by
    rw [ckE] at h
    replace h := onBool_eq h
    obtain ⟨o, l, r, rest, p, rfl, h⟩ := h
    simp only [Bool.and_eq_true, decide_eq_true_eq] at h
    obtain ⟨⟨rfl, h2⟩, h3⟩ := h
    have q := sE c G a _ _ h2 _ _ g
    have q2 := sE c G b _ _ h3 _ _ g
    have r1 : PE X (.BoolOp .Or (r :: rest) p) (tE X W (ev G b)) := by
      cases rest with
      | nil => exact pe_one q2.pe
      | cons _ _ => exact q2.pe
    have r2 : tst b = true → PW X (.BoolOp .Or (r :: rest) p) (tTr X W (ev G b)) := fun t => by
      cases rest with
      | nil => exact pw_or1 (q2.pt t)
      | cons _ _ => exact q2.pw t rfl
    have r3 : (tst a && tst b) = true → PW X (.BoolOp .Or (l :: r :: rest) p) (tTr X W (ev G (.or a b))) := fun t => by
      simp only [Bool.and_eq_true] at t
      exact t_or (q.pt t.1) (r2 t.2)
    exact ⟨e_or q.pe r1, fun t => (r3 t).pt, fun t _ => r3 t, fun h => by cases h⟩
  | .cmp o a b, x, sc, h, X, W, g => by
    rw [ckE] at h
    replace h := onCmp_eq h
    obtain ⟨l, op, r, p, rfl, h⟩ := h
    simp only [Bool.and_eq_true, decide_eq_true_eq, Bool.not_eq_true'] at h
    obtain ⟨⟨⟨rfl, h1⟩, h2⟩, h3⟩ := h
    have q := (sE c G a _ _ h2 _ _ g).pe
    have q2 := (sE c G b _ _ h3 _ _ g).pe
    exact ⟨e_cmp (cmp_ok g.un o) q q2 h1, fun _ => t_cmp (cmp_ok g.un o) q q2 h1, fun _ h => (by cases h), fun h => by cases h⟩
  | .chn o o' a b d, x, sc, h, X, W, g => by
    rw [ckE] at h
    replace h := onChn_eq h
    obtain ⟨l, op, op', r, u, p, rfl, h⟩ := h
    simp only [Bool.and_eq_true, decide_eq_true_eq, Bool.not_eq_true'] at h
    obtain ⟨⟨⟨⟨⟨rfl, rfl⟩, h1⟩, h2⟩, h3⟩, h4⟩ := h
    have q := (sE c G a _ _ h2 _ _ g).pe
    have q2 := (sE c G b _ _ h3 _ _ g).pe
    have q3 := (sE c G d _ _ h4 _ _ g).pe
    exact ⟨e_chn (cmp_ok g.un o) (cmp_ok g.un o') q q2 q3 h1, fun _ => t_chn (cmp_ok g.un o) (cmp_ok g.un o') q q2 q3 h1, fun _ h => (by cases h), fun h => by cases h⟩
  | .ite d a b, x, sc, h, X, W, g => by
    rw [ckE] at h
    replace h := onIf_eq h
    obtain ⟨t, l, r, p, rfl, h⟩ := h
    simp only [Bool.and_eq_true] at h
    obtain ⟨⟨⟨h0, h1⟩, h2⟩, h3⟩ := h
    exact ⟨e_ite ((sE c G d _ _ h1 _ _ g).pt h0) (sE c G a _ _ h2 _ _ g).pe (sE c G b _ _ h3 _ _ g).pe, fun h => (by cases h), fun _ h => (by cases h), fun h => by cases h⟩
  | .tup es, x, sc, h, X, W, g => by
    rw [ckE] at h
    replace h := onTup_eq h
    obtain ⟨l, k, p, rfl, h⟩ := h
    simp only [Bool.and_eq_true] at h
    exact .val (e_tup (sEs c G es _ _ h.2 h.1 _ _ g)) rfl rfl
  | .lst es, x, sc, h, X, W, g => by
    rw [ckE] at h
    replace h := onLst_eq h
    obtain ⟨l, p, rfl, h⟩ := h
    simp only [Bool.and_eq_true] at h
    exact .val (e_lst (sEs c G es _ _ h.2 h.1 _ _ g)) rfl rfl
  | .dct, x, sc, h, X, W, g => by
    rw [ckE] at h
    obtain ⟨p, rfl⟩ := onDct_eq h
    exact .val e_dct rfl rfl
  | .mpd, x, sc, h, X, W, g => by
    rw [ckE] at h
    obtain ⟨p, rfl⟩ := onDct_eq h
    exact .val e_mpd rfl rfl
  | .ix a b, x, sc, h, X, W, g => by
    rw [ckE] at h
    replace h := onSub_eq h
    obtain ⟨l, i, p, rfl, h⟩ := h
    simp only [Bool.and_eq_true] at h
    exact .val (e_ix (f := ix_ok' g.un) (sE c G a _ _ h.1.2 _ _ g).pe (sE c G b _ _ h.2 _ _ g).pe (notSl_ix h.1.1)) rfl rfl
  | .slR a b, x, sc, h, X, W, g => by
    rw [ckE] at h
    replace h := onSub_eq h
    obtain ⟨l, i, p, rfl, h⟩ := h
    simp only [Bool.and_eq_true] at h
    obtain ⟨u, p2, rfl, h2⟩ := onSlR_eq h.2
    exact .val (e_slR (sE c G a _ _ h.1 _ _ g).pe (sE c G b _ _ h2 _ _ g).pe) rfl rfl
  | .sl a, x, sc, h, X, W, g => by
    rw [ckE] at h
    replace h := onSub_eq h
    obtain ⟨l, i, p, rfl, h⟩ := h
    simp only [Bool.and_eq_true] at h
    obtain ⟨p2, rfl⟩ := onSl0_eq h.1
    exact .val (e_sl (sE c G a _ _ h.2 _ _ g).pe) rfl rfl
  | .slL a b, x, sc, h, X, W, g => by
    rw [ckE] at h
    replace h := onSub_eq h
    obtain ⟨l, i, p, rfl, h⟩ := h
    simp only [Bool.and_eq_true] at h
    obtain ⟨u, p2, rfl, h2⟩ := onSlL_eq h.2
    exact .val (e_slL (sE c G a _ _ h.1 _ _ g).pe (sE c G b _ _ h2 _ _ g).pe) rfl rfl
  | .slU a b, x, sc, h, X, W, g => by
    rw [ckE] at h
    replace h := onSub_eq h
    obtain ⟨l, i, p, rfl, h⟩ := h
    simp only [Bool.and_eq_true] at h
    obtain ⟨u, p2, rfl, h2⟩ := onSlU_eq h.2
    exact .val (e_slU (sE c G a _ _ h.1 _ _ g).pe (sE c G b _ _ h2 _ _ g).pe) rfl rfl
  | .slB a b d, x, sc, h, X, W, g => by
    rw [ckE] at h
    replace h := onSub_eq h
    obtain ⟨l, i, p, rfl, h⟩ := h
    simp only [Bool.and_eq_true] at h
    obtain ⟨u, v, p2, rfl, h2⟩ := onSlB_eq h.2
    simp only [Bool.and_eq_true] at h2
    exact .val (e_slB (sE c G a _ _ h.1 _ _ g).pe (sE c G b _ _ h2.1 _ _ g).pe (sE c G d _ _ h2.2 _ _ g).pe) rfl rfl
  | .call f es, x, sc, h, X, W, g => by
    rw [ckE] at h
    replace h := onCall_eq h
    obtain ⟨n, p, l, q, rfl, h⟩ := h
    simp only [argsOk, Bool.and_eq_true, Bool.or_eq_true, decide_eq_true_eq, Bool.not_eq_true'] at h
    obtain ⟨⟨⟨⟨⟨⟨rfl, h1⟩, h2⟩, ⟨h3, _⟩⟩, h4⟩, h5⟩, hh⟩ := h
    refine .val ?_ rfl rfl
    have ha := sEs c G es _ _ h5 h3 _ _ g
    rcases h2 with h2 | h2
    · obtain ⟨hG, k, fa, fd, ps, hl, F, hr, hm, hk, hb⟩ := g.own hh _ _ h2
      cases l with
      | nil =>
        cases es with
        | cons _ _ => cases h5
        | nil =>
          have e : ps = [] := List.eq_nil_of_length_eq_zero hl
          subst e
          exact e_call0 F hr (g.gd hh) g.tk (g.gl h1) hm hk hb h4
      | cons y ys =>
        have h3' := h3
        simp only [List.all_cons, Bool.and_eq_true] at h3'
        exact e_call F (fun ds m hd => hG ds m (by rw [← hl]; exact hd)) hr (g.gd hh) g.tk (g.gl h1) hm hk hb ha h4 (starEach_c h3'.1) (star_any h3'.2)
    · obtain ⟨k, hk, h2⟩ := List.any_eq_true.mp h2
      simp only [Bool.and_eq_true, decide_eq_true_eq] at h2
      obtain ⟨rfl, hn⟩ := h2
      obtain ⟨e1, e2, e4, e3⟩ := g.new hh k hk
      rw [e1] at h1 h4 ⊢
      rcases e3 with e3 | ⟨lv, fa, fd, ps, F, hl, hF, hF0, hG, hr, M, hb⟩
      · have eb : ∀ ρ, (ev G (.call k.name es) ρ) = bd (evs G es ρ) (fun _ _ => .bad) := fun ρ => by
          rw [ev]
          congr 1
          funext ds m
          exact e3 ds m
        cases l with
        | nil =>
          cases es with
          | cons _ _ => cases h5
          | nil => exact ⟨fun pins s σ H Q I ⟨as, m, ρ, sl, hr0, v⟩ => (by rw [eb] at v; exact False.elim v)⟩
        | cons y ys =>
          have h3' := h3
          simp only [List.all_cons, Bool.and_eq_true] at h3'
          refine ⟨fun pins s σ H Q I ⟨as, m, ρ, sl, hr0, v⟩ => ?_⟩
          rw [eb] at v
          refine wpAny_Call_Name_kw (ld_glob I (g.gl h1) e2 ?_ h4)
          exact PySem.W.callWith_K (h₀ := X.base) I.ok.mod.kin e4 (thn (ha.run q pins s σ H _ I (tA_bd sl hr0 v)) fun us s1 ⟨vs, H1, I1, r, as1, m1, ds, sl1, hr1, k1, rs, v1⟩ => (show False from v1).elim) (starEach_c h3'.1) (star_any h3'.2)
      · have eG : ∀ ρ, (ev G (.call k.name es) ρ) = bd (evs G es ρ) (newM k.name F) := fun ρ => by
          rw [ev]
          congr 1
          funext ds m
          exact hG ds m
        have eF : (ev G (.call k.name es)) = fun ρ => bd (evs G es ρ) (newM k.name F) := funext eG
        rw [eF]
        cases l with
        | nil =>
          cases es with
          | cons _ _ => cases h5
          | nil =>
            have := e_new0 (p := p) (pos := q) (W := W) M hF hF0 hr (g.gd hh) g.tk hb (g.gl h1) e2 h4
            exact this
        | cons y ys =>
          have h3' := h3
          simp only [List.all_cons, Bool.and_eq_true] at h3'
          exact e_new M hF hF0 hr (g.gd hh) g.tk hb (g.gl h1) e2 ha h4 (starEach_c h3'.1) (star_any h3'.2)
  | .fld k f a, x, sc, h, X, W, g => by
    rw [ckE] at h
    replace h := onAttr_eq h
    obtain ⟨o, n, p, rfl, h⟩ := h
    simp only [Bool.and_eq_true, decide_eq_true_eq] at h
    obtain ⟨⟨⟨rfl, h1⟩, h2⟩, h3⟩ := h
    obtain ⟨i, hi, h1⟩ := List.any_eq_true.mp h1
    simp only [Bool.and_eq_true, decide_eq_true_eq, List.contains_iff_mem] at h1
    obtain ⟨rfl, h4⟩ := h1
    obtain ⟨q1, q2⟩ := g.cfa i hi
    exact .val (e_fld q1 (q2 _ h4) (sE c G a _ _ h3 _ _ g).pe (base_ok h2)) rfl rfl
  | .mcall k f gn o es, x, sc, h, X, W, g => by
    rw [ckE] at h
    replace h := onMeth_eq h
    obtain ⟨y, n, p, l, q, rfl, hl, h⟩ := h
    simp only [argsOk, Bool.and_eq_true, decide_eq_true_eq, Bool.not_eq_true'] at h
    obtain ⟨⟨⟨⟨⟨⟨rfl, h1⟩, h2⟩, h3⟩, ⟨h4, h5⟩⟩, h6⟩, hh⟩ := h
    obtain ⟨i, hi, h1⟩ := List.any_eq_true.mp h1
    simp only [Bool.and_eq_true, decide_eq_true_eq] at h1
    obtain ⟨e1, h1⟩ := h1
    obtain ⟨mq, hq, h1⟩ := List.any_eq_true.mp h1
    simp only [Bool.and_eq_true, decide_eq_true_eq] at h1
    obtain ⟨⟨e2, e3⟩, hn⟩ := h1
    subst e1
    subst e2
    subst e3
    obtain ⟨q1, q2⟩ := g.cfa i hi
    obtain ⟨hG, lv, fa, fd, ps, hps, F, hr, hm, hb⟩ := g.mth hh i hi mq hq
    have ha := sEs c G es _ _ h6 h4 _ _ g
    have ho := (sE c G o _ _ h3 _ _ g).pe
    cases l with
    | nil =>
      cases es with
      | cons _ _ => cases h6
      | nil => exact .val (e_mcall0 q1 hm F (fun ds m hd => hG ds m (by rw [← hps]; exact hd)) hr (g.gd hh) g.tk hb ho (base_ok h2) hl) rfl rfl
    | cons z zs => exact .val (e_mcall q1 hm F (fun ds m hd => hG ds m (by rw [← hps]; exact hd)) hr (g.gd hh) g.tk hb ho ha (base_ok h2) h4 h5 hl) rfl rfl
  | .bi f es, x, sc, h, X, W, g => by
    rw [ckE] at h
    replace h := onCall_eq h
    obtain ⟨n, p, l, q, rfl, h⟩ := h
    simp only [argsOk, Bool.and_eq_true, decide_eq_true_eq, Bool.not_eq_true', Bool.or_eq_true] at h
    obtain ⟨⟨⟨⟨⟨rfl, h1⟩, h2⟩, ⟨h3, _⟩⟩, h5⟩, hh⟩ := h
    have hh : coolB f = false → c.hot = false := fun z => hh.resolve_left (by rw [z]; exact Bool.false_ne_true)
    have ha := sEs c G es _ _ h5 h3 _ _ g
    cases l with
    | nil => cases h2
    | cons y ys =>
      have h3' := h3
      simp only [List.all_cons, Bool.and_eq_true] at h3'
      exact .val (e_bi (fun z => g.calm (hh z)) g.un (fun z => g.gd (hh z)) rfl (g.gl h1) (g.bl _ (by cases f <;> decide)) ha (starEach_c h3'.1) (star_any h3'.2)) rfl rfl
  | .isi t a, x, sc, h, X, W, g => by
    rw [ckE] at h
    replace h := onCall_eq h
    obtain ⟨n, p, l, q, rfl, h⟩ := h
    simp only [Bool.and_eq_true, decide_eq_true_eq] at h
    obtain ⟨⟨rfl, h1⟩, h2⟩ := h
    replace h2 := on2_eq h2
    obtain ⟨y, u, rfl, h2⟩ := h2
    simp only [Bool.and_eq_true] at h2
    obtain ⟨⟨h3, h4⟩, h5⟩ := h2
    replace h5 := onName_eq h5
    obtain ⟨m, p2, rfl, h6⟩ := h5
    simp only [Bool.and_eq_true, decide_eq_true_eq] at h6
    obtain ⟨rfl, h6⟩ := h6
    exact .val (e_isi (g.gl h1) (g.bl _ (by decide)) (g.gl h6) (g.bl _ (by cases t <;> decide)) (sE c G a _ _ h3 _ _ g).pe (starEach_c h4)) rfl rfl
  | .me f o es, x, sc, h, X, W, g => by
    rw [ckE] at h
    replace h := onMeth_eq h
    obtain ⟨y, n, p, l, q, rfl, hl, h⟩ := h
    simp only [argsOk, Bool.and_eq_true, decide_eq_true_eq] at h
    obtain ⟨⟨⟨⟨rfl, h1⟩, h2⟩, ⟨h3, h4⟩⟩, h5⟩ := h
    have ha := sEs c G es _ _ h5 h3 _ _ g
    have ho := (sE c G o _ _ h2 _ _ g).pe
    cases l with
    | nil =>
      cases es with
      | cons _ _ => cases h5
      | nil => exact .val (e_me0 g.un ho h1 hl) rfl rfl
    | cons z zs => exact .val (e_me g.un ho ha h1 h3 h4 hl) rfl rfl
  | .lrng1 t a, x, sc, h, X, W, g => by
    rw [ckE] at h
    replace h := onCall_eq h
    obtain ⟨n, p, l, q, rfl, h⟩ := h
    simp only [Bool.and_eq_true, decide_eq_true_eq] at h
    obtain ⟨⟨rfl, h1⟩, h2⟩ := h
    replace h2 := on1_eq h2
    obtain ⟨y, rfl, h2⟩ := h2
    replace h2 := onCall_eq h2
    obtain ⟨m, p2, l2, q2, rfl, h2⟩ := h2
    simp only [Bool.and_eq_true, decide_eq_true_eq] at h2
    obtain ⟨⟨rfl, h3⟩, h4⟩ := h2
    replace h4 := on1_eq h4
    obtain ⟨z, rfl, h4⟩ := h4
    simp only [Bool.and_eq_true, Bool.not_eq_true'] at h4
    exact .val (e_lrng1 (t := t) (g.calm h4.2) (g.gl h3) (g.bl _ (by decide)) (g.gl h1) (g.bl _ (by cases t <;> decide)) (sE c G a _ _ h4.1.2 _ _ g).pe h4.1.1) rfl rfl
  | .lrng2 t a b, x, sc, h, X, W, g => by
    rw [ckE] at h
    replace h := onCall_eq h
    obtain ⟨n, p, l, q, rfl, h⟩ := h
    simp only [Bool.and_eq_true, decide_eq_true_eq] at h
    obtain ⟨⟨rfl, h1⟩, h2⟩ := h
    replace h2 := on1_eq h2
    obtain ⟨y, rfl, h2⟩ := h2
    replace h2 := onCall_eq h2
    obtain ⟨m, p2, l2, q2, rfl, h2⟩ := h2
    simp only [Bool.and_eq_true, decide_eq_true_eq] at h2
    obtain ⟨⟨rfl, h3⟩, h4⟩ := h2
    replace h4 := on2_eq h4
    obtain ⟨z, u, rfl, h4⟩ := h4
    simp only [Bool.and_eq_true, Bool.not_eq_true'] at h4
    obtain ⟨h4, hh⟩ := h4
    exact .val (e_lrng2 (t := t) (g.calm hh) (g.gl h3) (g.bl _ (by decide)) (g.gl h1) (g.bl _ (by cases t <;> decide)) (sE c G a _ _ h4.1.2 _ _ g).pe (sE c G b _ _ h4.2 _ _ g).pe h4.1.1.1 h4.1.1.2) rfl rfl
  | .sset a, x, sc, h, X, W, g => by
    rw [ckE] at h
    replace h := onCall_eq h
    obtain ⟨n, p, l, q, rfl, h⟩ := h
    simp only [Bool.and_eq_true, decide_eq_true_eq] at h
    obtain ⟨⟨rfl, h1⟩, h2⟩ := h
    replace h2 := on1_eq h2
    obtain ⟨y, rfl, h2⟩ := h2
    replace h2 := onCall_eq h2
    obtain ⟨m, p2, l2, q2, rfl, h2⟩ := h2
    simp only [Bool.and_eq_true, decide_eq_true_eq] at h2
    obtain ⟨⟨rfl, h3⟩, h4⟩ := h2
    replace h4 := on1_eq h4
    obtain ⟨z, rfl, h4⟩ := h4
    simp only [Bool.and_eq_true, Bool.not_eq_true'] at h4
    exact .val (e_sset (g.calm h4.2) (g.gl h1) (g.bl _ (by decide)) (g.gl h3) (g.bl _ (by decide)) (sE c G a _ _ h4.1.2 _ _ g).pe h4.1.1) rfl rfl
  | .any, x, sc, h, X, W, g => by
    rw [ckE] at h
    exact ⟨by rw [show (ev G .any) = fun _ => nope from funext fun ρ => by rw [ev]]; exact e_any, fun z => (by cases z), fun z => (by cases z), fun z => (by
      cases x <;> first | (cases z; done) | (cases h; done))⟩
  | .sabs a, x, sc, h, X, W, g => by
    rw [ckE] at h
    replace h := onSortK_eq h
    obtain ⟨n, p, y, k, f, q, kp, pos, rfl, h⟩ := h
    simp only [Bool.and_eq_true, decide_eq_true_eq] at h
    obtain ⟨⟨⟨⟨⟨⟨rfl, rfl⟩, rfl⟩, h1⟩, h2⟩, h3⟩, h4⟩ := h
    exact .val (e_sabs g.un (g.gl h1) (g.bl _ (by decide)) (g.gl h2) (g.bl _ (by decide)) (sE c G a _ _ h4 _ _ g).pe h3) rfl rfl
  | .dzip k a b, x, sc, h, X, W, g => by
    rw [ckE] at h
    replace h := onCall_eq h
    obtain ⟨n, p, l, q, rfl, h⟩ := h
    simp only [Bool.and_eq_true, decide_eq_true_eq] at h
    obtain ⟨⟨rfl, h1⟩, h2⟩ := h
    replace h2 := on1_eq h2
    obtain ⟨y, rfl, h2⟩ := h2
    replace h2 := onCall_eq h2
    obtain ⟨n2, p2, l2, q2, rfl, h2⟩ := h2
    simp only [Bool.and_eq_true, decide_eq_true_eq] at h2
    obtain ⟨⟨rfl, h3⟩, h4⟩ := h2
    replace h4 := on2_eq h4
    obtain ⟨z, u, rfl, h4⟩ := h4
    simp only [Bool.and_eq_true, Bool.not_eq_true'] at h4
    obtain ⟨⟨⟨⟨h5, h6⟩, h7⟩, h8⟩, hh⟩ := h4
    exact .val (e_dzip (g.calm hh) g.un (g.gl h1) (g.bl _ (by decide)) (g.gl h3) (g.bl _ (by decide)) (sE c G a _ _ h7 _ _ g).pe (sE c G b _ _ h8 _ _ g).pe h5 h6) rfl rfl
  | .sabsK a, x, sc, h, X, W, g => by
    rw [ckE] at h
    replace h := onSortK_eq h
    obtain ⟨n, p, y, k, f, q, kp, pos, rfl, h⟩ := h
    simp only [Bool.and_eq_true, decide_eq_true_eq, Bool.not_eq_true'] at h
    obtain ⟨⟨⟨⟨⟨⟨⟨rfl, rfl⟩, rfl⟩, h1⟩, h2⟩, h3⟩, hh⟩, h4⟩ := h
    exact .val (e_sabsK (g.calm hh) g.un (g.gl h1) (g.bl _ (by decide)) (g.gl h2) (g.bl _ (by decide)) (sE c G a _ _ h4 _ _ g).pe h3) rfl rfl
  | .slen a, x, sc, h, X, W, g => by
    rw [ckE] at h
    replace h := onSortK_eq h
    obtain ⟨n, p, y, k, f, q, kp, pos, rfl, h⟩ := h
    simp only [Bool.and_eq_true, decide_eq_true_eq] at h
    obtain ⟨⟨⟨⟨⟨⟨rfl, rfl⟩, rfl⟩, h1⟩, h2⟩, h3⟩, h4⟩ := h
    exact .val (e_slen g.un (g.gl h1) (g.bl _ (by decide)) (g.gl h2) (g.bl _ (by decide)) (sE c G a _ _ h4 _ _ g).pe h3) rfl rfl
  | .lvals a, x, sc, h, X, W, g => by
    rw [ckE] at h
    replace h := onCall_eq h
    obtain ⟨n, p, l, q, rfl, h⟩ := h
    simp only [Bool.and_eq_true, decide_eq_true_eq, Bool.not_eq_true'] at h
    obtain ⟨⟨⟨rfl, h1⟩, hh⟩, h2⟩ := h
    replace h2 := on1_eq h2
    obtain ⟨y, rfl, h2⟩ := h2
    replace h2 := onMeth_eq h2
    obtain ⟨z, v, p2, es, q2, rfl, hl, h2⟩ := h2
    simp only [Bool.and_eq_true, decide_eq_true_eq, List.isEmpty_iff] at h2
    obtain ⟨⟨⟨rfl, rfl⟩, h3⟩, h4⟩ := h2
    exact .val (e_lvals (g.calm hh) (g.gl h1) (g.bl _ (by decide)) (sE c G a _ _ h4 _ _ g).pe (base_ok h3) hl) rfl rfl
  | .ixK a b, x, sc, h, X, W, g => by
    rw [ckE] at h
    replace h := onSub_eq h
    obtain ⟨l, i, p, rfl, h⟩ := h
    simp only [Bool.and_eq_true] at h
    exact .val (e_ixK g.un (sE c G a _ _ h.1.2 _ _ g).pe (sE c G b _ _ h.2 _ _ g).pe (notSl_ix h.1.1)) rfl rfl
  | .hasK a b, x, sc, h, X, W, g => by
    rw [ckE] at h
    replace h := onCmp_eq h
    obtain ⟨l, op, r, p, rfl, h⟩ := h
    simp only [Bool.and_eq_true, decide_eq_true_eq, Bool.not_eq_true'] at h
    obtain ⟨⟨⟨rfl, h1⟩, h2⟩, h3⟩ := h
    have q := (sE c G a _ _ h2 _ _ g).pe
    have q2 := (sE c G b _ _ h3 _ _ g).pe
    exact ⟨e_hasK g.un q q2 h1, fun _ => t_hasK g.un q q2 h1, fun _ h => (by cases h), fun h => by cases h⟩
  | .getK o k z, x, sc, h, X, W, g => by
    rw [ckE] at h
    replace h := onMeth_eq h
    obtain ⟨y, n, p, l, q, rfl, hl, h⟩ := h
    simp only [Bool.and_eq_true, decide_eq_true_eq] at h
    obtain ⟨⟨⟨rfl, h1⟩, h2⟩, h3⟩ := h
    replace h3 := on2_eq h3
    obtain ⟨u, v, rfl, h3⟩ := h3
    simp only [Bool.and_eq_true] at h3
    obtain ⟨⟨⟨h4, h5⟩, h6⟩, h7⟩ := h3
    exact .val (e_getK g.un (sE c G o _ _ h2 _ _ g).pe (sE c G k _ _ h6 _ _ g).pe (sE c G z _ _ h7 _ _ g).pe h1 h4 h5 hl) rfl rfl
  | .isx i ns, x, sc, h, X, W, g => by
    rw [ckE] at h
    replace h := onCall_eq h
    obtain ⟨n, p, l, q, rfl, h⟩ := h
    simp only [Bool.and_eq_true, decide_eq_true_eq] at h
    obtain ⟨⟨⟨rfl, h1⟩, hh⟩, h2⟩ := h
    replace h2 := on2_eq h2
    obtain ⟨y, u, rfl, h2⟩ := h2
    simp only [Bool.and_eq_true, decide_eq_true_eq, Bool.or_eq_true] at h2
    obtain ⟨⟨h3, h4⟩, h5⟩ := h2
    replace h3 := onName_eq h3
    obtain ⟨k, p2, rfl, h3⟩ := h3
    simp only [Bool.and_eq_true, decide_eq_true_eq, Bool.not_eq_true'] at h3
    obtain ⟨⟨⟨h6, h7⟩, h8⟩, h9⟩ := h3
    have hv : Vis X.env.scope k := by rw [g.scp]; exact visB_eq h7
    rcases h5 with h5 | h5
    · replace h5 := onTup_eq h5
      obtain ⟨es, kk, p3, rfl, h5⟩ := h5
      exact .val (e_isxT (g.hotf hh) g.xfa (by rw [g.N]; exact h6) hv h8 h9 (g.gl h1) (g.bl _ (by decide)) (Nat.le_trans (Nat.le_of_lt h4) (by decide)) (ckXs_ok g h5)) rfl rfl
    · cases ns with
      | nil => cases h5
      | cons m ns =>
        cases ns with
        | cons _ _ =>
          simp only [ckXs, Bool.and_eq_true] at h5
          cases h5.2
        | nil =>
          cases ckXs_ok g h5 with
          | cons z _ =>
            obtain ⟨p3, rfl, z1, z2, z3⟩ := z
            exact .val (e_isx1 (g.hotf hh) g.xfa (by rw [g.N]; exact h6) hv h8 h9 (g.gl h1) (g.bl _ (by decide)) z1 z2 z3) rfl rfl
  | .comp own t it elt, x, sc, h, X, W, g => by
    rw [ckE] at h
    replace h := onComp_eq h
    obtain ⟨e, tg, i, ifs, s, p, rfl, h⟩ := h
    simp only [Bool.and_eq_true, List.isEmpty_iff, Bool.not_eq_true'] at h
    obtain ⟨⟨⟨⟨⟨⟨⟨hh, rfl⟩, h1⟩, h2⟩, h3⟩, h4⟩, h5⟩, h6⟩ := h
    refine .comp g hh (lc_parts (body := fun ρ x => bd (opt (asg t x (wipeD ρ own))) fun ρ' => bd (ev G elt ρ') fun d => ret (some d)) (fe := ev G elt) (tt := tYes) g hh h1 h2 h3 h4 (sI c G it _ _ _ h5 _ _ g) (fun X W g => (sE c G elt _ _ h6 _ _ g).pe) (fun _ _ _ _ _ _ => pts_nil) rfl (fun ρ x m e => body_bad e) ?_)
    intro σ2 H2 as2 m2 ρ x Q ρ' sl hr ea v
    rw [ea] at v
    exact ⟨as2, m2, ρ', sl, hr, (Vg.bd (R := RD X.K) v).mono fun y H1 ⟨as1, m1, d, k, hr1, rd, v1⟩ => Vg.ret (b := some y) v1 hr1 (.inr ⟨_, _, rfl, rfl, rd⟩)⟩
  | .compIf own t it d elt, x, sc, h, X, W, g => by
    rw [ckE] at h
    replace h := onComp_eq h
    obtain ⟨e, tg, i, ifs, s, p, rfl, h⟩ := h
    simp only [Bool.and_eq_true, Bool.not_eq_true'] at h
    obtain ⟨⟨⟨⟨⟨⟨⟨hh, h0⟩, h1⟩, h2⟩, h3⟩, h4⟩, h5⟩, h6⟩ := h
    replace h0 := on1_eq h0
    obtain ⟨u, rfl, h0⟩ := h0
    simp only [Bool.and_eq_true] at h0
    refine .comp g hh (lc_parts (body := fun ρ x => bd (opt (asg t x (wipeD ρ own))) fun ρ' => bd (ev G d ρ') fun y => bd (tru y) fun b => if b then bd (ev G elt ρ') fun d => ret (some d) else ret none) (fe := ev G elt) (tt := tTr X noW (ev G d)) g hh h1 h2 h3 h4 (sI c G it _ _ _ h5 _ _ g) (fun X W g => (sE c G elt _ _ h6 _ _ g).pe) (fun hk _ _ _ _ _ => pts_one ((sE c G d _ _ h0.2 _ _ (g.blk hh hk)).pt h0.1)) rfl (fun ρ x m e => body_bad e) ?_)
    intro σ2 H2 as2 m2 ρ x Q ρ' sl hr ea v
    rw [ea] at v
    have v : Vg X.prog X.w X.K X.mg (fun as H v d => (v = none ∧ d = none) ∨ ∃ v' d', v = some v' ∧ d = some d' ∧ Rep X.K H as v' d') as2 H2 ((bd (ev G d ρ') fun y => bd (tru y) fun b => if b then bd (ev G elt ρ') fun d => ret (some d) else ret none) m2) Q (fun _ _ _ => False) := v
    rw [← bd_assoc] at v
    refine tT_mono (tT_bd (X := X) (W := noW) (ft := fun ρ => bd (ev G d ρ) tru) sl hr v) fun k H3 ⟨as1, m1, sl1, hr1, k1, v1⟩ => ?_
    cases k with
    | true => exact ⟨as1, m1, ρ', sl1, hr1, (Vg.bd (R := RD X.K) v1).mono fun y H1 ⟨as3, m3, d, k, hr3, rd, v3⟩ => Vg.ret (b := some y) v3 hr3 (.inr ⟨_, _, rfl, rfl, rd⟩)⟩
    | false => exact Vg.ret (b := none) v1 hr1 (.inl ⟨rfl, rfl⟩)
theorem sEs (c : Ct) (G : Gm) : ∀ (es : Es) (l : List Expr) (sc : Scope), ckEs c sc es l = true → l.all plainE = true → ∀ X W, Gd c G sc X W → PA X l (tA X W (evs G es))
  | .nil, l, sc, h, hp, X, W, g => by
    have e : l = [] := by simpa [ckEs] using h
    subst e
    exact a_nil
  | .cons e r, l, sc, h, hp, X, W, g => by
    cases l with
    | nil => cases h
    | cons x xs =>
      simp only [ckEs, Bool.and_eq_true] at h
      simp only [List.all_cons, Bool.and_eq_true] at hp
      exact a_cons (sE c G e _ _ h.1 _ _ g).pe (sEs c G r _ _ h.2 hp.2 _ _ g) (starEach_c hp.1)
theorem sI (c : Ct) (G : Gm) : ∀ (i : I) (tg x : Expr) (sc : Scope), ckI c sc i tg x = true → ∀ X W, Gd c G sc X W → PI X tg x (tI X W (evI G i))
  | .exp e, tg, x, sc, h, X, W, g => by
    rw [ckI] at h
    exact i_exp (sE c G e _ _ h _ _ g).pe
  | .keys e, tg, x, sc, h, X, W, g => by
    rw [ckI] at h
    exact i_keys (sE c G e _ _ h _ _ g).pe
  | .lk i e, tg, x, sc, h, X, W, g => by
    rw [ckI] at h
    exact i_exp (e_lk (sE c G e _ _ h _ _ g).pe)
  | .rng1 a, tg, x, sc, h, X, W, g => by
    rw [ckI] at h
    replace h := onCall_eq h
    obtain ⟨n, p, l, q, rfl, h⟩ := h
    simp only [Bool.and_eq_true, decide_eq_true_eq] at h
    obtain ⟨⟨rfl, h1⟩, h2⟩ := h
    replace h2 := on1_eq h2
    obtain ⟨y, rfl, h2⟩ := h2
    simp only [Bool.and_eq_true] at h2
    exact i_rng1 (g.gl h1) (g.bl _ (by decide)) (sE c G a _ _ h2.2 _ _ g).pe (starEach_c h2.1)
  | .rng2 a b, tg, x, sc, h, X, W, g => by
    rw [ckI] at h
    replace h := onCall_eq h
    obtain ⟨n, p, l, q, rfl, h⟩ := h
    simp only [Bool.and_eq_true, decide_eq_true_eq] at h
    obtain ⟨⟨rfl, h1⟩, h2⟩ := h
    replace h2 := on2_eq h2
    obtain ⟨y, z, rfl, h2⟩ := h2
    simp only [Bool.and_eq_true] at h2
    exact i_rng2 (g.gl h1) (g.bl _ (by decide)) (sE c G a _ _ h2.1.2 _ _ g).pe (sE c G b _ _ h2.2 _ _ g).pe ((starEach_c h2.1.1.1).trans (by rw [starEach_c h2.1.1.2]; rfl)) (starEach_c h2.1.1.2)
  | .rng3 a b d, tg, x, sc, h, X, W, g => by
    rw [ckI] at h
    replace h := onCall_eq h
    obtain ⟨n, p, l, q, rfl, h⟩ := h
    simp only [Bool.and_eq_true, decide_eq_true_eq] at h
    obtain ⟨⟨rfl, h1⟩, h2⟩ := h
    replace h2 := on3_eq h2
    obtain ⟨y, z, u, rfl, h2⟩ := h2
    simp only [Bool.and_eq_true] at h2
    obtain ⟨⟨⟨⟨⟨p1, p2⟩, p3⟩, h3⟩, h4⟩, h5⟩ := h2
    exact i_rng3 (g.gl h1) (g.bl _ (by decide)) (sE c G a _ _ h3 _ _ g).pe (sE c G b _ _ h4 _ _ g).pe (sE c G d _ _ h5 _ _ g).pe ((starEach_c p1).trans (by rw [starEach_c p2, starEach_c p3]; rfl)) ((starEach_c p2).trans (by rw [starEach_c p3]; rfl)) (starEach_c p3)
  | .enum e, tg, x, sc, h, X, W, g => by
    rw [ckI] at h
    replace h := onCall_eq h
    obtain ⟨n, p, l, q, rfl, h⟩ := h
    simp only [Bool.and_eq_true, decide_eq_true_eq] at h
    obtain ⟨⟨⟨rfl, h1⟩, h0⟩, h2⟩ := h
    replace h0 := onTup_eq h0
    obtain ⟨es, k, p2, rfl, _⟩ := h0
    replace h2 := on1_eq h2
    obtain ⟨y, rfl, h2⟩ := h2
    simp only [Bool.and_eq_true] at h2
    exact i_enum (g.gl h1) (g.bl _ (by decide)) (sE c G e _ _ h2.2 _ _ g).pe (starEach_c h2.1)
  | .zip a b, tg, x, sc, h, X, W, g => by
    rw [ckI] at h
    replace h := onCall_eq h
    obtain ⟨n, p, l, q, rfl, h⟩ := h
    simp only [Bool.and_eq_true, decide_eq_true_eq] at h
    obtain ⟨⟨⟨rfl, h1⟩, h0⟩, h2⟩ := h
    replace h0 := onTup_eq h0
    obtain ⟨es, k, p2, rfl, _⟩ := h0
    replace h2 := on2_eq h2
    obtain ⟨y, z, rfl, h2⟩ := h2
    simp only [Bool.and_eq_true] at h2
    exact i_zip (g.gl h1) (g.bl _ (by decide)) (sE c G a _ _ h2.1.2 _ _ g).pe (sE c G b _ _ h2.2 _ _ g).pe ((starEach_c h2.1.1.1).trans (by rw [starEach_c h2.1.1.2]; rfl)) (starEach_c h2.1.1.2)
  | .revR e, tg, x, sc, h, X, W, g => by
    rw [ckI] at h
    replace h := onCall_eq h
    obtain ⟨n, p, l, q, rfl, h⟩ := h
    simp only [Bool.and_eq_true, decide_eq_true_eq] at h
    obtain ⟨⟨rfl, h1⟩, h2⟩ := h
    replace h2 := on1_eq h2
    obtain ⟨y, rfl, h2⟩ := h2
    replace h2 := onCall_eq h2
    obtain ⟨n2, p2, l2, q2, rfl, h2⟩ := h2
    simp only [Bool.and_eq_true, decide_eq_true_eq] at h2
    obtain ⟨⟨rfl, h3⟩, h4⟩ := h2
    replace h4 := on1_eq h4
    obtain ⟨z, rfl, h4⟩ := h4
    simp only [Bool.and_eq_true] at h4
    exact i_revR (g.gl h1) (g.bl _ (by decide)) (g.gl h3) (g.bl _ (by decide)) (sE c G e _ _ h4.2 _ _ g).pe (starEach_c h4.1)
  | .rev e, tg, x, sc, h, X, W, g => by
    rw [ckI] at h
    replace h := onCall_eq h
    obtain ⟨n, p, l, q, rfl, h⟩ := h
    simp only [Bool.and_eq_true, decide_eq_true_eq] at h
    obtain ⟨⟨rfl, h1⟩, h2⟩ := h
    replace h2 := on1_eq h2
    obtain ⟨y, rfl, h2⟩ := h2
    simp only [Bool.and_eq_true] at h2
    exact i_rev (g.gl h1) (g.bl _ (by decide)) (sE c G e _ _ h2.2 _ _ g).pe (starEach_c h2.1)
end
end
end Af
namespace Af
open PySem PySem.Spec PyProof.Rows L2
def onAsg (x : Stmt) (f : Expr → Expr → Bool) : Bool := match x with | .Assign [t] e _ => f t e | _ => false
theorem onAsg_eq {x : Stmt} {f} (h : onAsg x f = true) : ∃ t e p, x = .Assign [t] e p ∧ f t e = true := by
  unfold onAsg at h
  split at h
  · exact ⟨_, _, _, rfl, h⟩
  · cases h
def onExS (x : Stmt) (f : Expr → Bool) : Bool := match x with | .Expr e _ => f e | _ => false
theorem onExS_eq {x : Stmt} {f} (h : onExS x f = true) : ∃ e p, x = .Expr e p ∧ f e = true := by cases x <;> first | exact ⟨_, _, rfl, h⟩ | cases h
def onRet (x : Stmt) (f : Expr → Bool) : Bool := match x with | .Return (some e) _ => f e | _ => false
theorem onRet_eq {x : Stmt} {f} (h : onRet x f = true) : ∃ e p, x = .Return (some e) p ∧ f e = true := by
  unfold onRet at h
  split at h
  · exact ⟨_, _, rfl, h⟩
  · cases h
def isRet0 (x : Stmt) : Bool := match x with | .Return none _ => true | _ => false
theorem isRet0_eq {x : Stmt} (h : isRet0 x = true) : ∃ p, x = .Return none p := by
  unfold isRet0 at h
  split at h
  · exact ⟨_, rfl⟩
  · cases h
def onIfS (x : Stmt) (f : Expr → List Stmt → List Stmt → Bool) : Bool := match x with | .If e a b _ => f e a b | _ => false
theorem onIfS_eq {x : Stmt} {f} (h : onIfS x f = true) : ∃ e a b p, x = .If e a b p ∧ f e a b = true := by cases x <;> first | exact ⟨_, _, _, _, rfl, h⟩ | cases h
def onFor (x : Stmt) (f : Expr → Expr → List Stmt → Bool) : Bool := match x with | .For t i b [] _ => f t i b | _ => false
theorem onFor_eq {x : Stmt} {f} (h : onFor x f = true) : ∃ t i b p, x = .For t i b [] p ∧ f t i b = true := by
  unfold onFor at h
  split at h
  · exact ⟨_, _, _, _, rfl, h⟩
  · cases h
def onWhile (x : Stmt) (f : Expr → List Stmt → Bool) : Bool := match x with | .While t b [] _ => f t b | _ => false
theorem onWhile_eq {x : Stmt} {f} (h : onWhile x f = true) : ∃ t b p, x = .While t b [] p ∧ f t b = true := by
  unfold onWhile at h
  split at h
  · exact ⟨_, _, _, rfl, h⟩
  · cases h
def onRaise (x : Stmt) (f : Str → Bool) : Bool := match x with | .Raise (some (.Call (.Name n _) [.Constant (.str _) _ _] [] _)) none _ => f n | _ => false
theorem onRaise_eq {x : Stmt} {f} (h : onRaise x f = true) : ∃ n p m j p2 q pos, x = .Raise (some (.Call (.Name n p) [.Constant (.str m) j p2] [] q)) none pos ∧ f n = true := by
  unfold onRaise at h
  split at h
  · exact ⟨_, _, _, _, _, _, _, rfl, h⟩
  · cases h
def onTry (x : Stmt) (f : List Stmt → Str → Str → List Stmt → Bool) : Bool := match x with | .Try b [.ExceptHandler (some (.Name c _)) (some n) s _] [] [] _ => f b c n s | _ => false
theorem onTry_eq {x : Stmt} {f} (h : onTry x f = true) : ∃ b c p n s q pos, x = .Try b [.ExceptHandler (some (.Name c p)) (some n) s q] [] [] pos ∧ f b c n s = true := by
  unfold onTry at h
  split at h
  · exact ⟨_, _, _, _, _, _, _, rfl, h⟩
  · cases h
def onTry1 (x : Stmt) (f : List Stmt → Str → List Stmt → Bool) : Bool := match x with | .Try b [.ExceptHandler (some (.Name c _)) none s _] [] [] _ => f b c s | _ => false
theorem onTry1_eq {x : Stmt} {f} (h : onTry1 x f = true) : ∃ b c p s q pos, x = .Try b [.ExceptHandler (some (.Name c p)) none s q] [] [] pos ∧ f b c s = true := by
  unfold onTry1 at h
  split at h
  · exact ⟨_, _, _, _, _, _, rfl, h⟩
  · cases h
def onTry2 (x : Stmt) (f : List Stmt → Str → List Stmt → Str → List Stmt → Bool) : Bool := match x with | .Try b [.ExceptHandler (some (.Name c _)) none s _, .ExceptHandler (some (.Name d _)) none r _] [] [] _ => f b c s d r | _ => false
theorem onTry2_eq {x : Stmt} {f} (h : onTry2 x f = true) : ∃ b c p s q d p2 r q2 pos, x = .Try b [.ExceptHandler (some (.Name c p)) none s q, .ExceptHandler (some (.Name d p2)) none r q2] [] [] pos ∧ f b c s d r = true := by
  unfold onTry2 at h
  split at h
  · exact ⟨_, _, _, _, _, _, _, _, _, _, rfl, h⟩
  · cases h
def lclB (sc : Scope) (x : Str) : Bool := match sc.names.lookup x with | some .local => true | _ => false
theorem lclB_eq {sc : Scope} {x : Str} (h : lclB sc x = true) : sc.names.lookup x = some .local := by
  unfold lclB at h
  split at h
  · assumption
  · cases h
def isPass (x : Stmt) : Bool := match x with | .Pass _ => true | .Expr (.Constant (.str _) _ _) _ => true | _ => false
def isBrk (x : Stmt) : Bool := match x with | .Break _ => true | _ => false
theorem isBrk_eq {x : Stmt} (h : isBrk x = true) : ∃ p, x = .Break p := by cases x <;> first | exact ⟨_, rfl⟩ | cases h
def isCtn (x : Stmt) : Bool := match x with | .Continue _ => true | _ => false
theorem isCtn_eq {x : Stmt} (h : isCtn x = true) : ∃ p, x = .Continue p := by cases x <;> first | exact ⟨_, rfl⟩ | cases h
def notCo : Expr → Bool | .ListComp .. => false | .SetComp .. => false | .DictComp .. => false | _ => true
theorem notCo_ok {x : Expr} {t : Option Expr} {l : Nat} {env : PySem.Env} (h : notCo x = true) : swapsWith x t l env = pure false := by cases x <;> first | rfl | cases h
def notTupE : Expr → Bool | .Tuple .. => false | _ => true
def swB (sc : Scope) (x : Expr) (n : Str) (np : Pos) : Bool := match x with
  | .ListComp _ _ s p => decide (sc.names.lookup n = some .local) && (np.line == p.line) && !(s.names.any fun (m, k) => m == n && (k == .local || k == .cell))
  | _ => false
def isDSc : Expr → Bool | .SetComp .. => false | .DictComp .. => false | _ => true
theorem swB_ok {sc : Scope} {x : Expr} {n : Str} {np : Pos} {l : Nat} {env : PySem.Env} (hs : env.scope = sc) (hk : sc.kind = .function) (hd : isDSc x = true) : swapsWith x (some (.Name n np)) l env = pure (swB sc x n np) := by
  cases x with
  | ListComp e g s p =>
    have hb : env.blockKind = .function := by unfold Env.blockKind; rw [hs, hk]; rfl
    have hl : env.kindOf n = sc.names.lookup n := by rw [← hs]; rfl
    unfold swapsWith swB
    simp only [hb, hl, Expr.pos]
    have e : ∀ o : Option NameKind, (o == some NameKind.local) = decide (o = some .local) := fun o => by
      cases o with
      | none => rfl
      | some k => cases k <;> rfl
    rw [e]
    rfl
  | SetComp e g s p => cases hd
  | DictComp e g s p => cases hd
  | _ => rfl
mutual
def ckS (c : Ct) (sc : Scope) : S → Stmt → Bool
  | .set i e, x => onAsg x fun t v => isDSc v && ckE c sc e v && ckN c (locB sc) i t && (!c.hot || !(isLcE v))
  | .setT is e, x => onAsg x fun t v => !c.hot && notTupE v && ckE c sc e v && ckT c (locB sc) (.many is) t
  | .setI o i e, x => onAsg x fun t v => ckE c sc e v && onSub t fun a b => notSl b && ckE c sc o a && ckE c sc i b
  | .ex e, x => onExS x fun v => notCo v && ckE c sc e v
  | .rt e, x => onRet x fun v => ckE c sc e v
  | .rt0, x => isRet0 x
  | .ite d a b, x => onIfS x fun t p q => tst d && ckE c sc d t && ckSs c sc a p && ckSs c sc b q
  | .for t it b, x => onFor x fun tg i p => !c.hot && notSet i && ckT c (locB sc) t tg && ckI c sc it tg i && ckSs c sc b p
  | .forH is it b, x => onFor x fun tg i p => !c.hot && notSet i && onTup tg (fun es => ckNs c (locB sc) is es) && ckI c sc it tg i && ckSs c sc b p
  | .while d b, x => onWhile x fun t p => !c.hot && tst d && ckE c sc d t && ckSs c sc b p
  | .pass, x => isPass x
  | .brk, x => isBrk x
  | .ctn, x => isCtn x
  | .lk _ s, x => ckS c sc s x
  | .any, _ => true
  | .setF k f o e, x => onAsg x fun t v => isDSc v && ckE c sc e v && !(isLcE v) && onAttr t fun y n => decide (n = f) && hasFld c k f && ckE c sc o y
  | .mkI .., _ => false
  | .rs f, x => onRaise x fun n => decide (n = f) && c.xn.contains f && decide (f ∈ xAll) && glB sc f && !(f == ("__debug__" : Str)) && !c.hot
  | .tr b f i h, x => onTry x fun bb n k hh => decide (n = f) && c.xn.contains f && xAll.all (fun y => c.xn.contains y) && glB sc f && !(f == ("__debug__" : Str)) && decide (c.N[i]? = some k) && lclB sc k && !hh.isEmpty && !c.hot && ckSs c sc b bb && ckSs ⟨c.N, c.own, c.con, c.xn, true, c.gl, c.cls⟩ sc h hh
  | .tr1 b f h, x => onTry1 x fun bb n hh => decide (n = f) && c.xn.contains f && xAll.all (fun y => c.xn.contains y) && glB sc f && !(f == ("__debug__" : Str)) && !hh.isEmpty && !c.hot && ckSs c sc b bb && ckSs ⟨c.N, c.own, c.con, c.xn, true, c.gl, c.cls⟩ sc h hh
  | .tr2 b f h g k, x => onTry2 x fun bb n hh n2 kk => decide (n = f) && decide (n2 = g) && c.xn.contains f && c.xn.contains g && xAll.all (fun y => c.xn.contains y) && glB sc f && !(f == ("__debug__" : Str)) && glB sc g && !(g == ("__debug__" : Str)) && !hh.isEmpty && !kk.isEmpty && !c.hot && ckSs c sc b bb && ckSs ⟨c.N, c.own, c.con, c.xn, true, c.gl, c.cls⟩ sc h hh && ckSs ⟨c.N, c.own, c.con, c.xn, true, c.gl, c.cls⟩ sc k kk
def ckSs (c : Ct) (sc : Scope) : Ss → List Stmt → Bool
  | .nil, l => l.isEmpty
  | .cons s r, l => match l with
    | x :: xs => ckS c sc s x && ckSs c sc r xs
    | [] => false
end
structure GdS (c : Ct) (G : Gm) (sc : Scope) (X : Cx) (W : WX) : Prop extends Gd c G sc X W where
  fn : ∀ x, X.fn x = true
  ps : c.hot = false → PassesOwn (model X.prog X.w) X.A X.env X.xe
  stk : X.stack = X.env :: X.outer
  frm : X.env.frame = some X.env.locals
theorem GdS.lb {c : Ct} {G : Gm} {sc : Scope} {X : Cx} {W : WX} (g : GdS c G sc X W) : ∀ n, locB sc n = true → Loc X.env.scope n ∧ (X.fn n = true ∨ X.env.scope.names.lookup n = some .local) := fun n h => ⟨by rw [g.scp]; exact locB_eq h, .inl (g.fn n)⟩
mutual
theorem sS (c : Ct) (G : Gm) (w : Nat) : ∀ (e : S) (x : Stmt) (sc : Scope), ckS c sc e x = true → ∀ X W, GdS c G sc X W → PS X x (tS X W (exe G w e))
  | .set i e, x, sc, h, X, W, g => by
    rw [ckS] at h
    replace h := onAsg_eq h
    obtain ⟨t, v, p, rfl, h⟩ := h
    simp only [Bool.and_eq_true, Bool.or_eq_true, Bool.not_eq_true'] at h
    obtain ⟨⟨⟨h1, h2⟩, h3⟩, hh⟩ := h
    obtain ⟨n, np, rfl, h4, h5, h6⟩ := ckN_ok (X := X) h3 g.N g.lb
    have q := sE c G e _ _ h2 _ _ g.toGd
    have hN : X.N.Nodup := by rw [g.N]; exact g.nd
    have sw := swB_ok (l := p.line) (np := np) (n := n) g.scp g.kind h1
    cases e0 : swB sc v n np with
    | false =>
      rw [e0] at sw
      exact s_set hN h4 h5 (g.fn n) q.pe sw
    | true =>
      rw [e0] at sw
      have hl : isLc v = true ∧ sc.names.lookup n = some .local := by
        unfold swB at e0
        split at e0
        · simp only [Bool.and_eq_true, decide_eq_true_eq] at e0
          exact ⟨rfl, e0.1.1⟩
        · cases e0
      obtain ⟨elt, tg, iter, ifs, s, own, p2, wi, gg, tt, te, rfl, hi, ok, hg, ht, he, hs, qq⟩ := q.lc hl.1
      have hh : c.hot = false := hh.resolve_right fun z => (by cases z)
      exact s_setLc hN h4 (ps_setLc (g.calm hh) hN h4 (by rw [g.scp]; exact hl.2) sw hi ok hg ht he hs) qq
  | .setT is e, x, sc, h, X, W, g => by
    rw [ckS] at h
    replace h := onAsg_eq h
    obtain ⟨t, v, p, rfl, h⟩ := h
    simp only [Bool.and_eq_true, Bool.not_eq_true'] at h
    obtain ⟨⟨⟨hh, h1⟩, h2⟩, h3⟩ := h
    have q := sE c G e _ _ h2 _ _ g.toGd
    have h3 : onTup t (fun es => ckNs c (locB sc) is es) = true := h3
    replace h3 := onTup_eq h3
    obtain ⟨es, k, p2, rfl, h3⟩ := h3
    have hg : PG X (.Tuple es k p2) (tGH X is) := g_manyH (g.calm hh) (by rw [g.N]; exact g.nd) (ckNs_ok g.N g.lb h3)
    exact s_setT hg q.pe (by cases v <;> rfl) (by cases v <;> first | rfl | cases h1) rfl
  | .setI o i e, x, sc, h, X, W, g => by
    rw [ckS] at h
    replace h := onAsg_eq h
    obtain ⟨t, v, p, rfl, h⟩ := h
    simp only [Bool.and_eq_true] at h
    obtain ⟨h1, h2⟩ := h
    replace h2 := onSub_eq h2
    obtain ⟨a, b, p2, rfl, h2⟩ := h2
    simp only [Bool.and_eq_true] at h2
    exact s_setI g.un (sE c G o _ _ h2.1.2 _ _ g.toGd).pe (sE c G i _ _ h2.2 _ _ g.toGd).pe (sE c G e _ _ h1 _ _ g.toGd).pe (fun _ _ _ _ z => by subst z; cases h2.1.1) (by cases v <;> rfl) (by cases v <;> rfl)
  | .ex e, x, sc, h, X, W, g => by
    rw [ckS] at h
    replace h := onExS_eq h
    obtain ⟨v, p, rfl, h⟩ := h
    simp only [Bool.and_eq_true] at h
    exact s_ex (sE c G e _ _ h.2 _ _ g.toGd).pe (notCo_ok h.1)
  | .rt e, x, sc, h, X, W, g => by
    rw [ckS] at h
    replace h := onRet_eq h
    obtain ⟨v, p, rfl, h⟩ := h
    exact s_ret (sE c G e _ _ h _ _ g.toGd).pe
  | .rt0, x, sc, h, X, W, g => by
    rw [ckS] at h
    replace h := isRet0_eq h
    obtain ⟨p, rfl⟩ := h
    exact s_ret0
  | .ite d a b, x, sc, h, X, W, g => by
    rw [ckS] at h
    replace h := onIfS_eq h
    obtain ⟨t, l, r, p, rfl, h⟩ := h
    simp only [Bool.and_eq_true] at h
    obtain ⟨⟨⟨h0, h1⟩, h2⟩, h3⟩ := h
    exact s_if ((sE c G d _ _ h1 _ _ g.toGd).pt h0) (sSs c G w a _ _ h2 _ _ g) (sSs c G w b _ _ h3 _ _ g)
  | .for t it b, x, sc, h, X, W, g => by
    rw [ckS] at h
    replace h := onFor_eq h
    obtain ⟨tg, i, l, p, rfl, h⟩ := h
    simp only [Bool.and_eq_true, Bool.not_eq_true'] at h
    obtain ⟨⟨⟨⟨hh, h0⟩, h1⟩, h2⟩, h3⟩ := h
    exact s_for (g.ps hh) (g.calm hh) (sI c G it _ _ _ h2 _ _ g.toGd) (ckT_ok h1 (g.calm hh) g.nd g.N g.lb) (sSs c G w b _ _ h3 _ _ g) (notSet_ok h0)
  | .forH is it b, x, sc, h, X, W, g => by
    rw [ckS] at h
    replace h := onFor_eq h
    obtain ⟨tg, i, l, p, rfl, h⟩ := h
    simp only [Bool.and_eq_true, Bool.not_eq_true'] at h
    obtain ⟨⟨⟨⟨hh, h0⟩, h1⟩, h2⟩, h3⟩ := h
    replace h1 := onTup_eq h1
    obtain ⟨es, k, p2, rfl, h1⟩ := h1
    have hg : PG X (.Tuple es k p2) (tGH X is) := g_manyH (g.calm hh) (by rw [g.N]; exact g.nd) (ckNs_ok g.N g.lb h1)
    exact s_forH (g.ps hh) (g.calm hh) (sI c G it _ _ _ h2 _ _ g.toGd) hg (sSs c G w b _ _ h3 _ _ g) (notSet_ok h0)
  | .while d b, x, sc, h, X, W, g => by
    rw [ckS] at h
    replace h := onWhile_eq h
    obtain ⟨t, l, p, rfl, h⟩ := h
    simp only [Bool.and_eq_true, Bool.not_eq_true'] at h
    obtain ⟨⟨⟨hh, h0⟩, h1⟩, h2⟩ := h
    exact s_while (g.ps hh) ((sE c G d _ _ h1 _ _ g.toGd).pt h0) (sSs c G w b _ _ h2 _ _ g)
  | .pass, x, sc, h, X, W, g => by
    rw [ckS] at h
    unfold isPass at h
    split at h
    · exact s_pass
    · exact s_doc
    · cases h
  | .brk, x, sc, h, X, W, g => by
    rw [ckS] at h
    replace h := isBrk_eq h
    obtain ⟨p, rfl⟩ := h
    exact s_brk
  | .ctn, x, sc, h, X, W, g => by
    rw [ckS] at h
    replace h := isCtn_eq h
    obtain ⟨p, rfl⟩ := h
    exact s_ctn
  | .any, x, sc, h, X, W, g => by
    exact s_any
  | .lk i e, x, sc, h, X, W, g => by
    rw [ckS] at h
    exact s_lk (sS c G w e _ _ h _ _ g)
  | .setF k f o e, x, sc, h, X, W, g => by
    rw [ckS] at h
    replace h := onAsg_eq h
    obtain ⟨t, v, p, rfl, h⟩ := h
    simp only [Bool.and_eq_true, Bool.not_eq_true'] at h
    obtain ⟨⟨⟨h1, h2⟩, h3⟩, h4⟩ := h
    replace h4 := onAttr_eq h4
    obtain ⟨y, n, p2, rfl, h4⟩ := h4
    simp only [Bool.and_eq_true, decide_eq_true_eq] at h4
    obtain ⟨⟨rfl, h5⟩, h6⟩ := h4
    obtain ⟨i, hi, h5⟩ := List.any_eq_true.mp h5
    simp only [Bool.and_eq_true, decide_eq_true_eq, List.contains_iff_mem] at h5
    obtain ⟨rfl, h7⟩ := h5
    obtain ⟨q1, q2⟩ := g.cfa i hi
    refine s_setF q1 (q2 _ h7) (sE c G o _ _ h6 _ _ g.toGd).pe (sE c G e _ _ h2 _ _ g.toGd).pe ?_
    cases v <;> first | rfl | (cases h1; done) | (cases h3; done)
  | .mkI .., x, sc, h, X, W, g => by
    rw [ckS] at h
    cases h
  | .rs f, x, sc, h, X, W, g => by
    rw [ckS] at h
    replace h := onRaise_eq h
    obtain ⟨n, p, m, j, p2, q, pos, rfl, h⟩ := h
    simp only [Bool.and_eq_true, decide_eq_true_eq, Bool.not_eq_true', List.contains_iff_mem] at h
    obtain ⟨⟨⟨⟨⟨rfl, h1⟩, h2⟩, h3⟩, h4⟩, hh⟩ := h
    exact s_raise (g.calm hh) g.tk g.xfa h1 h2 (g.gl h3) h4
  | .tr b f i hd, x, sc, h, X, W, g => by
    rw [ckS] at h
    replace h := onTry_eq h
    obtain ⟨bb, n, p, k, hb, q, pos, rfl, h⟩ := h
    simp only [Bool.and_eq_true, decide_eq_true_eq, Bool.not_eq_true', List.contains_iff_mem, List.all_eq_true, List.isEmpty_eq_false_iff] at h
    obtain ⟨⟨⟨⟨⟨⟨⟨⟨⟨⟨rfl, h1⟩, h2⟩, h3⟩, h4⟩, h5⟩, h6⟩, h7⟩, hh⟩, h8⟩, h9⟩ := h
    obtain ⟨b₀, suite, rfl⟩ := List.exists_cons_of_ne_nil h7
    have hl : X.env.kindOf k = some .local := by
      have e : X.env.kindOf k = sc.names.lookup k := by rw [← g.scp]; rfl
      rw [e]
      exact lclB_eq h6
    exact s_try (fb := exes G w b) (fh := fun c' a => exes (excG c' a G) w hd) g.stk g.frm (by rw [g.N]; exact g.nd) (by rw [g.N]; exact h5) hl (g.gl h3) h4 g.xfa h1 h2 g.tk
      (fun W' pn xe tk ps => sSs c G w b _ _ h8 _ _ ⟨⟨g.scp, g.kind, g.N, g.nd, g.calm, tk, g.un, g.gd, g.bl, g.own, g.cfa, g.mth, g.new, g.con, g.xfa, fun z => by rw [hh] at z; cases z⟩, g.fn, fun _ => ps, g.stk, g.frm⟩)
      (fun a oe C c' pn hz hv hc hm => sSs ⟨c.N, c.own, c.con, c.xn, true, c.gl, c.cls⟩ (excG c' a G) w hd _ _ h9 _ _ ⟨⟨g.scp, g.kind, g.N, g.nd, fun z => (by cases z), takes_noW, g.un, fun z => (by cases z), g.bl, fun z => (by cases z), g.cfa, fun z => (by cases z), fun z => (by cases z), g.con, g.xfa, fun _ => ⟨X, a, oe, pn, c', C, rfl, hz, hv, hm, hc, h2 _ hc, rfl⟩⟩, g.fn, fun z => (by cases z), g.stk, g.frm⟩)
  | .tr1 b f hd, x, sc, h, X, W, g => by
    rw [ckS] at h
    replace h := onTry1_eq h
    obtain ⟨bb, n, p, hb, q, pos, rfl, h⟩ := h
    simp only [Bool.and_eq_true, decide_eq_true_eq, Bool.not_eq_true', List.contains_iff_mem, List.all_eq_true, List.isEmpty_eq_false_iff] at h
    obtain ⟨⟨⟨⟨⟨⟨⟨⟨rfl, h1⟩, h2⟩, h3⟩, h4⟩, h7⟩, hh⟩, h8⟩, h9⟩ := h
    obtain ⟨b₀, suite, rfl⟩ := List.exists_cons_of_ne_nil h7
    exact s_try1 (fb := exes G w b) (fh := fun c' a => exes (excG c' a G) w hd) g.stk g.frm (g.gl h3) h4 g.xfa h1 h2 g.tk
      (fun W' pn xe tk ps => sSs c G w b _ _ h8 _ _ ⟨⟨g.scp, g.kind, g.N, g.nd, g.calm, tk, g.un, g.gd, g.bl, g.own, g.cfa, g.mth, g.new, g.con, g.xfa, fun z => by rw [hh] at z; cases z⟩, g.fn, fun _ => ps, g.stk, g.frm⟩)
      (fun a oe C c' pn hz hv hc hm => sSs ⟨c.N, c.own, c.con, c.xn, true, c.gl, c.cls⟩ (excG c' a G) w hd _ _ h9 _ _ ⟨⟨g.scp, g.kind, g.N, g.nd, fun z => (by cases z), takes_noW, g.un, fun z => (by cases z), g.bl, fun z => (by cases z), g.cfa, fun z => (by cases z), fun z => (by cases z), g.con, g.xfa, fun _ => ⟨X, a, oe, pn, c', C, rfl, hz, hv, hm, hc, h2 _ hc, rfl⟩⟩, g.fn, fun z => (by cases z), g.stk, g.frm⟩)
  | .tr2 b f hd f2 kd, x, sc, h, X, W, g => by
    rw [ckS] at h
    replace h := onTry2_eq h
    obtain ⟨bb, n, p, hb, q, n2, p2, hb2, q2, pos, rfl, h⟩ := h
    simp only [Bool.and_eq_true, decide_eq_true_eq, Bool.not_eq_true', List.contains_iff_mem, List.all_eq_true, List.isEmpty_eq_false_iff] at h
    obtain ⟨⟨⟨⟨⟨⟨⟨⟨⟨⟨⟨⟨⟨⟨rfl, rfl⟩, h1⟩, h1'⟩, h2⟩, h3⟩, h4⟩, h3'⟩, h4'⟩, h7⟩, h7'⟩, hh⟩, h8⟩, h9⟩, h9'⟩ := h
    obtain ⟨b₀, suite, rfl⟩ := List.exists_cons_of_ne_nil h7
    obtain ⟨b₁, suite2, rfl⟩ := List.exists_cons_of_ne_nil h7'
    exact s_try2 (fb := exes G w b) (fh := fun c' a => exes (excG c' a G) w hd) (fk := fun c' a => exes (excG c' a G) w kd) g.stk g.frm (g.gl h3) h4 (g.gl h3') h4' g.xfa h1 h1' h2 g.tk
      (fun W' pn xe tk ps => sSs c G w b _ _ h8 _ _ ⟨⟨g.scp, g.kind, g.N, g.nd, g.calm, tk, g.un, g.gd, g.bl, g.own, g.cfa, g.mth, g.new, g.con, g.xfa, fun z => by rw [hh] at z; cases z⟩, g.fn, fun _ => ps, g.stk, g.frm⟩)
      (fun a oe C c' pn hz hv hc hm => sSs ⟨c.N, c.own, c.con, c.xn, true, c.gl, c.cls⟩ (excG c' a G) w hd _ _ h9 _ _ ⟨⟨g.scp, g.kind, g.N, g.nd, fun z => (by cases z), takes_noW, g.un, fun z => (by cases z), g.bl, fun z => (by cases z), g.cfa, fun z => (by cases z), fun z => (by cases z), g.con, g.xfa, fun _ => ⟨X, a, oe, pn, c', C, rfl, hz, hv, hm, hc, h2 _ hc, rfl⟩⟩, g.fn, fun z => (by cases z), g.stk, g.frm⟩)
      (fun a oe C c' pn hz hv hc hm => sSs ⟨c.N, c.own, c.con, c.xn, true, c.gl, c.cls⟩ (excG c' a G) w kd _ _ h9' _ _ ⟨⟨g.scp, g.kind, g.N, g.nd, fun z => (by cases z), takes_noW, g.un, fun z => (by cases z), g.bl, fun z => (by cases z), g.cfa, fun z => (by cases z), fun z => (by cases z), g.con, g.xfa, fun _ => ⟨X, a, oe, pn, c', C, rfl, hz, hv, hm, hc, h2 _ hc, rfl⟩⟩, g.fn, fun z => (by cases z), g.stk, g.frm⟩)
theorem sSs (c : Ct) (G : Gm) (w : Nat) : ∀ (e : Ss) (x : List Stmt) (sc : Scope), ckSs c sc e x = true → ∀ X W, GdS c G sc X W → PSs X x (tS X W (exes G w e))
  | .nil, x, sc, h, X, W, g => by
    rw [ckSs] at h
    have e : x = [] := by simpa using h
    subst e
    exact s_nil
  | .cons s r, x, sc, h, X, W, g => by
    cases x with
    | nil => cases h
    | cons y ys =>
      rw [ckSs] at h
      simp only [Bool.and_eq_true] at h
      exact s_cons (sS c G w s _ _ h.1 _ _ g) (sSs c G w r _ _ h.2 _ _ g)
end
end Af
namespace Af
open PySem PySem.Spec PyProof.Rows L2
theorem fm_congr {α β : Type} {f g : α → Option β} : ∀ {l : List α}, (∀ x ∈ l, f x = g x) → l.filterMap f = l.filterMap g
  | [], _ => rfl
  | x :: r, h => by rw [List.filterMap_cons, List.filterMap_cons, h x List.mem_cons_self, fm_congr fun y hy => h y (List.mem_cons_of_mem _ hy)]
theorem look_zip {β : Type} : ∀ {ns : List Str} {us : List β}, us.length = ns.length → ns.Nodup → (∀ n ∈ ns, ((ns.zip us).lookup n).isSome = true) ∧ ns.filterMap (fun n => ((ns.zip us).lookup n).map (n, ·)) = ns.zip us
  | [], [], _, _ => ⟨fun n h => by simp at h, rfl⟩
  | [], _ :: _, h, _ => by simp at h
  | _ :: _, [], h, _ => by simp at h
  | x :: ns, u :: us, h, hn => by
    obtain ⟨n1, n2⟩ := List.nodup_cons.mp hn
    obtain ⟨h1, h2⟩ := look_zip (ns := ns) (us := us) (by simpa using h) n2
    refine ⟨fun n hm => ?_, ?_⟩
    · rw [List.zip_cons_cons, List.lookup_cons]
      cases e : (n == x) with
      | true => rfl
      | false =>
        have ne : n ≠ x := beq_eq_false_iff_ne.mp e
        rcases List.mem_cons.mp hm with hm | hm
        · exact absurd hm ne
        · exact h1 n hm
    · rw [List.zip_cons_cons, List.filterMap_cons, List.lookup_cons, beq_self_eq_true]
      dsimp only [Option.map_some]
      have e : ns.filterMap (fun n => (List.lookup n ((x, u) :: ns.zip us)).map (n, ·)) = ns.filterMap (fun n => (List.lookup n (ns.zip us)).map (n, ·)) := by
        refine fm_congr fun n hm => ?_
        have ne : (n == x) = false := beq_eq_false_iff_ne.mpr fun z => n1 (z ▸ hm)
        rw [List.lookup_cons, ne]
      rw [e, h2]
theorem bnd_all {name qual : Str} {body : List Stmt} {scope : Scope} {kV doc pm cdv ct : Value} {an : Option Addr} (as : List Arg) (us : List Value) (hn : (as.map (·.arg)).Nodup) (h : us.length = as.length) : bindArgs (PySem.W.fnOf name qual ⟨[], as, none, [], [], none, []⟩ body scope .none kV doc pm an cdv ct) ⟨us, []⟩ = pure ((as.map (·.arg)).zip us) := by
  have hl : us.length = (as.map (·.arg)).length := by simpa using h
  obtain ⟨h1, h2⟩ := look_zip hl hn
  have e1 : decide (us.length > ((as.map (·.arg))).length) = false := decide_eq_false (by omega)
  have e2 : ((as.map (·.arg))).filter (fun n => (((as.map (·.arg)).zip us).lookup n).isNone) = [] := by
    rw [List.filter_eq_nil_iff]
    intro n hn
    have := h1 n hn
    cases e : ((as.map (·.arg)).zip us).lookup n with
    | none => rw [e] at this; cases this
    | some v => simp
  have sq : seqItems? .none = pure none := rfl
  unfold bindArgs
  simp only [PySem.W.fnOf, List.map_nil, List.nil_append, List.append_nil, List.forIn_nil, bind_assoc, pure_bind, h2, sq, e1, Bool.false_and, Bool.false_eq_true, if_false, Option.getD_none, Array.toList_empty, List.drop_nil, List.length_nil, Nat.sub_zero, List.take_length, e2, List.isEmpty_nil, Bool.not_true, List.zip_nil_right]
structure Df where
  name : Str
  ps : List Str
  N : List Str
  st : Stmt
  fn : Fn
  gl : Str
  nm : Str
  cl : Option Str
def Df.at_ (x : Df) : Str × Option Str := match x.cl with
  | none => (x.gl, none)
  | some C => (C, some x.nm)
def Df.ql (x : Df) : Str := match x.cl with
  | none => x.nm
  | some C => C ++ "." ++ x.nm
def Df.d (x : Df) : He.DefD := ⟨x.at_, x.nm, x.ql, defArgs x.st, defBody x.st, defScope x.st, [], []⟩
def fnd : List Df → Str → Option Df
  | [], _ => none
  | x :: r, f => if x.name = f then some x else fnd r f
theorem fnd_some : ∀ {l : List Df} {f : Str} {x : Df}, fnd l f = some x → x ∈ l ∧ x.name = f
  | [], _, _, h => by cases h
  | y :: r, f, x, h => by
    unfold fnd at h
    by_cases c : y.name = f
    · rw [if_pos c] at h
      cases h
      exact ⟨List.mem_cons_self .., c⟩
    · rw [if_neg c] at h
      obtain ⟨h1, h2⟩ := fnd_some h
      exact ⟨List.mem_cons_of_mem _ h1, h2⟩
def mkFn (i : Cinfo) : Fn := ⟨i.np, i.np, .cons (.mkI i.name i.ini i.np) .nil⟩
def tabC (l : List Df) (cs : List Cinfo) (f : Str) : Option Fn := match fnd l f with
  | some x => some x.fn
  | none => (cs.find? fun i => decide (i.name = f)).map mkFn
def ownOf (l : List Df) (f : Str) : Option Nat := match fnd l f with
  | some x => (match x.cl with
    | none => some x.ps.length
    | some _ => none)
  | none => none
def glOf (l : List Df) (f : Str) : Str := match fnd l f with
  | some x => x.gl
  | none => f
theorem tab_some {l : List Df} {cs : List Cinfo} {f : Str} {x : Df} (h : fnd l f = some x) : tabC l cs f = some x.fn := by
  unfold tabC
  rw [h]
def isDf (l : List Df) (C m g : Str) (n : Nat) : Bool := match fnd l g with
  | some x => decide (x.cl = some C) && decide (x.nm = m) && decide (x.ps.length = n)
  | none => false
theorem isDf_ok {l : List Df} {C m g : Str} {n : Nat} (h : isDf l C m g n = true) : ∃ x, fnd l g = some x ∧ x.cl = some C ∧ x.nm = m ∧ x.ps.length = n := by
  unfold isDf at h
  split at h
  · rename_i x e
    simp only [Bool.and_eq_true, decide_eq_true_eq] at h
    exact ⟨x, e, h.1.1, h.1.2, h.2⟩
  · cases h
def clsOk (l : List Df) (cs : List Cinfo) (i : Cinfo) : Bool :=
  (fnd l i.name).isNone && i.ms.all (fun q => isDf l i.name q.1 q.2.1 q.2.2) && isDf l i.name "__init__" i.ini (i.np + 1) && (match cs.find? fun j => decide (j.name = i.name) with
    | some j => decide (j.np = i.np) && decide (j.ini = i.ini) && decide (j.name = i.name)
    | none => false)
def argsB (a : Arguments) (ps : List Str) : Bool := match a with
  | ⟨[], as, none, [], [], none, []⟩ => decide (as.map (·.arg)).Nodup && decide (as.map (·.arg) = ps)
  | _ => false
theorem argsB_ok {a : Arguments} {ps : List Str} (h : argsB a ps = true) : ∃ as, a = ⟨[], as, none, [], [], none, []⟩ ∧ (as.map (·.arg)).Nodup ∧ as.map (·.arg) = ps := by
  unfold argsB at h
  split at h
  · simp only [Bool.and_eq_true, decide_eq_true_eq] at h
    exact ⟨_, rfl, h.1, h.2⟩
  · cases h
def scopeB (N ps : List Str) (sc : Scope) : Bool :=
  (match sc.kind with | .function => true | _ => false) && !sc.isCoroutine && !sc.isGenerator && decide N.Nodup && decide (N.take ps.length = ps) && ps.all (fun x => locB sc x) && sc.names.all fun y => match y.2 with | .free => false | _ => true
theorem scopeB_ok {N ps : List Str} {sc : Scope} (h : scopeB N ps sc = true) : FnScope N ps sc := by
  unfold scopeB at h
  simp only [Bool.and_eq_true, decide_eq_true_eq, Bool.not_eq_true', List.all_eq_true] at h
  obtain ⟨⟨⟨⟨⟨⟨h1, h2⟩, h3⟩, h4⟩, h5⟩, h6⟩, h7⟩ := h
  refine ⟨?_, h2, h3, h4, h5, fun x hx => ?_, fun y hy e => ?_⟩
  · cases e : sc.kind <;> rw [e] at h1 <;> first | rfl | cases h1
  · exact locB_eq (h6 x hx)
  · have := h7 y hy
    rw [e] at this
    cases this
def Df.ok (l : List Df) (cs : List Cinfo) (con : Str → D → Bool) (xn : List Str) (x : Df) : Bool :=
  ckSs ⟨x.N, ownOf l, con, xn, false, glOf l, cs⟩ (defScope x.st) x.fn.body (defBody x.st) && scopeB x.N x.ps (defScope x.st) && argsB (defArgs x.st) x.ps && decide (x.ps.length = x.fn.np) && decide (x.N.length = x.fn.nv)
def okC (l : List Df) (cs : List Cinfo) (con : Str → D → Bool) (xn : List Str) : Bool := l.all (Df.ok l cs con xn) && cs.all (clsOk l cs)
structure Lk (l : List Df) (cs : List Cinfo) (con : Str → D → Bool) (xn : List Str) (K : PySem.W.Frag) (mg : Str → Option Value) : Prop where
  bl : ∀ x ∈ bnames, mg x = none
  df : ∀ x ∈ l, (x.cl = none → mg x.gl = some (.ref (He.fAd K x.at_))) ∧ (∀ C, x.cl = some C → Meth K (He.ga K C) x.nm (He.fAd K x.at_)) ∧ ∃ fd, FunD K x.nm x.ql (defArgs x.st) (defBody x.st) (defScope x.st) [] [] (He.fAd K x.at_) fd
  cl : ∀ i ∈ cs, mg i.name = some (.ref (He.ga K i.name)) ∧ (Cls K (He.ga K i.name) ∧ ∀ f ∈ i.fl, NoAttr K (He.ga K i.name) f) ∧ Mk K (He.ga K i.name) (He.ma K (He.ga K i.name) "__init__")
  con : ∀ x d, con x d = true → ∃ v u, mg x = some u ∧ RelV v u ∧ ∀ H as, Rep K H as v d
  xfa : XFa K mg xn
theorem funD_binds {K : PySem.W.Frag} {x qual : Str} {params : Arguments} {body : List Stmt} {scope : Scope} {f : Addr} {fd : FuncData} {ps : List Str} (F : FunD K x qual params body scope [] [] f fd) (h : argsB params ps = true) : Binds K fd ps [] := by
  obtain ⟨as, rfl, h1, rfl⟩ := argsB_ok h
  exact F.bindsN fun _ _ _ _ _ _ us hl => bnd_all as us h1 (by simpa using hl)
theorem funD_bindsA {K : PySem.W.Frag} {x qual : Str} {params : Arguments} {body : List Stmt} {scope : Scope} {f : Addr} {fd : FuncData} {ps : List Str} (F : FunD K x qual params body scope [] [] f fd) (h : argsB params ps = true) (s : Shared) (us : List Value) (hl : us.length = ps.length) : BindsTo s fd ⟨us, []⟩ (ps.zip us) := by
  obtain ⟨as, rfl, h1, rfl⟩ := argsB_ok h
  exact F.bindsA (fun _ _ _ _ _ _ us hl => bnd_all as us h1 (by simpa using hl)) s us hl
theorem run_len {l : List Df} {cs : List Cinfo} {w n : Nat} {f : Str} {x : Df} (hf : fnd l f = some x) {ds : List D} {m : Mu} (h : ds.length ≠ x.fn.np) : run (tabC l cs) w n f ds m = .bad := by
  cases n with
  | zero => rfl
  | succ n =>
    unfold run
    rw [tab_some hf]
    dsimp only
    rw [if_neg h]
    rfl
theorem mapO_some : ∀ ds : List D, mapO id (ds.map some) = some ds
  | [] => rfl
  | d :: ds => by
    show (match some d with
      | some y => (mapO id (ds.map some)).map (y :: ·)
      | none => none) = _
    rw [mapO_some ds]
    rfl
theorem run_new {t : Str → Option Fn} {w n : Nat} {C g : Str} {np : Nat} (hf : t C = some ⟨np, np, .cons (.mkI C g np) .nil⟩) (hF : ∀ ds m, ds.length ≠ np + 1 → run t w n g ds m = .bad) (ds : List D) (m : Mu) : run t w (n + 1) C ds m = newM C (run t w n g) ds m := by
  unfold run
  rw [hf]
  dsimp only
  by_cases h : ds.length = np
  · rw [if_pos h, Nat.sub_self, List.replicate_zero, List.append_nil]
    unfold finM
    rw [exes]
    dsimp only
    rw [exe, List.take_of_length_le (by rw [List.length_map, h]; exact Nat.le_refl _), mapO_some]
    unfold newM bs bd opt ret alc
    dsimp only
    cases run t w n g (.ref m.length :: ds) (m ++ [.ins C []]) with
    | ok d m' => cases d <;> rfl
    | exc c fs m' => rfl
    | bad => rfl
  · rw [if_neg h]
    unfold newM bd alc
    dsimp only
    rw [hF _ _ (by rw [List.length_cons]; omega)]
    rfl
theorem start_sl {K : PySem.W.Frag} {H : Hp} {as : List Addr} {N : List Str} {vs : List V} {ds : List D} {nv np : Nat} (r : Reps K H as vs ds) (h1 : vs.length = np) (h2 : N.length = nv) : Sl K H as (L2.start N vs) (ds.map some ++ List.replicate (nv - np) none) := by
  subst h1 h2
  unfold L2.start
  refine ⟨by simp [r.length], fun i d h => ?_⟩
  have hi : i < ds.length := by
    by_cases hi : i < ds.length
    · exact hi
    · rw [List.getElem?_append_right (by simpa using hi), List.getElem?_replicate] at h
      split at h <;> cases h
  rw [List.getElem?_append_left (by simpa using hi), List.getElem?_map] at h
  cases e : ds[i]? with
  | none => rw [e] at h; cases h
  | some d' =>
    rw [e] at h
    cases h
    obtain ⟨v, h3, h4⟩ := r.get e
    exact ⟨v, by rw [List.getElem?_append_left (by rw [List.length_map, r.length]; exact hi), List.getElem?_map, h3]; rfl, h4⟩
section
variable {P : Program} {w : World} {K : PySem.W.Frag} {mg : Str → Option Value} {base : Heap} {l : List Df} {cs : List Cinfo} {con : Str → D → Bool} {xn : List Str} {w0 : Nat}
theorem fgs (L : Lk l cs con xn K mg) (ok : okC l cs con xn = true) (n : Nat) (f : Str) (x : Df) (fd : FuncData) (hf : fnd l f = some x) (F : FunD K x.nm x.ql (defArgs x.st) (defBody x.st) (defScope x.st) [] [] (He.fAd K x.at_) fd) :
    FG P w K mg base n (He.fAd K x.at_) fd x.ps (spF P w K mg x.ps.length (run (tabC l cs) w0 n f)) := by
  cases n with
  | zero => exact ⟨fun _ _ _ _ h => h.1, fun A outer s H args us vs Q E _ _ _ _ _ h => by
      obtain ⟨_, as, m, ds, _, _, v⟩ := h
      exact False.elim v⟩
  | succ n =>
    obtain ⟨hx, hn⟩ := fnd_some hf
    have ok0 := ok
    unfold okC at ok0
    obtain ⟨okd, okc⟩ := Bool.and_eq_true_iff.mp ok0
    have hok := List.all_eq_true.mp okd x hx
    unfold Df.ok at hok
    simp only [Bool.and_eq_true, decide_eq_true_eq] at hok
    obtain ⟨⟨⟨⟨o1, o2⟩, o3⟩, o4⟩, o5⟩ := hok
    have S := scopeB_ok o2
    have np : ∀ (y : Df), y ∈ l → y.ps.length = y.fn.np ∧ argsB (defArgs y.st) y.ps = true := fun y hy => by
      have hok := List.all_eq_true.mp okd y hy
      unfold Df.ok at hok
      simp only [Bool.and_eq_true, decide_eq_true_eq] at hok
      exact ⟨hok.1.2, hok.1.1.2⟩
    obtain ⟨oc, od, dV, kV, doc, pm, an, cdv, ct, osl, rfl, lk, hcd, _, _⟩ := F.ex
    refine fg_of lk hcd S (fun _ _ _ _ h => h.1) fun A outer s H vs Q E hr hg h => ?_
    obtain ⟨hl, as, m, ds, hr0, rs, v⟩ := h
    let W : WX := fun cls d _ H => E cls d H
    let Xc : Cx := cxOf (L2.CX P w) P w K mg base x.N x.ql (defScope x.st) (He.fAd K x.at_) cdv A outer s H E
    have hgd : GdS ⟨x.N, ownOf l, con, xn, false, glOf l, cs⟩ (run (tabC l cs) w0 n) (defScope x.st) Xc W :=
      { scp := rfl, kind := S.kind, N := rfl, nd := S.nd, calm := fun _ => rfl
        tk := takes_of (X := Xc) rfl rfl rfl rfl
        un := by have := hr.un; show (A.deeper _).units + 200 < cLine; omega
        gd := fun _ => hg
        bl := L.bl
        own := fun _ f' n' e => by
          have e : ownOf l f' = some n' := e
          unfold ownOf at e
          cases q : fnd l f' with
          | none => rw [q] at e; cases e
          | some y =>
            rw [q] at e
            dsimp only at e
            cases qc : y.cl with
            | some _ => rw [qc] at e; cases e
            | none =>
              rw [qc] at e
              cases e
              obtain ⟨hy, hny⟩ := fnd_some q
              obtain ⟨p4, p3⟩ := np y hy
              obtain ⟨g1, _, fd', F'⟩ := L.df y hy
              refine ⟨fun ds m h => run_len q (by rw [← p4]; exact h), n, _, fd', y.ps, rfl, fgs L ok n f' y fd' q F', hr, ?_, F'.kp, funD_binds F' p3⟩
              show mg (glOf l f') = _
              unfold glOf
              rw [q]
              exact g1 qc
        cfa := fun k hk => (L.cl k hk).2.1
        mth := fun _ k hk mq hq => by
          have ck := List.all_eq_true.mp okc k hk
          unfold clsOk at ck
          simp only [Bool.and_eq_true] at ck
          obtain ⟨y, q, qc, qn, ql⟩ := isDf_ok (List.all_eq_true.mp ck.1.1.2 mq hq)
          obtain ⟨hy, hny⟩ := fnd_some q
          obtain ⟨p4, p3⟩ := np y hy
          obtain ⟨_, g2, fd', F'⟩ := L.df y hy
          refine ⟨fun ds m h => run_len q (by rw [← p4, ql]; exact h), n, _, fd', y.ps, ql, fgs L ok n mq.2.1 y fd' q F', hr, ?_, funD_binds F' p3⟩
          have := g2 k.name qc
          rw [qn] at this
          exact this
        new := fun _ k hk => by
          have ck := List.all_eq_true.mp okc k hk
          unfold clsOk at ck
          simp only [Bool.and_eq_true, Option.isNone_iff_eq_none] at ck
          obtain ⟨⟨⟨c1, c2⟩, c3⟩, c4⟩ := ck
          obtain ⟨e1, _, M⟩ := L.cl k hk
          refine ⟨by show glOf l k.name = k.name; unfold glOf; rw [c1], e1, M.kp, ?_⟩
          cases n with
          | zero => exact .inl fun ds m => rfl
          | succ n =>
            obtain ⟨y, q, qc, qn, ql⟩ := isDf_ok c3
            obtain ⟨hy, hny⟩ := fnd_some q
            obtain ⟨p4, p3⟩ := np y hy
            obtain ⟨_, g2, fd', F'⟩ := L.df y hy
            have ht : tabC l cs k.name = some ⟨k.np, k.np, .cons (.mkI k.name k.ini k.np) .nil⟩ := by
              unfold tabC
              rw [c1]
              dsimp only
              split at c4
              · rename_i j ej
                simp only [Bool.and_eq_true, decide_eq_true_eq] at c4
                rw [ej]
                show some (mkFn j) = _
                unfold mkFn
                rw [c4.1.1, c4.1.2, c4.2]
              · cases c4
            have ea : He.fAd K y.at_ = He.ma K (He.ga K k.name) "__init__" := by
              unfold Df.at_
              rw [qc]
              dsimp only
              rw [qn]
              rfl
            have hF0 : ∀ ds m, ds.length ≠ y.ps.length → run (tabC l cs) w0 n k.ini ds m = .bad := fun ds m h => run_len q (by rw [← p4]; exact h)
            refine .inr ⟨n, _, fd', y.ps, run (tabC l cs) w0 n k.ini, ql, fgs L ok n k.ini y fd' q F', hF0, fun ds m => run_new ht (fun ds m h => hF0 ds m (by rw [ql]; exact h)) ds m, hr, ?_, funD_binds F' p3⟩
            rw [ea]
            exact M
        con := L.con
        xfa := L.xfa
        hotf := fun z => Bool.noConfusion z
        fn := fun _ => rfl
        ps := fun _ => passes_of (X := Xc) rfl
        stk := rfl
        frm := rfl }
    refine ⟨_, sSs ⟨x.N, ownOf l, con, xn, false, glOf l, cs⟩ (run (tabC l cs) w0 n) w0 x.fn.body (defBody x.st) (defScope x.st) o1 Xc W hgd, ?_⟩
    unfold run at v
    rw [tab_some hf] at v
    dsimp only at v
    rw [if_pos (by rw [← rs.length, hl, o4])] at v
    refine ⟨as, m, _, start_sl rs (hl.trans o4) o5, hr0, ?_⟩
    unfold finM at v
    cases q : exes (run (tabC l cs) w0 n) w0 x.fn.body (ds.map some ++ List.replicate (x.fn.nv - x.fn.np) none) m with
    | ok fl m' =>
      rw [q] at v
      dsimp only at v
      cases fl with
      | nx ρ' => exact fun σ' as' H' k hr1 s => v V.non as' H' k hr1 .non
      | rt d => exact fun u as' H' k hr1 s => v u as' H' k hr1 s
      | bk ρ' => exact False.elim v
      | ct ρ' => exact False.elim v
      | xc ρ' c fs => exact fun C d σ' as' H' e k hr1 s xr => v C d as' H' e k hr1 xr
    | exc c fs m' => rw [q] at v; exact False.elim v
    | bad => rw [q] at v; exact False.elim v
termination_by n
end
def notLO (o : Obj) : Bool := match o.cls with
  | .type c => !(c == "list")
  | _ => true
def asN (g : Addr → Option Obj) (n : Nat) : List Addr := (He.asD g n).filter fun a => match g a with
  | some o => notLO o
  | none => true
theorem frG_mem {g : Addr → Option Obj} {p : Addr → Bool} : ∀ {as : List Addr} {a : Addr} {o : Obj}, (He.frG g (as.filter p)).lookup a = some o → p a = true
  | [], a, o, h => by cases h
  | b :: r, a, o, h => by
    by_cases c : p b = true
    · rw [List.filter_cons_of_pos c] at h
      unfold He.frG at h
      rw [List.filterMap_cons] at h
      cases hb : g b with
      | none =>
        rw [hb] at h
        exact frG_mem (as := r) h
      | some ob =>
        rw [hb] at h
        have h : (match a == b with | true => some ob | false => (He.frG g (r.filter p)).lookup a) = some o := h
        cases q : (a == b) with
        | true =>
          rw [beq_iff_eq.mp q]
          exact c
        | false =>
          rw [q] at h
          exact frG_mem (as := r) h
    · rw [List.filter_cons_of_neg c] at h
      exact frG_mem (as := r) h
theorem frN {g : Addr → Option Obj} {n : Nat} {a : Addr} {o : Obj} (h : (He.frG g (asN g n)).lookup a = some o) : notLO o = true := by
  have h1 := frG_mem h
  have h2 := He.frG_at _ h
  rw [h2] at h1
  exact h1
abbrev AlN : Type := He.AlD × Bool
def obsN (n : Nat) (fa : List He.Fa) (fn : List He.DefD) (ex : PySem.W.Frag → Bool) (g : Addr → Option Obj) : AlN := (He.obsD fa fn (He.frG g (asN g n)), ex (He.frG g (asN g n)))
def SaysN (fa : List He.Fa) (fn : List He.DefD) (ex : PySem.W.Frag → Bool) (h : Heap) : Prop := ∃ K : PySem.W.Frag, K.In h ∧ He.SaysD fa fn K ∧ ex K = true ∧ ∀ a o, K.lookup a = some o → notLO o = true
def hookN (n : Nat) (fa : List He.Fa) (fn : List He.DefD) (ex : PySem.W.Frag → Bool) : PySem.W.Hook where
  α := AlN
  obs := fun s => obsN n fa fn ex s.heap.get?
  val := fun _ => (He.valD fn, true)
  says := fun _ h => SaysN fa fn ex h
  of := fun _ _ e => ⟨_, He.frG_in, congrArg (fun z : AlN => z.1) e, congrArg (fun z : AlN => z.2) e, fun _ _ h => frN h⟩
  keeps := fun _ _ _ ⟨K, hK, c, x, d⟩ k => ⟨K, PySem.W.Frag.In.keeps hK k, c, x, d⟩
theorem obsN_eq {n : Nat} {fa : List He.Fa} {fn : List He.DefD} {ex : PySem.W.Frag → Bool} {g : Addr → Option Obj} {s : Shared} (h : ∀ a, g a = s.heap.get? a) : obsN n fa fn ex g = (hookN n fa fn ex).obs s := by
  have e : g = s.heap.get? := funext h
  rw [e] <;> rfl
def Df.fa (x : Df) : He.Fa := match x.cl with
  | none => .glo x.gl
  | some C => .meth C x.nm
def clsFa (i : Cinfo) : List He.Fa := .glo i.name :: .cls i.name :: .mkr i.name :: i.fl.map (He.Fa.noat i.name)
def faOf (l : List Df) (cl : List Cinfo) (cs : List He.Fa) : List He.Fa := (l.map Df.fa) ++ (cl.flatMap clsFa ++ ((bnames.map fun x => He.Fa.free x) ++ cs))
theorem fa_mem {fa : List He.Fa} {fn : List He.DefD} {K : PySem.W.Frag} (c : He.SaysD fa fn K) {f : He.Fa} (h : f ∈ fa) : f.ok K = true := by
  obtain ⟨i, hi⟩ := List.getElem?_of_mem h
  exact c.fact i hi
theorem lk_of {l : List Df} {cl : List Cinfo} {con : Str → D → Bool} {xn : List Str} {cs : List He.Fa} {ex : PySem.W.Frag → Bool} {K : PySem.W.Frag} {mg : Str → Option Value} {h : Heap} (hex : ex K = true) (KX : K.In h) (G : h.Ns mainGlobals mg) (c : He.SaysD (faOf l cl cs) (l.map Df.d) K)
    (hc : ∀ x d, con x d = true → (∀ f ∈ cs, f.ok K = true) → ex K = true → ∃ v u, mg x = some u ∧ RelV v u ∧ ∀ H as, Rep K H as v d) (hxf : (∀ f ∈ cs, f.ok K = true) → ex K = true → XFa K mg xn) : Lk l cl con xn K mg := by
  have hcs : ∀ f ∈ cs, f.ok K = true := fun f hf => fa_mem c (List.mem_append_right _ (List.mem_append_right _ (List.mem_append_right _ hf)))
  refine ⟨fun x hx => ?_, fun x hx => ?_, fun i hi => ?_, fun x d e => hc x d e hcs hex, hxf hcs hex⟩
  · exact He.free_ok KX G (fa_mem c (List.mem_append_right _ (List.mem_append_right _ (List.mem_append_left _ (List.mem_map_of_mem hx)))))
  · have hfa := fa_mem c (List.mem_append_left _ (List.mem_map_of_mem (f := Df.fa) hx))
    refine ⟨fun e => ?_, fun C e => ?_, ?_⟩
    · unfold Df.fa at hfa
      rw [e] at hfa
      unfold Df.at_
      rw [e]
      exact He.glo_ok KX G hfa
    · unfold Df.fa at hfa
      rw [e] at hfa
      unfold Df.at_
      rw [e]
      exact He.meth_ok hfa
    · obtain ⟨i, hi⟩ := List.getElem?_of_mem hx
      exact c.def_ i (d := x.d) (by rw [List.getElem?_map, hi]; rfl)
  · have at_ : ∀ f ∈ clsFa i, f.ok K = true := fun f hf => fa_mem c (List.mem_append_right _ (List.mem_append_left _ (List.mem_flatMap.mpr ⟨i, hi, hf⟩)))
    exact ⟨He.glo_ok KX G (at_ (.glo i.name) (by simp [clsFa])), ⟨He.cls_ok (at_ (.cls i.name) (by simp [clsFa])), fun f hf => He.noat_ok (at_ (.noat i.name f) (by simp [clsFa, hf]))⟩, He.mkr_ok (at_ (.mkr i.name) (by simp [clsFa]))⟩
theorem xfa_nil {K : PySem.W.Frag} {mg : Str → Option Value} : XFa K mg [] := ⟨fun _ h => absurd h (by simp), fun h => absurd rfl h, fun _ h => absurd h (by simp), fun _ h => absurd h (by simp), fun _ h => absurd h (by simp), fun _ h => absurd h (by simp)⟩
theorem law_callG {P : Program} {w : World} {K : PySem.W.Frag} {mg mb : Str → Option Value} {k : Nat} {fa a : Addr} {fd : FuncData} {x : Str} {s₁ : Shared} {vs : List Value} {ns : List Int} {F0 : List D → M D}
    (KX : K.In s₁.heap) (nl : ∀ a o, K.lookup a = some o → notLO o = true) (hns : s₁.heap.Ns mainGlobals mg) (hb : s₁.heap.Ns builtinsNs mb) (hbb : ∀ x : Str, x ≠ "__name__" → mb x = bootBuiltins x) (hlim : s₁.heap.NoLimit) (hg : s₁.gens = #[])
    (ha : s₁.heap.get? a = some { cls := .type "list", data := .seq vs.toArray }) (hi : IntsAre vs ns) (hl : ns.length ≤ sizeLine) (hr : Room k callerA)
    (F : ∀ base : Heap, FG P w K mg base k fa fd [x] (spF P w K mg 1 F0)) (hbind : ∀ (s : Shared) (u : Value), BindsTo s fd ⟨[u], []⟩ [(x, u)])
    (hsp : ∃ m', F0 [.ref 0] [.fls (ns.map D.int)] = .ok (.bl true) m') :
    codeAny (model P w) callerA (.call (.ref fa) ⟨[.ref a], []⟩) (fun r s' => r = .ok (.ret (.bool true)) ∧ OldK s₁.heap s'.heap ∧ s'.os = s₁.os ∧ AllBare s'.gens) s₁ := by
  have rv := vals_ints hi
  have hK : K.lookup a = none := by
    cases q : K.lookup a with
    | none => rfl
    | some o =>
      have e := KX a o q
      rw [ha] at e
      cases e
      have := nl a _ q
      cases this
  let ob : Obj := { cls := .type "list", data := .seq vs.toArray }
  let H : Hp := fun b => if b = a then some (.frz ob (.lst (ns.map V.int))) else none
  have hA : ∀ b, H b ≠ none → b = a := fun b z => by
    by_cases hb : b = a
    · exact hb
    · exact absurd (if_neg hb) z
  have Ha : H a = some (.frz ob (.lst (ns.map V.int))) := if_pos rfl
  have hok : HOk P w H s₁.heap := fun b u z => by
    by_cases hb : b = a
    · have z' := (if_pos hb).symm.trans z
      cases z'
      subst hb
      exact ⟨ha, by rw [List.length_map]; exact hl, vs, _, rv, ha⟩
    · have z' := (if_neg hb).symm.trans z
      cases z'
  have base_of : ∀ {b : Addr} {o : Obj}, s₁.heap.get? b = some o → H b = none → (hidT s₁.heap H).get? b = some o := fun e n => hidT_get e n
  have noA : ∀ {b : Addr} {o : Obj} {es : Array DictEntry} {ep : Nat}, s₁.heap.get? b = some o → o.data = .dict es ep → H b = none := fun {b o es ep} e d => by
    cases q : H b with
    | none => rfl
    | some u =>
      have e' : b = a := hA b (by rw [q]; simp)
      subst e'
      rw [ha] at e; cases e
      have d' : Data.seq vs.toArray _ = Data.dict es ep := d
      cases d'
  have nsK : ∀ {b : Addr} {m : Str → Option Value}, s₁.heap.Ns b m → (hidT s₁.heap H).Ns b m := fun {b m} ⟨o, es, ep, e, d, r⟩ => ⟨o, es, ep, base_of e (noA e d), d, r⟩
  have hKb : K.In (hidT s₁.heap H) := fun b o e => base_of (KX b o e) (by
    cases q : H b with
    | none => rfl
    | some u =>
      have e' : b = a := hA b (by rw [q]; simp)
      subst e'
      rw [hK] at e; cases e)
  have hM : Mod K mg (hidT s₁.heap H) := ⟨hKb, nsK hns, ⟨mb, nsK hb, hbb⟩, let ⟨mc, h1, h2⟩ := hlim; ⟨mc, nsK h1, h2⟩⟩
  have e0 : Env0 P w K mg (hidT s₁.heap H) callerA [] s₁ H := ⟨rfl, hM, fun b o e => of_hidT e, Nat.le_of_eq (hidT_size _ _), trivial, fun b hb => absurd (show b ∈ ([] : List Addr) from hb) (by simp), hok, .of_eq hg⟩
  have rl : ∀ l : List Int, Reps K H [a] (l.map V.int) (l.map D.int) := fun l => by
    induction l with
    | nil => exact .nil
    | cons i r ih => exact .cons (.int i) ih
  have hr0 : HRep P w K [a] [.fls (ns.map D.int)] H := by
    refine ⟨rfl, by simp, fun n o b h1 h2 => ?_⟩
    cases n with
    | zero =>
      cases h1
      cases h2
      exact ⟨_, Ha, .fls (by rw [List.length_map]; exact hl) (rl ns)⟩
    | succ n => simp at h1
  obtain ⟨m', hm⟩ := hsp
  refine codeAny_mono ((F _).run callerA [] s₁ H ⟨[.ref a], []⟩ [.ref a] [.ref a] (fun v H' => v = .bl true) (fun _ _ _ => False) hr rfl e0 (hbind s₁ (.ref a)) (.cons rfl .nil) ⟨rfl, [a], [.fls (ns.map D.int)], [.ref 0], hr0, .cons (.ref rfl) .nil, ?_⟩) fun r s' h => ?_
  · rw [hm]
    intro v as' H' _ _ rv
    cases rv
    rfl
  · cases r with
    | error e =>
      obtain ⟨_, _, _, _, _, _, _, _, _, _, _, _, z⟩ := h
      exact z.elim
    | ok fl =>
      cases fl with
      | next => exact False.elim h
      | brk => exact False.elim h
      | cont => exact False.elim h
      | ret u =>
        obtain ⟨v, H', os, bare, un, hok', r', q⟩ := h
        have q' : v = .bl true := q
        subst q'
        obtain rfl : u = Value.bool true := r'
        refine ⟨rfl, OldK.of_keep fun b o e => ?_, os, bare⟩
        cases q : H b with
        | none => exact un.keep b o e q (by intro z; exact absurd (show b ∈ ([] : List Addr) from z) (by simp)) (by simp)
        | some u =>
          have e' : b = a := hA b (by rw [q]; simp)
          subst e'
          have z2 := un.frzs _ _ _ Ha
          obtain ⟨e1, _⟩ := hok _ _ Ha
          obtain ⟨e2, _⟩ := hok' _ _ z2
          rw [e] at e1; cases e1
          exact e2
theorem walk_G {L : PySem.W.OpenLaw} {n k w0 N : Nat} {q : Program} {loose : List Str} {XP : (Str → Option Value) → Heap → Prop} {d : DefRec} {l : List Df} {cl : List Cinfo} {con : Str → D → Bool} {xn : List Str} {cs : List He.Fa} {ex : PySem.W.Frag → Bool} {x : Df} {p : Str}
    (hn : L.most = some n) (hn2 : n ≤ sizeLine) (hdf : d.params.defaults = []) (hr : Room k callerA) (hx : fnd l d.name = some x) (hp : x.ps = [p]) (hxc : x.cl = none) (hgl : x.gl = d.name) (ok : okC l cl con xn = true)
    (hc : ∀ (K : PySem.W.Frag) (mg : Str → Option Value) (h : Heap), K.In h → h.Ns mainGlobals mg → ∀ x d, con x d = true → (∀ f ∈ cs, f.ok K = true) → ex K = true → ∃ v u, mg x = some u ∧ RelV v u ∧ ∀ H as, Rep K H as v d)
    (hxf : ∀ (K : PySem.W.Frag) (mg : Str → Option Value) (h : Heap), K.In h → h.Ns mainGlobals mg → (∀ f ∈ cs, f.ok K = true) → ex K = true → XFa K mg xn)
    (hlaw : ∀ ns : List Int, ns.length ≤ n → ∃ m', run (tabC l cl) w0 k d.name [.ref 0] [.fls (ns.map D.int)] = .ok (.bl true) m') :
    PySem.W.WalkO q loose XP (hookN N (faOf l cl cs) (l.map Df.d) ex).says L.row.toRowW d [] (fun f vs => PySem.call f vs) := by
  refine Att.attach_call hn hdf fun w s₀ s₁ mg mb fa o pm cd doc a vs ns G Y ho hd hcd hmg hobj hints hlen hg => ?_
  obtain ⟨K, KX, c, xx, nl⟩ := (show SaysN (faOf l cl cs) (l.map Df.d) ex s₁.heap from Y)
  have lk := lk_of (cl := cl) (con := con) (xn := xn) (ex := ex) xx KX G.T.g c (fun y e he hf hx => hc K mg _ KX G.T.g y e he hf hx) (fun hf hx => hxf K mg _ KX G.T.g hf hx)
  obtain ⟨hm, hnm⟩ := fnd_some hx
  obtain ⟨g1, _, fd, F⟩ := lk.df x hm
  have efa : fa = He.fAd K x.at_ := by
    have q := g1 hxc
    rw [hgl, hmg] at q
    cases q
    rfl
  subst efa
  have hok := List.all_eq_true.mp (Bool.and_eq_true_iff.mp (show (l.all (Df.ok l cl con xn) && cl.all (clsOk l cl)) = true from ok)).1 x hm
  unfold Df.ok at hok
  simp only [Bool.and_eq_true, decide_eq_true_eq] at hok
  obtain ⟨⟨⟨⟨p1, p2⟩, p3⟩, p4⟩, p5⟩ := hok
  rw [hp] at p3
  refine law_callG (x := p) (F0 := run (tabC l cl) w0 k d.name) KX nl G.T.g G.T.b G.T.builtins G.T.nolimit hg hobj hints (Nat.le_trans hlen hn2) hr (fun base => ?_) (fun s u => funD_bindsA F p3 s [u] rfl) (hlaw ns hlen)
  have := fgs (P := L.prog) (w := w) (base := base) (w0 := w0) lk ok k d.name x fd hx F
  rw [hp] at this
  exact this
end Af
namespace Af
open PySem PySem.Spec PyProof.Rows L2
end Af
namespace Af
open PySem
def wp {α : Type} (x : M α) (m : Mu) (Q : α → Mu → Prop) : Prop := ∃ a m', x m = .ok a m' ∧ Q a m'
def wpF (x : M Fl) (m : Mu) (Q : Fl → Mu → Prop) : Prop := ∃ a m', x m = .ok a m' ∧ (∀ ρ c fs, a ≠ .xc ρ c fs) ∧ Q a m'
section
variable {α β : Type} {m : Mu} {Q : α → Mu → Prop} {F : Fl → Mu → Prop}
theorem wp_mono {x : M α} {Q Q' : α → Mu → Prop} (h : wp x m Q) (i : ∀ a m', Q a m' → Q' a m') : wp x m Q' := by
  obtain ⟨a, m', e, q⟩ := h
  exact ⟨a, m', e, i _ _ q⟩
theorem wpF_mono {x : M Fl} {Q Q' : Fl → Mu → Prop} (h : wpF x m Q) (i : ∀ a m', Q a m' → Q' a m') : wpF x m Q' := by
  obtain ⟨a, m', e, n, q⟩ := h
  exact ⟨a, m', e, n, i _ _ q⟩
theorem wp_ret {a : α} : wp (ret a) m Q ↔ Q a m := by
  constructor
  · rintro ⟨_, _, e, q⟩
    cases e
    exact q
  · exact fun q => ⟨_, _, rfl, q⟩
theorem wp_nope : wp (nope : M α) m Q ↔ False := by
  constructor
  · rintro ⟨_, _, e, q⟩
    cases e
  · exact False.elim
theorem wp_bd {x : M β} {f : β → M α} : wp (bd x f) m Q ↔ wp x m fun a m' => wp (f a) m' Q := by
  unfold wp bd
  cases e : x m with
  | ok a m' =>
    constructor
    · intro h
      exact ⟨_, _, rfl, h⟩
    · rintro ⟨_, _, e, q⟩
      cases e
      exact q
  | exc c fs m' =>
    constructor
    · rintro ⟨_, _, e, q⟩
      cases e
    · rintro ⟨_, _, e, q⟩
      cases e
  | bad =>
    constructor
    · rintro ⟨_, _, e, q⟩
      cases e
    · rintro ⟨_, _, e, q⟩
      cases e
theorem wp_chk {p : Prop} [Decidable p] {x : M α} : wp (chk p x) m Q ↔ p ∧ wp x m Q := by
  have e0 : chk p x m = if p then x m else .bad := rfl
  unfold wp
  rw [e0]
  by_cases c : p
  · rw [if_pos c]
    exact ⟨fun h => ⟨c, h⟩, fun h => h.2⟩
  · rw [if_neg c]
    constructor
    · rintro ⟨a, m', e, q⟩
      cases e
    · rintro ⟨h, _⟩
      exact absurd h c
theorem wp_some {a : α} : wp (opt (some a)) m Q ↔ Q a m := wp_ret
theorem wp_opt {o : Option α} : wp (opt o) m Q ↔ ∃ a, o = some a ∧ Q a m := by
  cases o with
  | none =>
    constructor
    · intro h
      exact (wp_nope.mp h).elim
    · rintro ⟨_, e, _⟩
      cases e
  | some a =>
    constructor
    · intro h
      exact ⟨a, rfl, wp_ret.mp h⟩
    · rintro ⟨_, e, h⟩
      cases e
      exact wp_ret.mpr h
theorem wp_alc {o : O} {Q : D → Mu → Prop} : wp (alc o) m Q ↔ Q (.ref m.length) (m ++ [o]) := by
  constructor
  · rintro ⟨_, _, e, q⟩
    cases e
    exact q
  · exact fun q => ⟨_, _, rfl, q⟩
theorem wp_ite {c : Prop} [Decidable c] {x y : M α} : wp (if c then x else y) m Q ↔ if c then wp x m Q else wp y m Q := by
  split <;> rfl
theorem wp_tru {b : Bool} {Q : Bool → Mu → Prop} : wp (tru (.bl b)) m Q ↔ Q b m := wp_ret
theorem wpF_nx {ρ : Env} : wpF (ret (.nx ρ)) m F ↔ F (.nx ρ) m := by
  constructor
  · rintro ⟨_, _, e, n, q⟩
    cases e
    exact q
  · exact fun q => ⟨_, _, rfl, (fun _ _ _ z => by cases z), q⟩
theorem wpF_rt {d : D} : wpF (ret (.rt d)) m F ↔ F (.rt d) m := by
  constructor
  · rintro ⟨_, _, e, n, q⟩
    cases e
    exact q
  · exact fun q => ⟨_, _, rfl, (fun _ _ _ z => by cases z), q⟩
theorem wpF_bk {ρ : Env} : wpF (ret (.bk ρ)) m F ↔ F (.bk ρ) m := by
  constructor
  · rintro ⟨_, _, e, n, q⟩
    cases e
    exact q
  · exact fun q => ⟨_, _, rfl, (fun _ _ _ z => by cases z), q⟩
theorem wpF_ct {ρ : Env} : wpF (ret (.ct ρ)) m F ↔ F (.ct ρ) m := by
  constructor
  · rintro ⟨_, _, e, n, q⟩
    cases e
    exact q
  · exact fun q => ⟨_, _, rfl, (fun _ _ _ z => by cases z), q⟩
theorem wpF_bs {ρ : Env} {x : M β} {f : β → M Fl} : wpF (bs ρ x f) m F ↔ wp x m fun a m' => wpF (f a) m' F := by
  unfold wpF wp bs
  cases e : x m with
  | ok a m' =>
    constructor
    · intro h
      exact ⟨_, _, rfl, h⟩
    · rintro ⟨_, _, e, q⟩
      cases e
      exact q
  | exc c fs m' =>
    constructor
    · rintro ⟨_, _, e, n, q⟩
      cases e
      exact absurd rfl (n _ _ _)
    · rintro ⟨_, _, e, q⟩
      cases e
  | bad =>
    constructor
    · rintro ⟨_, _, e, q⟩
      cases e
    · rintro ⟨_, _, e, q⟩
      cases e
theorem wpF_ite {c : Prop} [Decidable c] {x y : M Fl} : wpF (if c then x else y) m F ↔ if c then wpF x m F else wpF y m F := by
  split <;> rfl
def thenF (G : Gm) (w : Nat) (r : Ss) (F : Fl → Mu → Prop) : Fl → Mu → Prop
  | .nx ρ, m => wpF (exes G w r ρ) m F
  | fl, m => F fl m
theorem thenF_nx {G : Gm} {w : Nat} {r : Ss} {ρ : Env} : thenF G w r F (.nx ρ) m ↔ wpF (exes G w r ρ) m F := Iff.rfl
theorem thenF_rt {G : Gm} {w : Nat} {r : Ss} {d : D} : thenF G w r F (.rt d) m ↔ F (.rt d) m := Iff.rfl
theorem thenF_bk {G : Gm} {w : Nat} {r : Ss} {ρ : Env} : thenF G w r F (.bk ρ) m ↔ F (.bk ρ) m := Iff.rfl
theorem thenF_ct {G : Gm} {w : Nat} {r : Ss} {ρ : Env} : thenF G w r F (.ct ρ) m ↔ F (.ct ρ) m := Iff.rfl
theorem wpF_nil {G : Gm} {w : Nat} {ρ : Env} : wpF (exes G w .nil ρ) m F ↔ F (.nx ρ) m := by
  rw [exes]
  exact wpF_nx
theorem wpF_cons {G : Gm} {w : Nat} {ρ : Env} {s : S} {r : Ss} : wpF (exes G w (.cons s r) ρ) m F ↔ wpF (exe G w s ρ) m (thenF G w r F) := by
  rw [exes]
  unfold wpF
  cases e : exe G w s ρ m with
  | ok fl m' =>
    dsimp only
    rw [e]
    cases fl with
    | nx ρ' =>
      dsimp only
      constructor
      · intro h
        exact ⟨_, _, rfl, (fun _ _ _ z => by cases z), h⟩
      · rintro ⟨_, _, e, n, q⟩
        cases e
        exact q
    | _ =>
      dsimp only
      constructor
      · rintro ⟨_, _, e, n, q⟩
        cases e
        exact ⟨_, _, rfl, n, q⟩
      · rintro ⟨_, _, e, n, q⟩
        cases e
        exact ⟨_, _, rfl, n, q⟩
  | exc c fs m' =>
    dsimp only
    rw [e]
    dsimp only
    constructor
    · rintro ⟨_, _, e, n, q⟩
      cases e
    · rintro ⟨_, _, e, n, q⟩
      cases e
  | bad =>
    dsimp only
    rw [e]
    dsimp only
    constructor
    · rintro ⟨_, _, e, n, q⟩
      cases e
    · rintro ⟨_, _, e, n, q⟩
      cases e
def endF (Q : D → Mu → Prop) : Fl → Mu → Prop
  | .nx _, m => Q .non m
  | .rt d, m => Q d m
  | _, _ => False
theorem endF_nx {Q : D → Mu → Prop} {ρ : Env} : endF Q (.nx ρ) m ↔ Q .non m := Iff.rfl
theorem endF_rt {Q : D → Mu → Prop} {d : D} : endF Q (.rt d) m ↔ Q d m := Iff.rfl
theorem wp_fin {x : M Fl} {Q : D → Mu → Prop} (h : wpF x m (endF Q)) : wp (finM x) m Q := by
  obtain ⟨fl, m', e, n, q⟩ := h
  unfold wp finM
  rw [e]
  cases fl with
  | nx ρ => exact ⟨_, _, rfl, q⟩
  | rt d => exact ⟨_, _, rfl, q⟩
  | _ => exact q.elim
theorem wp_run {t : Str → Option Fn} {w n : Nat} {f : Str} {fn : Fn} {xs : List D} {Q : D → Mu → Prop} (hf : t f = some fn) (hl : xs.length = fn.np) (h : wpF (exes (run t w n) w fn.body (xs.map some ++ List.replicate (fn.nv - fn.np) none)) m (endF Q)) : wp (run t w (n + 1) f xs) m Q := by
  unfold run
  rw [hf]
  dsimp only
  rw [if_pos hl]
  exact wp_fin h
theorem wpF_loop {a : List (Nat × O)} {body : D → Env → M Fl} (J : List D → Env → Mu → Prop) (hs : ∀ xs ρ m, J xs ρ m → stays a m)
    (hb : ∀ x xs ρ m, J (x :: xs) ρ m → wpF (body x ρ) m fun fl m' => match fl with
      | .nx ρ' => J xs ρ' m'
      | .ct ρ' => J xs ρ' m'
      | .bk ρ' => F (.nx ρ') m'
      | fl => F fl m') (hn : ∀ ρ m, J [] ρ m → F (.nx ρ) m) : ∀ (xs : List D) (ρ : Env) (m : Mu), J xs ρ m → wpF (loopF a body xs ρ) m F
  | [], ρ, m, j => by
    refine ⟨.nx ρ, m, ?_, (fun _ _ _ z => by cases z), hn _ _ j⟩
    unfold loopF
    rw [if_pos (hs _ _ _ j)]
  | x :: xs, ρ, m, j => by
    obtain ⟨fl, m', e, n, q⟩ := hb _ _ _ _ j
    unfold wpF loopF
    rw [if_pos (hs _ _ _ j), e]
    cases fl with
    | nx ρ' => exact wpF_loop J hs hb hn xs ρ' m' q
    | ct ρ' => exact wpF_loop J hs hb hn xs ρ' m' q
    | bk ρ' => exact ⟨_, _, rfl, (fun _ _ _ z => by cases z), q⟩
    | rt d => exact ⟨_, _, rfl, n, q⟩
    | xc ρ c fs => exact absurd rfl (n _ _ _)
theorem wp_loopC {a : List (Nat × O)} {body : D → M (Option D)} {Q : List D → Mu → Prop} (J : List D → List D → Mu → Prop) (hs : ∀ xs acc m, J xs acc m → stays a m)
    (hb : ∀ x xs acc m, J (x :: xs) acc m → wp (body x) m fun r m' => match r with
      | some d => J xs (acc ++ [d]) m'
      | none => J xs acc m') (hn : ∀ acc m, J [] acc m → Q acc m) : ∀ (xs acc : List D) (m : Mu), J xs acc m → wp (loopC a body xs acc) m Q
  | [], acc, m, j => by
    refine ⟨acc, m, ?_, hn _ _ j⟩
    unfold loopC
    rw [if_pos (hs _ _ _ j)]
  | x :: xs, acc, m, j => by
    obtain ⟨r, m', e, q⟩ := hb _ _ _ _ j
    unfold wp loopC
    rw [if_pos (hs _ _ _ j), e]
    cases r with
    | some d => exact wp_loopC J hs hb hn xs _ m' q
    | none => exact wp_loopC J hs hb hn xs _ m' q
end
def Gr (r : Nat) (m m' : Mu) : Prop := m.length ≤ m'.length ∧ ∀ n, n ≠ r → n < m.length → m'[n]? = m[n]?
def Ge (m m' : Mu) : Prop := m.length ≤ m'.length ∧ ∀ n, n < m.length → m'[n]? = m[n]?
section
variable {m m' m'' : Mu} {r : Nat} {o : O}
theorem Ge.refl : Ge m m := ⟨Nat.le_refl _, fun _ _ => rfl⟩
theorem Ge.trans (a : Ge m m') (b : Ge m' m'') : Ge m m'' := ⟨Nat.le_trans a.1 b.1, fun n h => (b.2 n (Nat.lt_of_lt_of_le h a.1)).trans (a.2 n h)⟩
theorem Ge.app (l : List O) : Ge m (m ++ l) := ⟨by simp, fun n h => List.getElem?_append_left h⟩
theorem Ge.get (a : Ge m m') {n : Nat} (h : m[n]? = some o) : m'[n]? = some o := by
  rw [a.2 n (List.getElem?_eq_some_iff.mp h).1, h]
theorem Ge.gr (a : Ge m m') : Gr r m m' := ⟨a.1, fun n _ h => a.2 n h⟩
theorem Gr.refl : Gr r m m := Ge.refl.gr
theorem Gr.trans (a : Gr r m m') (b : Gr r m' m'') : Gr r m m'' := ⟨Nat.le_trans a.1 b.1, fun n h1 h => (b.2 n h1 (Nat.lt_of_lt_of_le h a.1)).trans (a.2 n h1 h)⟩
theorem Gr.get (a : Gr r m m') {n : Nat} (h1 : n ≠ r) (h : m[n]? = some o) : m'[n]? = some o := by
  rw [a.2 n h1 (List.getElem?_eq_some_iff.mp h).1, h]
theorem Gr.set {o' : O} : Gr r m (m.set r o') := ⟨by simp, fun n h1 _ => List.getElem?_set_ne (Ne.symm h1)⟩
theorem Gr.ge (a : Gr r m' m'') (h : Ge m m') (hr : m.length ≤ r) : Ge m m'' := ⟨Nat.le_trans h.1 a.1, fun n h1 => (a.2 n (by omega) (Nat.lt_of_lt_of_le h1 h.1)).trans (h.2 n h1)⟩
theorem lt_of_get {n : Nat} (h : m[n]? = some o) : n < m.length := (List.getElem?_eq_some_iff.mp h).1
end
end Af
namespace Af
open PySem
section
variable {α β : Type} {m : Mu} {c : Str} {Q Q' : Mu → Prop} {G : Gm} {w : Nat} {ρ : Env} {s : S} {r : Ss} {F : Fl → Mu → Prop}
end
end Af
namespace Af
open PySem
section
variable {m : Mu} {Q : D → Mu → Prop}
theorem wp_fun {α : Type} {x : M α} {r : Res α} {Q : α → Mu → Prop} (h : x m = r) : wp x m Q ↔ ∃ a m', r = .ok a m' ∧ Q a m' := by
  unfold wp
  rw [h]
theorem ok_iff {α : Type} {a : α} {m1 : Mu} {Q : α → Mu → Prop} : (∃ b m', Res.ok a m1 = .ok b m' ∧ Q b m') ↔ Q a m1 := by
  constructor
  · rintro ⟨_, _, e, q⟩
    cases e
    exact q
  · exact fun q => ⟨_, _, rfl, q⟩
theorem bad_iff {α : Type} {Q : α → Mu → Prop} : (∃ b m', (Res.bad : Res α) = .ok b m' ∧ Q b m') ↔ False := by
  constructor
  · rintro ⟨_, _, e, q⟩
    cases e
  · exact False.elim
theorem wp_new {o : O} (h : ∀ r m1, Ge m m1 → m1[r]? = some o → m.length ≤ r → r < m1.length → m1.length = m.length + 1 → Q (.ref r) m1) : wp (alc o) m Q := by
  rw [wp_alc]
  exact h _ _ (Ge.app _) (by simp) (Nat.le_refl _) (by simp) (by simp)
def ixW (o : Option O) (i : Int) (m : Mu) (Q : D → Mu → Prop) : Prop := match o with
  | some (.lst xs) => ∃ y, L2.atI xs i = some y ∧ Q y m
  | some (.fls xs) => ∃ y, L2.atI xs i = some y ∧ Q y m
  | some (.dct _ kvs) => wp (opt ((kd (.int i)).bind (dLook kvs))) m Q
  | _ => False
theorem ixW_l {xs : List D} {i : Int} : ixW (some (.lst xs)) i m Q ↔ ∃ y, L2.atI xs i = some y ∧ Q y m := Iff.rfl
theorem ixW_f {xs : List D} {i : Int} : ixW (some (.fls xs)) i m Q ↔ ∃ y, L2.atI xs i = some y ∧ Q y m := Iff.rfl
theorem wp_ixR {n : Nat} {i : Int} : wp (dIx (.ref n) (.int i)) m Q ↔ ixW m[n]? i m Q := by
  have e0 : dIx (.ref n) (.int i) m = match m[n]?, (D.int i) with
    | some (.lst xs), .int i => opt (L2.atI xs i) m
    | some (.fls xs), .int i => opt (L2.atI xs i) m
    | some (.dct _ kvs), k => opt ((kd k).bind (dLook kvs)) m
    | _, _ => .bad := rfl
  cases e : m[n]? with
  | none =>
    rw [e] at e0
    rw [wp_fun e0]
    exact bad_iff
  | some o =>
    rw [e] at e0
    cases o with
    | lst xs =>
      have e1 : wp (dIx (.ref n) (.int i)) m Q ↔ wp (opt (L2.atI xs i)) m Q := by rw [wp_fun e0]; rfl
      rw [e1, wp_opt]
      rfl
    | fls xs =>
      have e1 : wp (dIx (.ref n) (.int i)) m Q ↔ wp (opt (L2.atI xs i)) m Q := by rw [wp_fun e0]; rfl
      rw [e1, wp_opt]
      rfl
    | dct _ kvs => rw [wp_fun e0]; rfl
    | ins c fs =>
      rw [wp_fun e0]
      exact bad_iff
    | mp kvs =>
      rw [wp_fun e0]
      exact bad_iff
theorem wp_ixT {xs : List D} {i : Int} : wp (dIx (.tup xs) (.int i)) m Q ↔ ∃ y, L2.atI xs i = some y ∧ Q y m := wp_opt
def lenW (o : Option O) (m : Mu) (Q : D → Mu → Prop) : Prop := match o with
  | some (.lst xs) => Q (.int xs.length) m
  | some (.fls xs) => Q (.int xs.length) m
  | some (.dct _ xs) => Q (.int xs.length) m
  | _ => False
theorem lenW_l {xs : List D} : lenW (some (.lst xs)) m Q ↔ Q (.int xs.length) m := Iff.rfl
theorem lenW_f {xs : List D} : lenW (some (.fls xs)) m Q ↔ Q (.int xs.length) m := Iff.rfl
theorem wp_lenR {n : Nat} : wp (biF .len [.ref n]) m Q ↔ lenW m[n]? m Q := by
  have e0 : biF .len [.ref n] m = match m[n]? with
    | some (.lst xs) => .ok (.int xs.length) m
    | some (.fls xs) => .ok (.int xs.length) m
    | some (.dct _ kvs) => .ok (.int kvs.length) m
    | _ => .bad := rfl
  cases e : m[n]? with
  | none =>
    rw [e] at e0
    rw [wp_fun e0]
    exact bad_iff
  | some o =>
    rw [e] at e0
    cases o with
    | ins c fs =>
      rw [wp_fun e0]
      exact bad_iff
    | mp kvs =>
      rw [wp_fun e0]
      exact bad_iff
    | _ =>
      rw [wp_fun e0]
      exact ok_iff
theorem wp_lenT {xs : List D} : wp (biF .len [.tup xs]) m Q ↔ Q (.int xs.length) m := wp_ret
def lsW (o : Option O) (F : List D → Prop) : Prop := match o with
  | some (.lst xs) => F xs
  | some (.fls xs) => F xs
  | _ => False
theorem lsW_l {xs : List D} {F : List D → Prop} : lsW (some (.lst xs)) F ↔ F xs := Iff.rfl
theorem lsW_f {xs : List D} {F : List D → Prop} : lsW (some (.fls xs)) F ↔ F xs := Iff.rfl
theorem wp_tupR {n : Nat} : wp (biF .tuple [.ref n]) m Q ↔ lsW m[n]? fun xs => Q (.tup xs) m := by
  have e0 : biF .tuple [.ref n] m = match lstAt m n with
    | some xs => .ok (.tup xs) m
    | none => .bad := rfl
  unfold lstAt at e0
  cases e : m[n]? with
  | none =>
    rw [e] at e0
    rw [wp_fun e0]
    exact bad_iff
  | some o =>
    rw [e] at e0
    cases o with
    | lst xs => rw [wp_fun e0]; exact ok_iff
    | fls xs => rw [wp_fun e0]; exact ok_iff
    | _ => rw [wp_fun e0]; exact bad_iff
theorem wp_tupT {xs : List D} : wp (biF .tuple [.tup xs]) m Q ↔ Q (.tup xs) m := wp_ret
theorem wp_listT {xs : List D} : wp (biF .list [.tup xs]) m Q ↔ wp (alc (.lst xs)) m Q := Iff.rfl
theorem wp_cmp {o : Cop} {x y : D} : wp (cmpM o x y) m Q ↔ ∃ d, dCmp m o x y = some d ∧ Q d m := wp_opt
theorem wp_mulI {i j : Int} : wp (dMul (.int i) (.int j)) m Q ↔ (small i ∨ small j) ∧ Q (.int (i * j)) m := by
  show wp (chk _ (ret _)) m Q ↔ _
  rw [wp_chk, wp_ret]
theorem wp_mulT {xs : List D} {k : Int} : wp (dMul (.tup xs) (.int k)) m Q ↔ (xs.length ≤ 1000 ∧ k ≤ 1000 ∧ -1000000 ≤ k) ∧ Q (.tup (List.replicate k.toNat xs).flatten) m := by
  show wp (chk _ (ret _)) m Q ↔ _
  rw [wp_chk, wp_ret]
theorem wp_isi {t : Ty} {x : D} : wp (fun m => opt ((isTy m t x).map .bl) m) m Q ↔ ∃ b, isTy m t x = some b ∧ Q (.bl b) m := by
  unfold wp
  dsimp only
  cases isTy m t x with
  | none => exact ⟨fun h => (bad_iff.mp h).elim, fun ⟨_, h, _⟩ => by cases h⟩
  | some b => exact ⟨fun h => ⟨b, rfl, ok_iff.mp h⟩, fun ⟨_, h, q⟩ => by cases h; exact ok_iff.mpr q⟩
def setW (o : Option O) (n : Nat) (i : Int) (v : D) (m : Mu) (Q : Unit → Mu → Prop) : Prop := match o with
  | some (.lst xs) => ∃ j, L2.ixN xs.length i = some j ∧ Q () (m.set n (.lst (xs.set j v)))
  | some (.dct _ kvs) => wp (dSet (.ref n) (.int i) v) m Q
  | some (.mp kvs) => wp (dSet (.ref n) (.int i) v) m Q
  | _ => False
theorem setW_l {n : Nat} {i : Int} {v : D} {xs : List D} {Q : Unit → Mu → Prop} : setW (some (.lst xs)) n i v m Q ↔ ∃ j, L2.ixN xs.length i = some j ∧ Q () (m.set n (.lst (xs.set j v))) := Iff.rfl
theorem wp_setR {n : Nat} {i : Int} {v : D} {Q : Unit → Mu → Prop} : wp (dSet (.ref n) (.int i) v) m Q ↔ setW m[n]? n i v m Q := by
  cases e : m[n]? with
  | none =>
    have e0 : dSet (.ref n) (.int i) v m = .bad := by
      unfold dSet
      dsimp only
      rw [e]
    rw [wp_fun e0]
    exact bad_iff
  | some o =>
    cases o with
    | lst xs =>
      have e0 : dSet (.ref n) (.int i) v m = (match L2.ixN xs.length i with
        | some j => .ok () (m.set n (.lst (xs.set j v)))
        | none => .bad) := by
        unfold dSet
        dsimp only
        rw [e] <;> rfl
      rw [wp_fun e0, setW_l]
      cases q : L2.ixN xs.length i with
      | none =>
        dsimp only
        rw [bad_iff]
        simp
      | some j =>
        dsimp only
        rw [ok_iff]
        simp
    | fls xs =>
      have e0 : dSet (.ref n) (.int i) v m = .bad := by
        unfold dSet
        dsimp only
        rw [e]
      rw [wp_fun e0]
      exact bad_iff
    | dct _ kvs => exact Iff.rfl
    | ins c fs =>
      have e0 : dSet (.ref n) (.int i) v m = .bad := by
        unfold dSet
        dsimp only
        rw [e]
      rw [wp_fun e0]
      exact bad_iff
    | mp kvs => exact Iff.rfl
theorem wp_minI {i j : Int} : wp (biF .min2 [.int i, .int j]) m Q ↔ Q (.int (if j < i then j else i)) m := wp_ret
theorem wp_maxI {i j : Int} : wp (biF .max2 [.int i, .int j]) m Q ↔ Q (.int (if j > i then j else i)) m := wp_ret
theorem wp_intI {i : Int} : wp (biF .int [.int i]) m Q ↔ Q (.int i) m := wp_ret
theorem wp_intB {b : Bool} : wp (biF .int [.bl b]) m Q ↔ Q (.int (if b then 1 else 0)) m := wp_ret
theorem wp_absI {i : Int} : wp (biF .abs [.int i]) m Q ↔ Q (.int (i.natAbs : Int)) m := by
  have e : ((i.natAbs : Int)) = if i < 0 then -i else i := by split <;> omega
  rw [e]
  exact wp_ret
theorem wp_mod {i j : Int} : wp (dBin .mod (.int i) (.int j)) m Q ↔ j ≠ 0 ∧ Q (.int (i.fmod j)) m := by
  show wp (chk _ (ret _)) m Q ↔ _
  rw [wp_chk, wp_ret]
theorem wp_fdiv {i j : Int} : wp (dBin .fdiv (.int i) (.int j)) m Q ↔ (j ≠ 0 ∧ j.natAbs < 1073741824) ∧ Q (.int (i.fdiv j)) m := by
  show wp (chk _ (ret _)) m Q ↔ _
  rw [wp_chk, wp_ret]
theorem wp_pow {i j : Int} : wp (dBin .pow (.int i) (.int j)) m Q ↔ (0 ≤ j ∧ j ≤ 1000000 ∧ i.natAbs < 2 ^ 64) ∧ Q (.int (i ^ j.toNat)) m := by
  show wp (chk _ (ret _)) m Q ↔ _
  rw [wp_chk, wp_ret]
theorem wp_add {i j : Int} : wp (dBin .add (.int i) (.int j)) m Q ↔ Q (.int (i + j)) m := wp_ret
theorem wp_sub {i j : Int} : wp (dBin .sub (.int i) (.int j)) m Q ↔ Q (.int (i - j)) m := wp_ret
theorem wp_mul {i j : Int} : wp (dBin .mul (.int i) (.int j)) m Q ↔ (small i ∨ small j) ∧ Q (.int (i * j)) m := wp_mulI
theorem wp_mulTI {xs : List D} {k : Int} : wp (dBin .mul (.tup xs) (.int k)) m Q ↔ (xs.length ≤ 1000 ∧ k ≤ 1000 ∧ -1000000 ≤ k) ∧ Q (.tup (List.replicate k.toNat xs).flatten) m := wp_mulT
theorem wp_addT {xs ys : List D} : wp (dBin .add (.tup xs) (.tup ys)) m Q ↔ xs.length + ys.length ≤ sizeLine ∧ Q (.tup (xs ++ ys)) m := by
  show wp (chk _ (ret _)) m Q ↔ _
  rw [wp_chk, wp_ret]
theorem wp_neg {i : Int} : wp (dNeg (.int i)) m Q ↔ Q (.int (-i)) m := wp_ret
theorem wp_slT {xs : List D} {lo hi : Option Int} : wp (dSl (.tup xs) lo hi) m Q ↔ Q (.tup (cut xs lo hi)) m := wp_ret
def slW (o : Option O) (lo hi : Option Int) (m : Mu) (Q : D → Mu → Prop) : Prop := lsW o fun xs => wp (alc (.lst (cut xs lo hi))) m Q
theorem wp_slR {n : Nat} {lo hi : Option Int} : wp (dSl (.ref n) lo hi) m Q ↔ slW m[n]? lo hi m Q := by
  have e0 : dSl (.ref n) lo hi m = match lstAt m n with
    | some xs => alc (.lst (cut xs lo hi)) m
    | none => .bad := rfl
  unfold lstAt at e0
  unfold slW
  cases e : m[n]? with
  | none =>
    rw [e] at e0
    rw [wp_fun e0]
    exact bad_iff
  | some o =>
    rw [e] at e0
    cases o with
    | lst xs => rw [wp_fun e0]; rfl
    | fls xs => rw [wp_fun e0]; rfl
    | _ => rw [wp_fun e0]; exact bad_iff
def lW (o : Option O) (F : List D → Prop) : Prop := match o with
  | some (.lst xs) => F xs
  | _ => False
theorem lW_l {xs : List D} {F : List D → Prop} : lW (some (.lst xs)) F ↔ F xs := Iff.rfl
theorem wp_isLst {n : Nat} {Q : Unit → Mu → Prop} : wp (isLst (.ref n)) m Q ↔ lW m[n]? fun _ => Q () m := by
  have e0 : isLst (.ref n) m = match m[n]? with
    | some (.lst _) => .ok () m
    | _ => .bad := rfl
  cases e : m[n]? with
  | none =>
    rw [e] at e0
    rw [wp_fun e0]
    exact bad_iff
  | some o =>
    rw [e] at e0
    cases o with
    | lst xs => rw [wp_fun e0]; exact ok_iff
    | _ => rw [wp_fun e0]; exact bad_iff
theorem wp_app {n : Nat} {x : D} : wp (meF .append (.ref n) [x]) m Q ↔ lW m[n]? fun xs => xs.length < sizeLine ∧ Q .non (m.set n (.lst (xs ++ [x]))) := by
  have e0 : meF .append (.ref n) [x] m = match m[n]? with
    | some (.lst xs) => if xs.length < sizeLine then .ok .non (m.set n (.lst (xs ++ [x]))) else .bad
    | _ => .bad := rfl
  cases e : m[n]? with
  | none =>
    rw [e] at e0
    rw [wp_fun e0]
    exact bad_iff
  | some o =>
    rw [e] at e0
    cases o with
    | lst xs =>
      rw [wp_fun e0, lW_l]
      by_cases c : xs.length < sizeLine
      · dsimp only
        rw [if_pos c, ok_iff]
        exact ⟨fun h => ⟨c, h⟩, fun h => h.2⟩
      · dsimp only
        rw [if_neg c, bad_iff]
        exact ⟨False.elim, fun h => absurd h.1 c⟩
    | _ => rw [wp_fun e0]; exact bad_iff
theorem wp_popAt {n : Nat} {i : Int} : wp (meF .popAt (.ref n) [.int i]) m Q ↔ lW m[n]? fun xs => ∃ k, L2.ixN xs.length i = some k ∧ ∃ y, xs[k]? = some y ∧ Q y (m.set n (.lst (xs.eraseIdx k))) := by
  have e0 : meF .popAt (.ref n) [.int i] m = match m[n]? with
    | some (.lst xs) => (match L2.ixN xs.length i with
      | some k => (match xs[k]? with
        | some y => .ok y (m.set n (.lst (xs.eraseIdx k)))
        | none => .bad)
      | none => .bad)
    | _ => .bad := rfl
  cases e : m[n]? with
  | none =>
    rw [e] at e0
    rw [wp_fun e0]
    exact bad_iff
  | some o =>
    rw [e] at e0
    cases o with
    | lst xs =>
      rw [wp_fun e0, lW_l]
      dsimp only
      cases q : L2.ixN xs.length i with
      | none =>
        dsimp only
        rw [bad_iff]
        simp
      | some k =>
        dsimp only
        cases q2 : xs[k]? with
        | none =>
          dsimp only
          rw [bad_iff]
          simp [q2]
        | some y =>
          dsimp only
          rw [ok_iff]
          simp [q2]
    | _ => rw [wp_fun e0]; exact bad_iff
theorem wp_srcT {xs : List D} {Q : Src → Mu → Prop} : wp (srcOf (.tup xs)) m Q ↔ Q ⟨xs, []⟩ m := wp_ret
theorem wp_srcR {n : Nat} {Q : Src → Mu → Prop} {xs : List D} (h : m[n]? = some (.lst xs)) : wp (srcOf (.ref n)) m Q ↔ Q ⟨xs, [(n, .lst xs)]⟩ m := by
  have e0 : srcOf (.ref n) m = .ok ⟨xs, [(n, .lst xs)]⟩ m := by
    unfold srcOf
    dsimp only
    rw [h]
  rw [wp_fun e0]
  exact ok_iff
theorem wp_r2 {i j : Int} {Q : Src → Mu → Prop} : wp (srcR2 (.int i) (.int j)) m Q ↔ (boundI i ∧ boundI j) ∧ Q ⟨rngL i (j - i).toNat 1, []⟩ m := by
  show wp (chk _ (ret _)) m Q ↔ _
  rw [wp_chk, wp_ret]
theorem lstAt_l {n : Nat} {xs : List D} (h : m[n]? = some (.lst xs)) : lstAt m n = some xs := by
  unfold lstAt
  rw [h]
theorem lstAt_f {n : Nat} {xs : List D} (h : m[n]? = some (.fls xs)) : lstAt m n = some xs := by
  unfold lstAt
  rw [h]
theorem atI_nat {α : Type} {xs : List α} {i : Int} (h0 : 0 ≤ i) (h1 : i < xs.length) : ∃ y, L2.atI xs i = some y ∧ xs[i.toNat]? = some y := by
  have hl : i.toNat < xs.length := by omega
  refine ⟨xs[i.toNat], ?_, List.getElem?_eq_getElem hl⟩
  unfold L2.atI L2.ixN
  rw [if_pos h0, if_pos h1]
  exact List.getElem?_eq_getElem hl
theorem ixN_nat {n : Nat} {i : Int} (h0 : 0 ≤ i) (h1 : i < n) : L2.ixN n i = some i.toNat := by
  unfold L2.ixN
  rw [if_pos h0, if_pos h1]
theorem at0 {α : Type} {x : α} {xs : List α} : L2.atI (x :: xs) 0 = some x := by
  obtain ⟨y, h1, h2⟩ := atI_nat (xs := x :: xs) (i := 0) (by omega) (by rw [List.length_cons]; omega)
  rw [h1, ← h2]
  rfl
theorem at1 {α : Type} {x y : α} {xs : List α} : L2.atI (x :: y :: xs) 1 = some y := by
  obtain ⟨y, h1, h2⟩ := atI_nat (xs := x :: y :: xs) (i := 1) (by omega) (by rw [List.length_cons, List.length_cons]; omega)
  rw [h1, ← h2]
  rfl
theorem ix0 {α : Type} {x : α} {xs : List α} : L2.ixN (x :: xs).length 0 = some 0 := ixN_nat (by omega) (by simp only [List.length_cons]; omega)
theorem ix1 {α : Type} {x y : α} {xs : List α} : L2.ixN (x :: y :: xs).length 1 = some 1 := ixN_nat (by omega) (by simp only [List.length_cons]; omega)
theorem cmp_lt {i j : Int} : dCmp m .lt (.int i) (.int j) = some (.bl (decide (i < j))) := rfl
theorem cmp_le {i j : Int} : dCmp m .le (.int i) (.int j) = some (.bl (decide (i ≤ j))) := rfl
theorem cmp_gt {i j : Int} : dCmp m .gt (.int i) (.int j) = some (.bl (decide (j < i))) := rfl
theorem cmp_ge {i j : Int} : dCmp m .ge (.int i) (.int j) = some (.bl (decide (j ≤ i))) := rfl
theorem cmp_eq {x y : D} : dCmp m .eq x y = (eqD m x y).map .bl := rfl
theorem cmp_ne {x y : D} : dCmp m .ne x y = (eqD m x y).map fun b => .bl (!b) := rfl
theorem eqD_int {i j : Int} : eqD m (.int i) (.int j) = some (decide (i = j)) := by
  show some (PyData.eqv (.int i) (.int j)) = _
  have : PyData.eqv (.int i) (.int j) = decide (i = j) := by
    show (i == j) = _
    by_cases c : i = j
    · rw [decide_eq_true c, c]
      exact beq_self_eq_true j
    · rw [decide_eq_false c]
      exact beq_eq_false_iff_ne.mpr c
  rw [this]
theorem eqD_bl {i j : Bool} : eqD m (.bl i) (.bl j) = some (i == j) := by
  cases i <;> cases j <;> rfl
theorem cmp_is {x y : D} : dCmp m .is x y = (dIs x y).map .bl := rfl
theorem cmp_isn {x y : D} : dCmp m .isn x y = (dIs x y).map fun b => .bl (!b) := rfl
theorem dIs_bl {a b : Bool} : dIs (.bl a) (.bl b) = some (a == b) := rfl
theorem dIs_tn {xs : List D} : dIs (.tup xs) .non = some false := rfl
theorem dIs_nn : dIs .non .non = some true := rfl
theorem opt_map {α β : Type} {a : α} {f : α → β} : (some a).map f = some (f a) := rfl
theorem asg_one {i : Nat} {d : D} {ρ : Env} : asg (.one i) d ρ = some (ρ.set i (some d)) := rfl
theorem Gr.setN {m m' : Mu} {r k : Nat} {o : O} (g : Gr r m m') (h : m.length ≤ k) : Gr r m (m'.set k o) := ⟨by simpa using g.1, fun n h1 h2 => by rw [List.getElem?_set_ne (by omega)]; exact g.2 n h1 h2⟩
theorem Ge.setN {m m' : Mu} {k : Nat} {o : O} (g : Ge m m') (h : m.length ≤ k) : Ge m (m'.set k o) := ⟨by simpa using g.1, fun n h2 => by rw [List.getElem?_set_ne (by omega)]; exact g.2 n h2⟩
theorem getS {m : Mu} {k n : Nat} {o o' : O} (h : m[n]? = some o) (ne : k ≠ n) : (m.set k o')[n]? = some o := by rw [List.getElem?_set_ne ne, h]
theorem getSS {m : Mu} {n : Nat} {o o' : O} (h : m[n]? = some o) : (m.set n o')[n]? = some o' := List.getElem?_set_self (lt_of_get h)
theorem mapO_int {m : Mu} {f : Nat} : ∀ l : List Int, mapO (pd m (f + 1)) (l.map D.int) = some (l.map PyData.int)
  | [] => rfl
  | i :: r => by
    show (match pd m (f + 1) (.int i) with
      | some y => (mapO (pd m (f + 1)) (r.map D.int)).map (y :: ·)
      | none => none) = _
    rw [mapO_int r]
    rfl
theorem asg_two {i j : Nat} {a b : D} {ρ : Env} : asg (.many [i, j]) (.tup [a, b]) ρ = some ((ρ.set i (some a)).set j (some b)) := rfl
theorem wp_srcST {xs : List D} {Q : Src → Mu → Prop} : wp (srcS (.tup xs)) m Q ↔ Q ⟨xs, []⟩ m := wp_ret
theorem isTy_bb {b : Bool} : isTy m .bool (.bl b) = some true := rfl
theorem wipe_nil {ρ : Env} : wipeD ρ [] = ρ := rfl
theorem wipe_cons {ρ : Env} {v : Nat} {vs : List Nat} : wipeD ρ (v :: vs) = (wipeD ρ vs).set v none := rfl
end
end Af
namespace Af
open PySem
def ss_law_feed_5 : Ss := .cons (.rt (.lst (.cons (.var 3) (.cons (.bin .add (.bin .mod (.bin .pow (.var 4) (.k (.int 5))) (.k (.int 2147483587))) (.k (.int 1))) .nil)))) .nil
def ss_law_feed_4 : Ss := .cons (.set 4 (.bin .mod (.bin .add (.bin .add (.bin .mul (.bin .mod (.var 2) (.k (.int 2147483647))) (.k (.int 48271))) (.bin .mul (.k (.int 7919)) (.var 1))) (.k (.int 5))) (.k (.int 2147483629)))) ss_law_feed_5
def ss_law_feed_3 : Ss := .cons (.ite (.cmp .ge (.var 2) (.bin .pow (.k (.int 10)) (.k (.int 18)))) (.cons (.set 3 (.bin .sub (.var 2) (.bin .pow (.k (.int 10)) (.k (.int 18))))) .nil) .nil) ss_law_feed_4
def ss_law_feed_2 : Ss := .cons (.set 3 (.k (.int 0))) ss_law_feed_3
def ss_law_feed_1 : Ss := .cons (.ite (.cmp .lt (.var 1) (.bi .len (.cons (.var 0) .nil))) (.cons (.set 2 (.ix (.var 0) (.var 1))) .nil) .nil) ss_law_feed_2
def ss_law_feed_0 : Ss := .cons (.set 2 (.k (.int 0))) ss_law_feed_1
def fn_law_feed : Fn := ⟨2, 5, ss_law_feed_0⟩
def ss_law_take_2 : Ss := .cons (.rt (.bin .mod (.bin .fdiv (.ix (.var 0) (.k (.int 1))) (.k (.int 8191))) (.var 1))) .nil
def ss_law_take_1 : Ss := .cons (.setI (.var 0) (.k (.int 1)) (.bin .mod (.bin .add (.bin .mul (.ix (.var 0) (.k (.int 1))) (.k (.int 69621))) (.k (.int 12345))) (.k (.int 2147483647)))) ss_law_take_2
def ss_law_take_0 : Ss := .cons (.ite (.cmp .gt (.ix (.var 0) (.k (.int 0))) (.k (.int 0))) (.cons (.set 2 (.bin .mod (.ix (.var 0) (.k (.int 0))) (.var 1))) (.cons (.setI (.var 0) (.k (.int 0)) (.bin .fdiv (.ix (.var 0) (.k (.int 0))) (.var 1))) (.cons (.rt (.var 2)) .nil))) .nil) ss_law_take_1
def fn_law_take : Fn := ⟨2, 3, ss_law_take_0⟩
def ss_law_pick_0 : Ss := .cons (.rt (.ix (.var 1) (.call "_law_take" (.cons (.var 0) (.cons (.bi .len (.cons (.var 1) .nil)) .nil))))) .nil
def fn_law_pick : Fn := ⟨2, 2, ss_law_pick_0⟩
def ss_law_whole_0 : Ss := .cons (.rt (.and (.isi .int (.var 0)) (.not (.isi .bool (.var 0))))) .nil
def fn_law_whole : Fn := ⟨1, 1, ss_law_whole_0⟩
def ss_law_row_4b_0 : Ss := .cons (.ex (.me .append (.var 5) (.cons (.me .popAt (.var 4) (.cons (.call "_law_take" (.cons (.var 0) (.cons (.bi .len (.cons (.var 4) .nil)) .nil))) .nil)) .nil))) .nil
def ss_law_row_5 : Ss := .cons (.rt (.bi .tuple (.cons (.comp [7] (.one 7) (.exp (.bi .sorted (.cons (.var 5) .nil))) (.ix (.lst (.cons (.var 7) (.cons (.neg (.var 7)) .nil))) (.call "_law_take" (.cons (.var 0) (.cons (.k (.int 2)) .nil))))) .nil))) .nil
def ss_law_row_4 : Ss := .cons (.for (.one 6) (.rng1 (.var 3)) ss_law_row_4b_0) ss_law_row_5
def ss_law_row_3 : Ss := .cons (.set 5 (.lst .nil)) ss_law_row_4
def ss_law_row_2 : Ss := .cons (.set 4 (.lrng2 false (.k (.int 1)) (.bin .add (.var 1) (.k (.int 1))))) ss_law_row_3
def ss_law_row_1 : Ss := .cons (.set 3 (.bi .min2 (.cons (.var 1) (.cons (.call "_law_pick" (.cons (.var 0) (.cons (.var 2) .nil))) .nil)))) ss_law_row_2
def ss_law_row_0 : Ss := .cons (.set 2 (.lst (.cons (.k (.int 1)) (.cons (.k (.int 2)) (.cons (.k (.int 2)) (.cons (.k (.int 3)) (.cons (.k (.int 3)) (.cons (.k (.int 4)) (.cons (.k (.int 2)) (.cons (.k (.int 3)) (.cons (.k (.int 1)) (.cons (.bin .add (.k (.int 5)) (.call "_law_take" (.cons (.var 0) (.cons (.k (.int 4)) .nil)))) (.cons (.k (.int 2)) (.cons (.bin .mul (.k (.int 2)) (.bi .int (.cons (.cmp .gt (.call "_law_take" (.cons (.var 0) (.cons (.k (.int 6)) .nil))) (.k (.int 0))) .nil))) .nil)))))))))))))) ss_law_row_1
def fn_law_row : Fn := ⟨2, 8, ss_law_row_0⟩
def ss_law_claim_7 : Ss := .cons (.rt (.tup (.cons (.bi .tuple (.cons (.var 5) .nil)) (.cons (.bi .tuple (.cons (.slU (.var 8) (.var 2)) .nil)) .nil)))) .nil
def ss_law_claim_6 : Ss := .cons (.ite (.and (.cmp .ne (.var 8) (.lst .nil)) (.cmp .eq (.call "_law_take" (.cons (.var 0) (.cons (.k (.int 6)) .nil))) (.k (.int 0)))) (.cons (.ex (.me .append (.var 8) (.cons (.call "_law_pick" (.cons (.var 0) (.cons (.var 8) .nil))) .nil))) .nil) .nil) ss_law_claim_7
def ss_law_claim_5 : Ss := .cons (.set 8 (.comp [6] (.one 6) (.rng1 (.bi .min2 (.cons (.var 2) (.cons (.var 7) .nil)))) (.call "_law_row" (.cons (.var 0) (.cons (.var 3) .nil))))) ss_law_claim_6
def ss_law_claim_4 : Ss := .cons (.set 7 (.call "_law_pick" (.cons (.var 0) (.cons (.lst (.cons (.var 3) (.cons (.bin .add (.var 3) (.bin .fdiv (.var 3) (.k (.int 2)))) (.cons (.bin .mul (.k (.int 2)) (.var 3)) (.cons (.bin .add (.bin .fdiv (.var 3) (.k (.int 2))) (.k (.int 1))) (.cons (.call "_law_take" (.cons (.var 0) (.cons (.bin .add (.var 2) (.k (.int 1))) .nil))) (.cons (.k (.int 2)) .nil))))))) .nil)))) ss_law_claim_5
def ss_law_claim_3 : Ss := .cons (.ite (.cmp .eq (.var 4) (.k (.int 0))) (.cons (.set 5 (.comp [6] (.one 6) (.rng1 (.var 3)) (.ix (.lst (.cons (.k (.str "some")) (.cons (.k (.str "all")) .nil))) (.bin .mod (.var 6) (.k (.int 2)))))) .nil) .nil) ss_law_claim_4
def ss_law_claim_2 : Ss := .cons (.set 5 (.comp [6] (.one 6) (.rng1 (.var 3)) (.call "_law_pick" (.cons (.var 0) (.cons (.lst (.cons (.k (.str "all")) (.cons (.k (.str "some")) .nil))) .nil))))) ss_law_claim_3
def ss_law_claim_1 : Ss := .cons (.set 4 (.call "_law_take" (.cons (.var 0) (.cons (.k (.int 4)) .nil)))) ss_law_claim_2
def ss_law_claim_0 : Ss := .cons (.set 3 (.call "_law_pick" (.cons (.var 0) (.cons (.lst (.cons (.var 1) (.cons (.bin .sub (.var 1) (.k (.int 1))) (.cons (.var 1) (.cons (.bin .sub (.var 1) (.k (.int 2))) (.cons (.var 1) (.cons (.call "_law_take" (.cons (.var 0) (.cons (.bin .add (.var 1) (.k (.int 1))) .nil))) .nil))))))) .nil)))) ss_law_claim_1
def fn_law_claim : Fn := ⟨3, 9, ss_law_claim_0⟩
structure Shr (t : Str → Option Fn) : Prop where
  feed : t "_law_feed" = some fn_law_feed
  take : t "_law_take" = some fn_law_take
  pick : t "_law_pick" = some fn_law_pick
  whole : t "_law_whole" = some fn_law_whole
  row : t "_law_row" = some fn_law_row
  claim : t "_law_claim" = some fn_law_claim
def Fd (m : Mu) (r : Nat) : Prop := ∃ a b : Int, m[r]? = some (.lst [.int a, .int b]) ∧ 0 ≤ a ∧ 0 ≤ b
theorem Fd.lt {m : Mu} {r : Nat} (h : Fd m r) : r < m.length := by
  obtain ⟨a, b, e, _⟩ := h
  exact lt_of_get e
theorem Fd.ge {m m' : Mu} {r : Nat} (h : Fd m r) (g : Ge m m') : Fd m' r := by
  obtain ⟨a, b, e, h1, h2⟩ := h
  exact ⟨a, b, g.get e, h1, h2⟩
section
variable {t : Str → Option Fn} {w n : Nat} {m : Mu} {r : Nat}
theorem rngI_len {lo c : Int} {n : Nat} : (rngL lo n c).length = n := by simp [rngL]
theorem rngI_get {lo c : Int} {n : Nat} {d : D} (h : d ∈ rngL lo n c) : ∃ i : Nat, i < n ∧ d = .int (lo + i * c) := by
  unfold rngL at h
  obtain ⟨i, hi, rfl⟩ := List.mem_map.mp h
  exact ⟨i, List.mem_range.mp hi, rfl⟩
end
end Af
namespace Af
open PySem
section
variable {m : Mu} {Q : D → Mu → Prop}
theorem sIx_pos {n d : Nat} {k : Int} (h : 0 ≤ k) : HT.sIx n d (some k) = min k.toNat n := by
  show (if k < 0 then (k + (n : Int)).toNat else min k.toNat n) = _
  rw [if_neg (by omega)]
theorem cut_U {xs : List D} {k : Int} (h : 0 ≤ k) : cut xs none (some k) = xs.take k.toNat := by
  unfold cut
  rw [sIx_pos h, HT.sIx_none, List.drop_zero, Nat.sub_zero]
  by_cases c : k.toNat ≤ xs.length
  · rw [Nat.min_eq_left c]
  · rw [Nat.min_eq_right (by omega), List.take_length, List.take_of_length_le (by omega)]
theorem cut_L {xs : List D} {k : Int} (h : 0 ≤ k) : cut xs (some k) none = xs.drop k.toNat := by
  unfold cut
  rw [sIx_pos h, HT.sIx_none]
  by_cases c : k.toNat ≤ xs.length
  · rw [Nat.min_eq_left c]
    exact List.take_of_length_le (by rw [List.length_drop]; omega)
  · rw [Nat.min_eq_right (by omega), List.drop_length, List.drop_eq_nil_of_le (by omega), List.take_nil]
theorem pd_rl {f n : Nat} : pd m (f + 1) (.ref n) = (match lstAt m n with
    | some xs => (mapO (pd m f) xs).map .list
    | none => none) := rfl
theorem pd_t {f : Nat} {xs : List D} : pd m (f + 1) (.tup xs) = (mapO (pd m f) xs).map .tuple := rfl
theorem mapO_all {α β : Type} {f : α → Option β} : ∀ {xs : List α}, (∀ x ∈ xs, ∃ y, f x = some y) → ∃ ys, mapO f xs = some ys
  | [], _ => ⟨[], rfl⟩
  | x :: xs, h => by
    obtain ⟨y, e⟩ := h x List.mem_cons_self
    obtain ⟨ys, e2⟩ := mapO_all (xs := xs) fun z hz => h z (List.mem_cons_of_mem _ hz)
    exact ⟨y :: ys, by unfold mapO; rw [e]; dsimp only; rw [e2]; rfl⟩
end
section
variable {t : Str → Option Fn} {w n : Nat} {m : Mu} {r : Nat}
end
end Af
namespace Af
open PySem
section
variable {m m' : Mu}
theorem lst_of {n : Nat} {xs : List D} (h : lstAt m n = some xs) : m[n]? = some (.lst xs) ∨ m[n]? = some (.fls xs) := by
  unfold lstAt at h
  split at h
  · cases h; exact .inl (by assumption)
  · cases h; exact .inr (by assumption)
  · cases h
theorem lstAt_ge (g : Ge m m') {n : Nat} {xs : List D} (h : lstAt m n = some xs) : lstAt m' n = some xs := by
  rcases lst_of h with h | h
  · exact lstAt_l (g.get h)
  · exact lstAt_f (g.get h)
mutual
theorem pd_ge (g : Ge m m') : ∀ (f : Nat) (d : D) (x : PyData), pd m f d = some x → pd m' f d = some x
  | f, .non, x, h => by cases f <;> exact h
  | f, .bl _, x, h => by cases f <;> exact h
  | f, .int _, x, h => by cases f <;> exact h
  | f, .str _, x, h => by cases f <;> exact h
  | f, .exo _, x, h => by cases f <;> cases h
  | 0, .tup _, x, h => by cases h
  | 0, .ref _, x, h => by cases h
  | f + 1, .tup xs, x, h => by
    rw [pd_t] at h ⊢
    cases e : mapO (pd m f) xs with
    | none => rw [e] at h; cases h
    | some ys => rw [mapO_ge g f xs ys e]; rw [e] at h; exact h
  | f + 1, .ref n, x, h => by
    rw [pd_rl] at h ⊢
    cases e1 : lstAt m n with
    | none => rw [e1] at h; cases h
    | some xs =>
      rw [e1] at h
      rw [lstAt_ge g e1]
      dsimp only at h ⊢
      cases e : mapO (pd m f) xs with
      | none => rw [e] at h; cases h
      | some ys => rw [mapO_ge g f xs ys e]; rw [e] at h; exact h
termination_by f => (f, 0)
theorem mapO_ge (g : Ge m m') : ∀ (f : Nat) (xs : List D) (ys : List PyData), mapO (pd m f) xs = some ys → mapO (pd m' f) xs = some ys
  | f, [], ys, h => h
  | f, x :: xs, ys, h => by
    unfold mapO at h ⊢
    cases e : pd m f x with
    | none => rw [e] at h; cases h
    | some y =>
      rw [e] at h
      rw [pd_ge g f x y e]
      dsimp only at h ⊢
      cases e2 : mapO (pd m f) xs with
      | none => rw [e2] at h; cases h
      | some zs => rw [mapO_ge g f xs zs e2]; rw [e2] at h; exact h
termination_by f xs => (f, xs.length + 1)
end
end
def Sh (m : Mu) (f k : Nat) (d : D) : Prop := ∃ x, pd m f d = some x ∧ x.showable = true ∧ x.shown.length ≤ k
section
variable {m m' : Mu} {f k j : Nat}
theorem Sh.ge {d : D} (h : Sh m f k d) (g : Ge m m') : Sh m' f k d := by
  obtain ⟨x, e, a⟩ := h
  exact ⟨x, pd_ge g f d x e, a⟩
theorem Sh.le {d : D} (h : Sh m f k d) (g : k ≤ j) : Sh m f j d := by
  obtain ⟨x, e, a, b⟩ := h
  exact ⟨x, e, a, Nat.le_trans b g⟩
theorem Sh.non : Sh m f 4 .non := ⟨.none, by cases f <;> rfl, rfl, by decide⟩
theorem Sh.bl {b : Bool} : Sh m f 5 (.bl b) := ⟨.bool b, by cases f <;> rfl, rfl, by cases b <;> decide⟩
theorem Sh.int {i : Int} (h : i.natAbs < 10 ^ 12) : Sh m f 13 (.int i) := by
  refine ⟨.int i, by cases f <;> rfl, ?_, PyData.shown_int_le h⟩
  rw [PyData.showable]
  refine decide_eq_true ?_
  by_cases c : i.natAbs = 0
  · rw [c]; decide
  · have : i.natAbs.log2 < 40 := (Nat.log2_lt c).mpr (Nat.lt_trans h (by decide))
    omega
theorem Sh.str {x : Str} (h1 : PyData.strOk x = true) (h2 : (PyData.shown (.str x)).length ≤ k) : Sh m f k (.str x) := ⟨.str x, by cases f <;> (show (if PyData.strOk x = true then some (PyData.str x) else none) = _; exact if_pos h1), rfl, h2⟩
theorem mapO_sh : ∀ {xs : List D}, (∀ x ∈ xs, Sh m f k x) → ∃ ys, mapO (pd m f) xs = some ys ∧ PyData.showableAll ys = true ∧ (((PyData.shownAll ys).map (·.length)).sum ≤ xs.length * k) ∧ (PyData.shownAll ys).length = xs.length
  | [], _ => ⟨[], rfl, rfl, by simp [PyData.shownAll], rfl⟩
  | x :: xs, h => by
    obtain ⟨y, e, a, b⟩ := h x List.mem_cons_self
    obtain ⟨ys, e2, a2, b2, c2⟩ := mapO_sh (xs := xs) fun z hz => h z (List.mem_cons_of_mem _ hz)
    refine ⟨y :: ys, by unfold mapO; rw [e]; dsimp only; rw [e2]; rfl, ?_, ?_, ?_⟩
    · rw [PyData.showableAll, a, a2]; rfl
    · rw [PyData.shownAll, List.map_cons, List.sum_cons, List.length_cons, Nat.add_mul, Nat.one_mul]
      omega
    · rw [PyData.shownAll, List.length_cons, List.length_cons, c2]
theorem Sh.tup {xs : List D} (h : ∀ x ∈ xs, Sh m f k x) : Sh m (f + 1) (xs.length * (k + 2) + 3) (.tup xs) := by
  obtain ⟨ys, e, a, b, c⟩ := mapO_sh h
  refine ⟨.tuple ys, by rw [pd_t, e]; rfl, by rw [PyData.showable]; exact a, ?_⟩
  rw [PyData.shown]
  have := tupleText_len_le (PyData.shownAll ys)
  rw [c] at this
  rw [Nat.mul_add]
  omega
theorem Sh.lst {n : Nat} {xs : List D} (hn : lstAt m n = some xs) (h : ∀ x ∈ xs, Sh m f k x) : Sh m (f + 1) (xs.length * (k + 2) + 3) (.ref n) := by
  obtain ⟨ys, e, a, b, c⟩ := mapO_sh h
  refine ⟨.list ys, by rw [pd_rl, hn]; dsimp only; rw [e]; rfl, by rw [PyData.showable]; exact a, ?_⟩
  rw [PyData.shown]
  have := listText_len_le (PyData.shownAll ys)
  rw [c] at this
  rw [Nat.mul_add]
  omega
theorem eqD_str {x y : Str} : eqD m (.str x) (.str y) = some (x == y) := rfl
theorem mapO_bl {α : Type} {g : α → Bool} : ∀ xs : List α, mapO (pd m f) (xs.map fun x => D.bl (g x)) = some (xs.map fun x => PyData.bool (g x))
  | [] => rfl
  | x :: r => by
    have e : pd m f (D.bl (g x)) = some (.bool (g x)) := by cases f <;> rfl
    rw [List.map_cons, mapO, e]
    dsimp only
    rw [mapO_bl r]
    rfl
theorem inL_bls {α : Type} {g : α → Bool} (xs : List α) : inL m (.bl false) (xs.map fun x => D.bl (g x)) = some (!(xs.all g)) := by
  unfold inL
  rw [mapO_bl]
  show some _ = _
  congr 1
  induction xs with
  | nil => rfl
  | cons x r ih =>
    rw [List.map_cons, List.any_cons, List.all_cons, ih]
    cases g x <;> rfl
end
end Af
namespace Af
open PySem
def ss_is_right_0 : Ss := .cons (.rt (.and (.cmp .le (.bi .abs (.cons (.var 0) .nil)) (.bi .len (.cons (.var 1) .nil))) (.cmp .eq (.ix (.var 1) (.bin .sub (.bi .abs (.cons (.var 0) .nil)) (.k (.int 1)))) (.cmp .gt (.var 0) (.k (.int 0)))))) .nil
def fn_is_right : Fn := ⟨2, 2, ss_is_right_0⟩
def ss_is_open_0 : Ss := .cons (.rt (.cmp .gt (.bi .abs (.cons (.var 0) .nil)) (.bi .len (.cons (.var 1) .nil)))) .nil
def fn_is_open : Fn := ⟨2, 2, ss_is_open_0⟩
def ss_is_kept_0 : Ss := .cons (.rt (.bi .any (.cons (.comp [2] (.one 2) (.exp (.var 0)) (.call "is_right" (.cons (.var 2) (.cons (.var 1) .nil)))) .nil))) .nil
def fn_is_kept : Fn := ⟨2, 3, ss_is_kept_0⟩
def ss_is_lost_0 : Ss := .cons (.rt (.not (.bi .any (.cons (.comp [2] (.one 2) (.exp (.var 0)) (.or (.call "is_right" (.cons (.var 2) (.cons (.var 1) .nil))) (.call "is_open" (.cons (.var 2) (.cons (.var 1) .nil))))) .nil)))) .nil
def fn_is_lost : Fn := ⟨2, 3, ss_is_lost_0⟩
def ss_all_kept_0 : Ss := .cons (.rt (.bi .all (.cons (.comp [2] (.one 2) (.exp (.ix (.var 0) (.k (.int 1)))) (.call "is_kept" (.cons (.var 2) (.cons (.var 1) .nil)))) .nil))) .nil
def fn_all_kept : Fn := ⟨2, 3, ss_all_kept_0⟩
def rightB (bs : List Bool) (l : Int) : Bool := match bs[l.natAbs - 1]? with
  | some b => b == decide (0 < l)
  | none => false
def openB (bs : List Bool) (l : Int) : Bool := decide (bs.length < l.natAbs)
def keptB (bs : List Bool) (ls : List Int) : Bool := ls.any (rightB bs)
abbrev bsD (bs : List Bool) : D := .tup (bs.map D.bl)
abbrev lsD (ls : List Int) : D := .tup (ls.map D.int)
abbrev clD (ks : List D) (rss : List (List Int)) : D := .tup [.tup ks, .tup (rss.map lsD)]
def RowL (many : Int) (ls : List Int) : Prop := (ls.map Int.natAbs).Pairwise (· < ·) ∧ ∀ l ∈ ls, 1 ≤ l.natAbs ∧ (l.natAbs : Int) ≤ many
def nz (ls : List Int) : Prop := ∀ l ∈ ls, l ≠ 0
theorem RowL.nz {many : Int} {ls : List Int} (h : RowL many ls) : nz ls := fun l hl => by
  have := h.2 l hl
  omega
theorem asc_len {b : Nat} : ∀ {l : List Nat} {a : Nat}, l.Pairwise (· < ·) → (∀ x ∈ l, a < x ∧ x ≤ b) → l.length ≤ b - a
  | [], _, _, _ => Nat.zero_le _
  | x :: r, a, h1, h2 => by
    obtain ⟨p1, p2⟩ := List.pairwise_cons.mp h1
    have := h2 x List.mem_cons_self
    have ih := asc_len (l := r) (a := x) p2 fun y hy => ⟨p1 y hy, (h2 y (List.mem_cons_of_mem _ hy)).2⟩
    rw [List.length_cons]
    omega
theorem RowL.len {many : Int} {ls : List Int} (h : RowL many ls) : (ls.length : Int) ≤ many.toNat := by
  have := asc_len (l := ls.map Int.natAbs) (a := 0) (b := many.toNat) h.1 fun x hx => by
    obtain ⟨l, hl, rfl⟩ := List.mem_map.mp hx
    have := h.2 l hl
    omega
  rw [List.length_map] at this
  omega
theorem fmIf {α β : Type} {p : α → Bool} {f : α → β} : ∀ l : List α, l.filterMap (fun x => if p x then some (f x) else none) = (l.filter p).map f
  | [] => rfl
  | x :: r => by
    rw [List.filterMap_cons, List.filter_cons, fmIf r]
    cases p x <;> rfl
theorem fmS {α β : Type} {f : α → β} (l : List α) : l.filterMap (fun x => some (f x)) = l.map f := by
  induction l with
  | nil => rfl
  | cons x r ih => rw [List.filterMap_cons, ih]; rfl
theorem wp_loopG {α : Type} {f : α → D} {g : α → Option D} {a : List (Nat × O)} {body : D → M (Option D)} {m : Mu} {Q : List D → Mu → Prop} (hs : ∀ m', Ge m m' → stays a m') (l : List α) (hb : ∀ x ∈ l, ∀ m', Ge m m' → wp (body (f x)) m' fun r m'' => r = g x ∧ Ge m' m'')
    (hn : ∀ m', Ge m m' → Q (l.filterMap g) m') : wp (loopC a body (l.map f) []) m Q := by
  refine wp_loopC (J := fun ys acc m' => ∃ r, ys = r.map f ∧ Ge m m' ∧ acc ++ r.filterMap g = l.filterMap g ∧ ∀ y ∈ r, y ∈ l) (fun _ _ _ ⟨_, _, h, _⟩ => hs _ h) (fun x ys acc m' h => ?_) (fun acc m' h => ?_) _ [] m ⟨l, rfl, .refl, rfl, fun _ h => h⟩
  · obtain ⟨r, e, h1, h2, h3⟩ := h
    cases r with
    | nil => cases e
    | cons z r =>
      cases e
      refine wp_mono (hb z (h3 z List.mem_cons_self) m' h1) fun v m'' ⟨e, g'⟩ => ?_
      subst e
      rw [List.filterMap_cons] at h2
      cases q : g z with
      | none =>
        rw [q] at h2
        exact ⟨r, rfl, h1.trans g', h2, fun y hy => h3 y (List.mem_cons_of_mem _ hy)⟩
      | some d =>
        rw [q] at h2
        exact ⟨r, rfl, h1.trans g', by rw [← h2]; simp, fun y hy => h3 y (List.mem_cons_of_mem _ hy)⟩
  · obtain ⟨r, e, h1, h2, h3⟩ := h
    cases r with
    | nil =>
      rw [List.filterMap_nil, List.append_nil] at h2
      rw [h2]
      exact hn m' h1
    | cons z r => cases e
theorem wp_loopA {body : D → M (Option D)} {m : Mu} {Q : List D → Mu → Prop} {P : D → Prop} {I : Mu → Prop} (xs : List D) (hb : ∀ x ∈ xs, ∀ m', I m' → wp (body x) m' fun r m'' => ∃ d, r = some d ∧ P d ∧ I m'') (h0 : I m)
    (hn : ∀ acc m', (∀ k ∈ acc, P k) → acc.length = xs.length → I m' → Q acc m') : wp (loopC [] body xs []) m Q := by
  refine wp_loopC (a := []) (J := fun ys acc m' => (∀ y ∈ ys, y ∈ xs) ∧ (∀ k ∈ acc, P k) ∧ acc.length + ys.length = xs.length ∧ I m') (fun _ _ _ _ => trivial) (fun x ys acc m' h => ?_) (fun acc m' h => ?_) xs [] m ⟨fun _ h => h, fun _ h => (by cases h), by simp, h0⟩
  · obtain ⟨h1, h2, h3, h4⟩ := h
    refine wp_mono (hb x (h1 x List.mem_cons_self) m' h4) fun v m'' ⟨d, e, p, i⟩ => ?_
    subst e
    refine ⟨fun y hy => h1 y (List.mem_cons_of_mem _ hy), fun k hk => ?_, by rw [List.length_append, List.length_cons, List.length_nil]; rw [List.length_cons] at h3; omega, i⟩
    rcases List.mem_append.mp hk with hk | hk
    · exact h2 k hk
    · rw [List.mem_singleton.mp hk]
      exact p
  · exact hn acc m' h.2.1 (by have := h.2.2.1; simpa using this) h.2.2.2
section
variable {t : Str → Option Fn} {w n : Nat} {m : Mu} {bs : List Bool} {ls : List Int}
theorem mem_rep {α : Type} {x : α} {xs : List α} {k : Nat} (h : x ∈ (List.replicate k xs).flatten) : x ∈ xs := by
  obtain ⟨l, h1, h2⟩ := List.mem_flatten.mp h
  rw [(List.mem_replicate.mp h1).2] at h2
  exact h2
theorem len_rep {α : Type} {xs : List α} {k : Nat} : ((List.replicate k xs).flatten).length = k * xs.length := by
  rw [List.length_flatten, List.map_replicate, List.sum_replicate_nat]
end
end Af
namespace Af
open PySem
def ss_is_whole_0 : Ss := .cons (.rt (.and (.isi .int (.var 0)) (.not (.isi .bool (.var 0))))) .nil
def fn_is_whole : Fn := ⟨1, 1, ss_is_whole_0⟩
section
variable {m : Mu}
theorem cmp_in {x y : D} : dCmp m .in x y = (dIn m x y).map .bl := rfl
theorem dIn_l {x : D} {a : Nat} {xs : List D} (h : m[a]? = some (.lst xs)) : dIn m x (.ref a) = inL m x xs := by
  show (match m[a]? with
    | some (.lst xs) => inL m x xs
    | some (.fls xs) => inL m x xs
    | some (.dct _ kvs) => (kd x).map fun k => (dLook kvs k).isSome
    | _ => none) = _
  rw [h]
end
section
variable {t : Str → Option Fn} {w n : Nat} {m : Mu}
end
end Af
namespace Af
open PySem
def ss_other_of_0 : Ss := .cons (.rt (.ite (.cmp .eq (.var 0) (.k (.str "all"))) (.k (.str "some")) (.k (.str "all")))) .nil
def fn_other_of : Fn := ⟨1, 1, ss_other_of_0⟩
def ss_winner_4 : Ss := .cons (.rt (.call "other_of" (.cons (.var 3) .nil))) .nil
def ss_winner_3 : Ss := .cons (.ite (.or (.cmp .eq (.call "winner" (.cons (.var 0) (.cons (.bin .add (.var 1) (.tup (.cons (.k (.bl false)) .nil))) .nil))) (.var 3)) (.cmp .eq (.call "winner" (.cons (.var 0) (.cons (.bin .add (.var 1) (.tup (.cons (.k (.bl true)) .nil))) .nil))) (.var 3))) (.cons (.rt (.var 3)) .nil) .nil) ss_winner_4
def ss_winner_2 : Ss := .cons (.set 3 (.ix (.ix (.var 0) (.k (.int 0))) (.bi .len (.cons (.var 1) .nil)))) ss_winner_3
def ss_winner_1 : Ss := .cons (.ite (.call "all_kept" (.cons (.var 0) (.cons (.var 1) .nil))) (.cons (.rt (.k (.str "some"))) .nil) .nil) ss_winner_2
def ss_winner_0 : Ss := .cons (.ite (.bi .any (.cons (.comp [2] (.one 2) (.exp (.ix (.var 0) (.k (.int 1)))) (.call "is_lost" (.cons (.var 2) (.cons (.var 1) .nil)))) .nil)) (.cons (.rt (.k (.str "all"))) .nil) .nil) ss_winner_1
def fn_winner : Fn := ⟨2, 4, ss_winner_0⟩
def ss_law_kept_0b_0 : Ss := .cons (.ite (.and (.cmp .le (.bi .abs (.cons (.var 2) .nil)) (.bi .len (.cons (.var 1) .nil))) (.cmp .eq (.ix (.var 1) (.bin .sub (.bi .abs (.cons (.var 2) .nil)) (.k (.int 1)))) (.cmp .gt (.var 2) (.k (.int 0))))) (.cons (.rt (.k (.bl true))) .nil) .nil) .nil
def ss_law_kept_1 : Ss := .cons (.rt (.k (.bl false))) .nil
def ss_law_kept_0 : Ss := .cons (.for (.one 2) (.exp (.var 0)) ss_law_kept_0b_0) ss_law_kept_1
def fn_law_kept : Fn := ⟨2, 3, ss_law_kept_0⟩
def ss_law_plays_1b_1b_0 : Ss := .cons (.set 3 (.bin .add (.var 3) (.lst (.cons (.bin .add (.var 4) (.tup (.cons (.k (.bl false)) .nil))) (.cons (.bin .add (.var 4) (.tup (.cons (.k (.bl true)) .nil))) .nil))))) .nil
def ss_law_plays_1b_2 : Ss := .cons (.ex (.me .append (.var 1) (.cons (.var 3) .nil))) .nil
def ss_law_plays_1b_1 : Ss := .cons (.for (.one 4) (.exp (.ix (.var 1) (.neg (.k (.int 1))))) ss_law_plays_1b_1b_0) ss_law_plays_1b_2
def ss_law_plays_1b_0 : Ss := .cons (.set 3 (.lst .nil)) ss_law_plays_1b_1
def ss_law_plays_3b_0 : Ss := .cons (.set 5 (.bin .add (.var 5) (.var 6))) .nil
def ss_law_plays_4 : Ss := .cons (.rt (.var 5)) .nil
def ss_law_plays_3 : Ss := .cons (.for (.one 6) (.rev (.var 1)) ss_law_plays_3b_0) ss_law_plays_4
def ss_law_plays_2 : Ss := .cons (.set 5 (.lst .nil)) ss_law_plays_3
def ss_law_plays_1 : Ss := .cons (.for (.one 2) (.rng1 (.var 0)) ss_law_plays_1b_0) ss_law_plays_2
def ss_law_plays_0 : Ss := .cons (.set 1 (.lst (.cons (.lst (.cons (.tup .nil) .nil)) .nil))) ss_law_plays_1
def fn_law_plays : Fn := ⟨1, 7, ss_law_plays_0⟩
def ss_law_winners_1b_0 : Ss := .cons (.ite (.cmp .eq (.bi .len (.cons (.var 2) .nil)) (.bi .len (.cons (.ix (.var 0) (.k (.int 0))) .nil))) (.cons (.setI (.var 1) (.var 2) (.ix (.lst (.cons (.k (.str "all")) (.cons (.k (.str "some")) .nil))) (.bi .int (.cons (.cmp .nin (.k (.bl false)) (.comp [3] (.one 3) (.exp (.ix (.var 0) (.k (.int 1)))) (.call "_law_kept" (.cons (.var 3) (.cons (.var 2) .nil))))) .nil)))) .nil) (.cons (.set 4 (.ix (.ix (.var 0) (.k (.int 0))) (.bi .len (.cons (.var 2) .nil)))) (.cons (.set 5 (.lst (.cons (.ix (.var 1) (.bin .add (.var 2) (.tup (.cons (.k (.bl false)) .nil)))) (.cons (.ix (.var 1) (.bin .add (.var 2) (.tup (.cons (.k (.bl true)) .nil)))) .nil)))) (.cons (.setI (.var 1) (.var 2) (.ite (.cmp .«in» (.var 4) (.var 5)) (.var 4) (.ix (.var 5) (.k (.int 0))))) .nil)))) .nil
def ss_law_winners_2 : Ss := .cons (.rt (.var 1)) .nil
def ss_law_winners_1 : Ss := .cons (.for (.one 2) (.exp (.call "_law_plays" (.cons (.bi .len (.cons (.ix (.var 0) (.k (.int 0))) .nil)) .nil))) ss_law_winners_1b_0) ss_law_winners_2
def ss_law_winners_0 : Ss := .cons (.set 1 .dct) ss_law_winners_1
def fn_law_winners : Fn := ⟨1, 6, ss_law_winners_0⟩
def kS (b : Bool) : Str := if b then "some" else "all"
abbrev kD (b : Bool) : D := .str (kS b)
theorem kS_beq {a b : Bool} : (kS a == kS b) = (a == b) := by cases a <;> cases b <;> decide
theorem kS_all {a : Bool} : (kS a == ("all" : Str)) = !a := by cases a <;> decide
theorem kS_some {a : Bool} : (kS a == ("some" : Str)) = a := by cases a <;> decide
def kAt (kb : List Bool) (n : Nat) : Bool := kb.getD n false
theorem kAt_ix {kb : List Bool} {i : Int} (h0 : 0 ≤ i) (h1 : i < kb.length) : L2.atI (kb.map kD) i = some (kD (kAt kb i.toNat)) := by
  obtain ⟨y, e1, e2⟩ := atI_nat (xs := kb.map kD) h0 (by rw [List.length_map]; exact h1)
  rw [e1, ← e2, List.getElem?_map]
  unfold kAt
  rw [List.getD_eq_getElem?_getD, List.getElem?_eq_getElem (by omega)]
  rfl
section
variable {kb : List Bool} {rss : List (List Int)}
end
def lev : Nat → List (List Bool)
  | 0 => [[]]
  | k + 1 => (lev k).flatMap fun p => [p ++ [false], p ++ [true]]
def pl : Nat → List (List Bool)
  | 0 => []
  | k + 1 => lev k ++ pl k
theorem lev_len : ∀ k, (lev k).length = 2 ^ k
  | 0 => rfl
  | k + 1 => by
    unfold lev
    rw [List.length_flatMap]
    have : ((lev k).map fun p => ([p ++ [false], p ++ [true]]).length) = List.replicate (lev k).length 2 := by
      rw [List.eq_replicate_iff]
      refine ⟨by rw [List.length_map], fun b hb => ?_⟩
      obtain ⟨p, _, rfl⟩ := List.mem_map.mp hb
      rfl
    rw [this, List.sum_replicate_nat, lev_len k, Nat.pow_succ]
theorem lev_mem : ∀ {k : Nat} {p : List Bool}, p ∈ lev k ↔ p.length = k
  | 0, p => by
    unfold lev
    rw [List.mem_singleton]
    exact List.length_eq_zero_iff.symm
  | k + 1, p => by
    unfold lev
    rw [List.mem_flatMap]
    constructor
    · rintro ⟨q, h1, h2⟩
      have := lev_mem.mp h1
      simp only [List.mem_cons, List.not_mem_nil, or_false] at h2
      rcases h2 with rfl | rfl
      · rw [List.length_append, this]; rfl
      · rw [List.length_append, this]; rfl
    · intro h
      have hne : p ≠ [] := by intro z; rw [z] at h; cases h
      refine ⟨p.dropLast, lev_mem.mpr (by rw [List.length_dropLast, h]; rfl), ?_⟩
      have e := List.dropLast_concat_getLast hne
      cases q : p.getLast hne with
      | true =>
        rw [q] at e
        rw [e]
        simp
      | false =>
        rw [q] at e
        rw [e]
        simp
theorem lev_nodup : ∀ k, (lev k).Nodup
  | 0 => by decide
  | k + 1 => by
    have h := lev_nodup k
    unfold lev
    unfold List.Nodup at h ⊢
    generalize lev k = l at h
    induction l with
    | nil => exact .nil
    | cons p r ih =>
      obtain ⟨h1, h2⟩ := List.pairwise_cons.mp h
      rw [List.flatMap_cons, List.pairwise_append]
      refine ⟨?_, ih h2, fun a ha b hb => ?_⟩
      · simp
      · rintro rfl
        obtain ⟨q, hq, hb⟩ := List.mem_flatMap.mp hb
        have e : p = q := by
          simp only [List.mem_cons, List.not_mem_nil, or_false] at ha hb
          have e : a.dropLast = p := by rcases ha with rfl | rfl <;> simp
          have e2 : a.dropLast = q := by rcases hb with rfl | rfl <;> simp
          rw [← e, e2]
        exact h1 q hq e
def kB (p : List Bool) : NestedKey := .tup (p.map fun b => .num (if b then 1 else 0))
theorem mapO_kb {f : Nat} : ∀ p : List Bool, mapO (keyD f) (p.map D.bl) = some (p.map fun b => .num (if b then 1 else 0))
  | [] => rfl
  | b :: r => by
    have e : keyD f (.bl b) = some (.num (if b then 1 else 0)) := by cases f <;> rfl
    rw [List.map_cons, mapO, e]
    dsimp only
    rw [mapO_kb r]
    rfl
theorem kB_inj : ∀ {p q : List Bool}, kB p = kB q → p = q := by
  intro p q h
  unfold kB at h
  replace h := NestedKey.tup.inj h
  induction p generalizing q with
  | nil =>
    cases q with
    | nil => rfl
    | cons _ _ => cases h
  | cons b r ih =>
    cases q with
    | nil => cases h
    | cons c s =>
      rw [List.map_cons, List.map_cons] at h
      obtain ⟨h1, h2⟩ := List.cons.inj h
      rw [ih h2]
      congr 1
      have h1 := NestedKey.num.inj h1
      cases b <;> cases c <;> first | rfl | (exfalso; revert h1; decide)
theorem look_nil {k : NestedKey} : dLook [] k = none := rfl
theorem look_cons {a v : D} {r : List (D × D)} {k : NestedKey} : dLook ((a, v) :: r) k = if kd a = some k then some v else dLook r k := by
  unfold dLook
  rw [List.find?_cons]
  by_cases c : kd a = some k
  · rw [if_pos c, c]
    simp
  · rw [if_neg c]
    have : (kd a == some k) = false := beq_eq_false_iff_ne.mpr c
    dsimp only
    rw [this]
theorem look_app {k : NestedKey} : ∀ {xs ys : List (D × D)}, dLook (xs ++ ys) k = (match dLook xs k with
  | some v => some v
  | none => dLook ys k)
  | [], ys => rfl
  | (a, v) :: r, ys => by
    rw [List.cons_append, look_cons, look_cons]
    by_cases c : kd a = some k
    · rw [if_pos c, if_pos c]
    · rw [if_neg c, if_neg c]
      exact look_app
theorem look_map {kk k : NestedKey} {v : D} : ∀ {xs : List (D × D)}, dLook (xs.map fun p => if kd p.1 = some kk then (p.1, v) else p) k = if k = kk then (dLook xs k).map (fun _ => v) else dLook xs k
  | [] => by rw [List.map_nil, look_nil]; split <;> rfl
  | (a, u) :: r => by
    rw [List.map_cons, look_cons]
    by_cases c : kd a = some kk
    · rw [if_pos c, look_cons, look_map]
      by_cases d : k = kk
      · subst d
        rw [if_pos c, if_pos c, if_pos rfl]
        rfl
      · have : ¬ kd a = some k := fun z => d (by rw [c] at z; exact (Option.some.inj z).symm)
        rw [if_neg this, if_neg this, if_neg d]
    · rw [if_neg c, look_cons, look_map]
      by_cases d : k = kk
      · subst d
        rw [if_neg c, if_neg c]
      · rw [if_neg d, if_neg d]
theorem look_store {kvs : List (D × D)} {a v : D} {kk k : NestedKey} (ha : kd a = some kk) : dLook (dStore kvs a v kk) k = if k = kk then some v else dLook kvs k := by
  unfold dStore
  by_cases c : (dLook kvs kk).isSome
  · rw [if_pos c, look_map]
    by_cases d : k = kk
    · subst d
      rw [if_pos rfl, if_pos rfl]
      cases e : dLook kvs k with
      | none => rw [e] at c; cases c
      | some _ => rfl
    · rw [if_neg d, if_neg d]
  · rw [if_neg c, look_app, look_cons, look_nil, ha]
    by_cases d : k = kk
    · subst d
      rw [if_pos rfl, if_pos rfl]
      cases e : dLook kvs k with
      | none => rfl
      | some _ => rw [e] at c; exact absurd rfl c
    · rw [if_neg d, if_neg (fun z => d (Option.some.inj z).symm)]
      cases dLook kvs k <;> rfl
section
variable {m : Mu} {Q : D → Mu → Prop}
theorem wp_dset {n : Nat} {kvs : List (D × D)} {xs : List D} {v : D} {kk : NestedKey} {Q : Unit → Mu → Prop} (h : m[n]? = some (.dct false kvs)) (hk : kd (.tup xs) = some kk) : wp (dSet (.ref n) (.tup xs) v) m Q ↔ kvs.length < sizeLine ∧ Q () (m.set n (.dct false (dStore kvs (.tup xs) v kk))) := by
  have e0 : dSet (.ref n) (.tup xs) v m = if kvs.length < sizeLine then .ok () (m.set n (.dct false (dStore kvs (.tup xs) v kk))) else .bad := by
    unfold dSet
    dsimp only
    rw [h]
    dsimp only
    rw [hk]
  rw [wp_fun e0]
  by_cases c : kvs.length < sizeLine
  · rw [if_pos c, ok_iff]
    exact ⟨fun h => ⟨c, h⟩, fun h => h.2⟩
  · rw [if_neg c, bad_iff]
    exact ⟨False.elim, fun h => absurd h.1 c⟩
theorem wp_dget {n : Nat} {fz : Bool} {kvs : List (D × D)} {xs : List D} {kk : NestedKey} {y : D} (h : m[n]? = some (.dct fz kvs)) (hk : kd (.tup xs) = some kk) (hy : dLook kvs kk = some y) : wp (dIx (.ref n) (.tup xs)) m Q ↔ Q y m := by
  have e0 : dIx (.ref n) (.tup xs) m = .ok y m := by
    unfold dIx
    dsimp only
    rw [h]
    dsimp only
    rw [hk]
    show opt (dLook kvs kk) m = _
    rw [hy]
    rfl
  rw [wp_fun e0]
  exact ok_iff
theorem wp_addL {a b : Nat} {xs ys : List D} (ha : m[a]? = some (.lst xs)) (hb : m[b]? = some (.lst ys)) : wp (dBin .add (.ref a) (.ref b)) m Q ↔ xs.length + ys.length ≤ sizeLine ∧ wp (alc (.lst (xs ++ ys))) m Q := by
  have e0 : dBin .add (.ref a) (.ref b) m = chk (xs.length + ys.length ≤ sizeLine) (alc (.lst (xs ++ ys))) m := by
    show (match m[a]?, m[b]? with
      | some (.lst xs), some (.lst ys) => chk (xs.length + ys.length ≤ sizeLine) (alc (.lst (xs ++ ys))) m
      | _, _ => .bad) = _
    rw [ha, hb]
  rw [wp_fun e0, ← wp_chk]
  rfl
theorem atI_last {α : Type} {xs : List α} {x : α} (h : xs.getLast? = some x) : L2.atI xs (-1) = some x := by
  have hl : 0 < xs.length := by
    cases xs with
    | nil => cases h
    | cons _ _ => simp
  unfold L2.atI L2.ixN
  rw [if_neg (by decide), if_pos (by omega)]
  show xs[((-1 : Int) + xs.length).toNat]? = some x
  rw [← h, List.getLast?_eq_getElem?]
  congr 1
  omega
theorem Fd.gr {m m' : Mu} {r s : Nat} (h : Fd m s) (ne : s ≠ r) (g : Gr r m m') : Fd m' s := by
  obtain ⟨a, b, e, q⟩ := h
  exact ⟨a, b, g.get ne e, q⟩
theorem Fd.setN {m : Mu} {r k : Nat} {o : O} (F : Fd m r) (h : k ≠ r) : Fd (m.set k o) r := by
  obtain ⟨a, b, e, q⟩ := F
  exact ⟨a, b, getS e h, q⟩
theorem wp_asgT {is : List Nat} {ds : List D} {ρ ρ' : Env} {Q : Env → Mu → Prop} (h : asg (.many is) (.tup ds) ρ = some ρ') : wp (asgH is (.tup ds) ρ) m Q ↔ Q ρ' m := by
  show wp (opt (asg (.many is) (.tup ds) ρ)) m Q ↔ _
  rw [h]
  exact wp_some
theorem wp_srcSR {n : Nat} {Q : Src → Mu → Prop} {xs : List D} (h : m[n]? = some (.lst xs)) : wp (srcS (.ref n)) m Q ↔ Q ⟨xs, [(n, .lst xs)]⟩ m := wp_srcR h
theorem W_opt {G : Gm} {w : Nat} {s : S} {rest : Ss} {ρ : Env} {P : D → Mu → Prop} (I : Mu → Prop) (h1 : wpF (exe G w s ρ) m fun fl m' => (∃ d, fl = .rt d ∧ P d m') ∨ (fl = .nx ρ ∧ I m')) (h2 : ∀ m', I m' → wpF (exes G w rest ρ) m' (endF P)) : wpF (exes G w (.cons s rest) ρ) m (endF P) := by
  rw [wpF_cons]
  refine wpF_mono h1 fun fl m' h => ?_
  rcases h with ⟨d, rfl, h⟩ | ⟨rfl, h⟩
  · exact h
  · exact h2 m' h
end
end Af
namespace Af
open PySem
structure Clm (t : Str → Option Fn) : Prop where
  right : t "is_right" = some fn_is_right
  opn : t "is_open" = some fn_is_open
  kept : t "is_kept" = some fn_is_kept
  lost : t "is_lost" = some fn_is_lost
  allk : t "all_kept" = some fn_all_kept
  other : t "other_of" = some fn_other_of
  winner : t "winner" = some fn_winner
structure Lwn (t : Str → Option Fn) : Prop where
  kept : t "_law_kept" = some fn_law_kept
  plays : t "_law_plays" = some fn_law_plays
  winners : t "_law_winners" = some fn_law_winners
section
variable {t : Str → Option Fn} {w n : Nat} {m : Mu} {bs : List Bool} {ls : List Int}
theorem big_line : (1000 : Nat) < sizeLine := by decide
end
end Af
namespace Af
open PySem
def ss_lk_mix_4 : Ss := .cons (.rt (.bin .fdiv (.bin .mod (.bin .pow (.var 3) (.k (.int 3))) (.k (.int 998244353))) (.k (.int 8)))) .nil
def ss_lk_mix_3 : Ss := .cons (.set 3 (.bin .mod (.bin .add (.bin .add (.bin .mul (.var 3) (.k (.int 48271))) (.bin .mul (.k (.int 31)) (.var 1))) (.k (.int 5))) (.var 2))) ss_lk_mix_4
def ss_lk_mix_2 : Ss := .cons (.set 3 (.bin .mod (.bin .pow (.var 3) (.k (.int 5))) (.k (.int 1000000007)))) ss_lk_mix_3
def ss_lk_mix_1 : Ss := .cons (.set 3 (.bin .mod (.bin .mul (.bin .add (.bin .mod (.var 0) (.k (.int 998244353))) (.bin .mul (.k (.int 104729)) (.bin .add (.var 1) (.k (.int 1))))) (.bin .add (.bin .add (.bin .mul (.var 1) (.var 1)) (.bin .mul (.k (.int 7)) (.var 1))) (.k (.int 13)))) (.var 2))) ss_lk_mix_2
def ss_lk_mix_0 : Ss := .cons (.set 2 (.ix (.lst (.cons (.k (.int 2147483647)) (.cons (.k (.int 2147483629)) (.cons (.k (.int 2147483587)) (.cons (.k (.int 2147483579)) (.cons (.k (.int 2147483563)) (.cons (.k (.int 2147483549)) (.cons (.k (.int 2147483543)) .nil)))))))) (.bin .mod (.var 1) (.k (.int 7))))) ss_lk_mix_1
def fn_lk_mix : Fn := ⟨2, 4, ss_lk_mix_0⟩
def ss_lk_digits_3b_0 : Ss := .cons (.ite (.and (.var 4) (.cmp .gt (.var 3) (.k (.int 0)))) (.cons (.ex (.me .append (.var 2) (.cons (.bin .mod (.var 3) (.k (.int 10007))) .nil))) (.cons (.set 3 (.bin .fdiv (.var 3) (.k (.int 10007)))) .nil)) (.cons (.ex (.me .append (.var 2) (.cons (.call "_law_mix" (.cons (.var 0) (.cons (.var 5) .nil))) .nil))) .nil)) .nil
def ss_lk_digits_4 : Ss := .cons (.rt (.var 2)) .nil
def ss_lk_digits_3 : Ss := .cons (.for (.one 5) (.rng1 (.var 1)) ss_lk_digits_3b_0) ss_lk_digits_4
def ss_lk_digits_2 : Ss := .cons (.set 4 (.cmp .ge (.var 3) (.bin .pow (.k (.int 10)) (.k (.int 18))))) ss_lk_digits_3
def ss_lk_digits_1 : Ss := .cons (.set 3 (.bi .abs (.cons (.var 0) .nil))) ss_lk_digits_2
def ss_lk_digits_0 : Ss := .cons (.set 2 (.lst .nil)) ss_lk_digits_1
def fn_lk_digits : Fn := ⟨2, 6, ss_lk_digits_0⟩
def ss_lk_at_1 : Ss := .cons (.rt (.bin .add (.bin .add (.bin .mul (.k (.int 67)) (.var 1)) (.k (.int 19))) (.bi .len (.cons (.var 0) .nil)))) .nil
def ss_lk_at_0 : Ss := .cons (.ite (.cmp .lt (.var 1) (.bi .len (.cons (.var 0) .nil))) (.cons (.rt (.ix (.var 0) (.var 1))) .nil) .nil) ss_lk_at_1
def fn_lk_at : Fn := ⟨2, 2, ss_lk_at_0⟩
def ss_lk_kinds_1b_3 : Ss := .cons (.ex (.me .append (.var 2) (.cons (.var 4) .nil))) .nil
def ss_lk_kinds_1b_2 : Ss := .cons (.ite (.cmp .eq (.bin .mod (.ix (.var 0) (.k (.int 0))) (.k (.int 4))) (.k (.int 2))) (.cons (.set 4 (.ix (.lst (.cons (.k (.str "all")) (.cons (.k (.str "some")) .nil))) (.bi .int (.cons (.cmp .gt (.bin .mod (.ix (.var 0) (.bin .add (.k (.int 1)) (.var 3))) (.k (.int 3))) (.k (.int 0))) .nil)))) .nil) .nil) ss_lk_kinds_1b_3
def ss_lk_kinds_1b_1 : Ss := .cons (.ite (.cmp .eq (.bin .mod (.ix (.var 0) (.k (.int 0))) (.k (.int 4))) (.k (.int 1))) (.cons (.set 4 (.ix (.lst (.cons (.k (.str "some")) (.cons (.k (.str "all")) .nil))) (.bin .mod (.bin .add (.var 3) (.ix (.var 0) (.k (.int 1)))) (.k (.int 2))))) .nil) .nil) ss_lk_kinds_1b_2
def ss_lk_kinds_1b_0 : Ss := .cons (.set 4 (.ix (.lst (.cons (.k (.str "all")) (.cons (.k (.str "some")) .nil))) (.bin .mod (.ix (.var 0) (.bin .add (.k (.int 1)) (.var 3))) (.k (.int 2))))) ss_lk_kinds_1b_1
def ss_lk_kinds_2 : Ss := .cons (.rt (.bi .tuple (.cons (.var 2) .nil))) .nil
def ss_lk_kinds_1 : Ss := .cons (.for (.one 3) (.rng1 (.var 1)) ss_lk_kinds_1b_0) ss_lk_kinds_2
def ss_lk_kinds_0 : Ss := .cons (.set 2 (.lst .nil)) ss_lk_kinds_1
def fn_lk_kinds : Fn := ⟨2, 5, ss_lk_kinds_0⟩
structure Dg0 (t : Str → Option Fn) : Prop where
  mix : t "_law_mix" = some fn_lk_mix
  dig : t "_law_digits" = some fn_lk_digits
  at_ : t "_law_at" = some fn_lk_at
structure Dgs (t : Str → Option Fn) : Prop extends Dg0 t where
  kin : t "_law_kinds" = some fn_lk_kinds
instance {t : Str → Option Fn} : Coe (Dgs t) (Dg0 t) := ⟨Dgs.toDg0⟩
def Dig (i : Int) : Prop := 0 ≤ i ∧ i < 1073741824
section
variable {t : Str → Option Fn} {w n : Nat} {m m' : Mu}
theorem fm_lo (a : Int) {b : Int} (h : 0 < b) : 0 ≤ a.fmod b := Int.fmod_nonneg_of_pos a h
theorem fm_hi (a : Int) {b : Int} (h : 0 < b) : a.fmod b < b := Int.fmod_lt_of_pos a h
theorem fd_nn {a b : Int} (h : 0 ≤ b) : a.fdiv b = a / b := Int.fdiv_eq_ediv_of_nonneg a h
theorem mix_ok (D0 : Dg0 t) {c k : Int} (k0 : 0 ≤ k) (k1 : k ≤ 1000) : wp (run t w (n + 1) "_law_mix" [.int c, .int k]) m fun v m' => ∃ i, v = .int i ∧ Dig i ∧ Ge m m' := by
  have big := big_line
  refine wp_run D0.mix rfl ?_
  show wpF (exes _ _ fn_lk_mix.body [some (.int c), some (.int k), none, none]) m _
  simp only [fn_lk_mix, ss_lk_mix_0, wp_bd, wp_ret, wp_nope, wp_chk, wp_some, wp_ite, wp_tru, wpF_bs, wpF_nx, wpF_rt, wpF_bk, wpF_ct, wpF_ite, thenF_nx, thenF_rt, thenF_bk, thenF_ct, wpF_nil, wpF_cons, endF_nx, endF_rt, exe, ev, evs, evI, varM, List.getElem?_cons_zero, List.getElem?_cons_succ, List.set_cons_zero, List.set_cons_succ, Bool.false_eq_true, if_true, if_false, ite_true, ite_false, reduceIte, Option.some.injEq, exists_eq_left', exists_eq_left, wp_ixR, ixW_l, ixW_f, wp_ixT, wp_lenR, lenW_l, lenW_f, wp_lenT, wp_tupR, lsW_l, lsW_f, wp_tupT, wp_listT, wp_cmp, cmp_lt, cmp_le, cmp_gt, cmp_ge, cmp_eq, cmp_ne, eqD_int, eqD_bl, cmp_is, cmp_isn, dIs_bl, dIs_tn, dIs_nn, opt_map, decide_eq_true_eq, wp_mod, wp_fdiv, wp_pow, wp_add, wp_sub, wp_mul, wp_mulTI, wp_addT, wp_neg, wp_slT, wp_slR, slW, wp_isLst, lW_l, wp_app, wp_popAt, wp_setR, setW_l, partO, Bool.not_true, Bool.not_false, wp_minI, wp_maxI, wp_intI, wp_intB, wp_absI, wp_srcT, wp_r2, wp_isi, asg_one, asg_two, wp_srcST, isTy_bb, wipe_nil, wipe_cons, at0, at1, ix0, ix1, List.length_cons, List.length_nil]
  refine ⟨by decide, wp_new fun a m1 g1 e1 a1 b1 c1 => ?_⟩
  have h0 := fm_lo k (b := 7) (by decide)
  have h1 := fm_hi k (b := 7) (by decide)
  obtain ⟨p, ep, p0, p1⟩ : ∃ p : Int, L2.atI [D.int 2147483647, D.int 2147483629, D.int 2147483587, D.int 2147483579, D.int 2147483563, D.int 2147483549, D.int 2147483543] (k.fmod 7) = some (.int p) ∧ 1000000007 ≤ p ∧ p ≤ 2147483647 := by
    rcases (show k.fmod 7 = 0 ∨ k.fmod 7 = 1 ∨ k.fmod 7 = 2 ∨ k.fmod 7 = 3 ∨ k.fmod 7 = 4 ∨ k.fmod 7 = 5 ∨ k.fmod 7 = 6 by omega) with h | h | h | h | h | h | h <;> rw [h] <;> exact ⟨_, rfl, by decide, by decide⟩
  simp only [wp_bd, wp_ret, wp_nope, wp_chk, wp_some, wp_ite, wp_tru, wpF_bs, wpF_nx, wpF_rt, wpF_bk, wpF_ct, wpF_ite, thenF_nx, thenF_rt, thenF_bk, thenF_ct, wpF_nil, wpF_cons, endF_nx, endF_rt, exe, ev, evs, evI, varM, List.getElem?_cons_zero, List.getElem?_cons_succ, List.set_cons_zero, List.set_cons_succ, Bool.false_eq_true, if_true, if_false, ite_true, ite_false, reduceIte, Option.some.injEq, exists_eq_left', exists_eq_left, wp_ixR, ixW_l, ixW_f, wp_ixT, wp_lenR, lenW_l, lenW_f, wp_lenT, wp_tupR, lsW_l, lsW_f, wp_tupT, wp_listT, wp_cmp, cmp_lt, cmp_le, cmp_gt, cmp_ge, cmp_eq, cmp_ne, eqD_int, eqD_bl, cmp_is, cmp_isn, dIs_bl, dIs_tn, dIs_nn, opt_map, decide_eq_true_eq, wp_mod, wp_fdiv, wp_pow, wp_add, wp_sub, wp_mul, wp_mulTI, wp_addT, wp_neg, wp_slT, wp_slR, slW, wp_isLst, lW_l, wp_app, wp_popAt, wp_setR, setW_l, partO, Bool.not_true, Bool.not_false, wp_minI, wp_maxI, wp_intI, wp_intB, wp_absI, wp_srcT, wp_r2, wp_isi, asg_one, asg_two, wp_srcST, isTy_bb, wipe_nil, wipe_cons, at0, at1, ix0, ix1, e1, ep]
  have kk : k * k ≤ 1000 * 1000 := Int.mul_le_mul k1 k1 k0 (by decide)
  have kk0 : 0 ≤ k * k := Int.mul_nonneg k0 k0
  have sk : small k := ⟨by omega, by omega⟩
  refine ⟨by decide, ?_⟩
  simp only [ss_lk_mix_1, ss_lk_mix_2, ss_lk_mix_3, ss_lk_mix_4, wp_bd, wp_ret, wp_nope, wp_chk, wp_some, wp_ite, wp_tru, wpF_bs, wpF_nx, wpF_rt, wpF_bk, wpF_ct, wpF_ite, thenF_nx, thenF_rt, thenF_bk, thenF_ct, wpF_nil, wpF_cons, endF_nx, endF_rt, exe, ev, evs, evI, varM, List.getElem?_cons_zero, List.getElem?_cons_succ, List.set_cons_zero, List.set_cons_succ, Bool.false_eq_true, if_true, if_false, ite_true, ite_false, reduceIte, Option.some.injEq, exists_eq_left', exists_eq_left, wp_ixR, ixW_l, ixW_f, wp_ixT, wp_lenR, lenW_l, lenW_f, wp_lenT, wp_tupR, lsW_l, lsW_f, wp_tupT, wp_listT, wp_cmp, cmp_lt, cmp_le, cmp_gt, cmp_ge, cmp_eq, cmp_ne, eqD_int, eqD_bl, cmp_is, cmp_isn, dIs_bl, dIs_tn, dIs_nn, opt_map, decide_eq_true_eq, wp_mod, wp_fdiv, wp_pow, wp_add, wp_sub, wp_mul, wp_mulTI, wp_addT, wp_neg, wp_slT, wp_slR, slW, wp_isLst, lW_l, wp_app, wp_popAt, wp_setR, setW_l, partO, Bool.not_true, Bool.not_false, wp_minI, wp_maxI, wp_intI, wp_intB, wp_absI, wp_srcT, wp_r2, wp_isi, asg_one, asg_two, wp_srcST, isTy_bb, wipe_nil, wipe_cons, at0, at1, ix0, ix1]
  generalize (c.fmod 998244353 + 104729 * (k + 1)) * (k * k + 7 * k + 13) = x1
  generalize hx2 : x1.fmod p = x2
  have y20 : 0 ≤ x2 := hx2 ▸ fm_lo x1 (by omega)
  have y21 : x2 < p := hx2 ▸ fm_hi x1 (by omega)
  generalize hx3 : (x2 ^ Int.toNat 5).fmod 1000000007 = x3
  have y30 : 0 ≤ x3 := hx3 ▸ fm_lo _ (by decide)
  have y31 : x3 < 1000000007 := hx3 ▸ fm_hi _ (by decide)
  generalize hx4 : (x3 * 48271 + 31 * k + 5).fmod p = x4
  have y40 : 0 ≤ x4 := hx4 ▸ fm_lo _ (by omega)
  have y41 : x4 < p := hx4 ▸ fm_hi _ (by omega)
  generalize hx5 : (x4 ^ Int.toNat 3).fmod 998244353 = x5
  have y50 : 0 ≤ x5 := hx5 ▸ fm_lo _ (by decide)
  have y51 : x5 < 998244353 := hx5 ▸ fm_hi _ (by decide)
  rw [fd_nn (by decide)]
  exact ⟨by decide, .inl (by decide), .inl sk, .inl (by decide), .inr ⟨by omega, by omega⟩, by omega, ⟨by decide, by decide, by omega⟩, by decide, .inr (by decide), .inl (by decide), by omega, ⟨by decide, by decide, by omega⟩, by decide, ⟨by decide, by decide⟩, _, rfl, ⟨by omega, by omega⟩, g1⟩
theorem digits_ok (D0 : Dg0 t) {c : Int} {many : Nat} (hm : many ≤ 900) : wp (run t w (n + 2) "_law_digits" [.int c, .int many]) m fun v m' => ∃ (a : Nat) (ds : List Int), v = .ref a ∧ m'[a]? = some (.lst (ds.map D.int)) ∧ ds.length = many ∧ (∀ i ∈ ds, Dig i) ∧ Ge m m' ∧ m.length ≤ a := by
  have big := big_line
  refine wp_run D0.dig rfl ?_
  show wpF (exes _ _ fn_lk_digits.body [some (.int c), some (.int many), none, none, none, none]) m _
  simp only [fn_lk_digits, ss_lk_digits_0, wp_bd, wp_ret, wp_nope, wp_chk, wp_some, wp_ite, wp_tru, wpF_bs, wpF_nx, wpF_rt, wpF_bk, wpF_ct, wpF_ite, thenF_nx, thenF_rt, thenF_bk, thenF_ct, wpF_nil, wpF_cons, endF_nx, endF_rt, exe, ev, evs, evI, varM, List.getElem?_cons_zero, List.getElem?_cons_succ, List.set_cons_zero, List.set_cons_succ, Bool.false_eq_true, if_true, if_false, ite_true, ite_false, reduceIte, Option.some.injEq, exists_eq_left', exists_eq_left, wp_ixR, ixW_l, ixW_f, wp_ixT, wp_lenR, lenW_l, lenW_f, wp_lenT, wp_tupR, lsW_l, lsW_f, wp_tupT, wp_listT, wp_cmp, cmp_lt, cmp_le, cmp_gt, cmp_ge, cmp_eq, cmp_ne, eqD_int, eqD_bl, cmp_is, cmp_isn, dIs_bl, dIs_tn, dIs_nn, opt_map, decide_eq_true_eq, wp_mod, wp_fdiv, wp_pow, wp_add, wp_sub, wp_mul, wp_mulTI, wp_addT, wp_neg, wp_slT, wp_slR, slW, wp_isLst, lW_l, wp_app, wp_popAt, wp_setR, setW_l, partO, Bool.not_true, Bool.not_false, wp_minI, wp_maxI, wp_intI, wp_intB, wp_absI, wp_srcT, wp_r2, wp_isi, asg_one, asg_two, wp_srcST, isTy_bb, wipe_nil, wipe_cons, at0, at1, ix0, ix1, List.length_nil]
  refine ⟨by omega, wp_new fun a m1 g1 e1 a1 b1 c1 => ?_⟩
  simp only [ss_lk_digits_1, ss_lk_digits_2, ss_lk_digits_3, wp_bd, wp_ret, wp_nope, wp_chk, wp_some, wp_ite, wp_tru, wpF_bs, wpF_nx, wpF_rt, wpF_bk, wpF_ct, wpF_ite, thenF_nx, thenF_rt, thenF_bk, thenF_ct, wpF_nil, wpF_cons, endF_nx, endF_rt, exe, ev, evs, evI, varM, List.getElem?_cons_zero, List.getElem?_cons_succ, List.set_cons_zero, List.set_cons_succ, Bool.false_eq_true, if_true, if_false, ite_true, ite_false, reduceIte, Option.some.injEq, exists_eq_left', exists_eq_left, wp_ixR, ixW_l, ixW_f, wp_ixT, wp_lenR, lenW_l, lenW_f, wp_lenT, wp_tupR, lsW_l, lsW_f, wp_tupT, wp_listT, wp_cmp, cmp_lt, cmp_le, cmp_gt, cmp_ge, cmp_eq, cmp_ne, eqD_int, eqD_bl, cmp_is, cmp_isn, dIs_bl, dIs_tn, dIs_nn, opt_map, decide_eq_true_eq, wp_mod, wp_fdiv, wp_pow, wp_add, wp_sub, wp_mul, wp_mulTI, wp_addT, wp_neg, wp_slT, wp_slR, slW, wp_isLst, lW_l, wp_app, wp_popAt, wp_setR, setW_l, partO, Bool.not_true, Bool.not_false, wp_minI, wp_maxI, wp_intI, wp_intB, wp_absI, wp_srcT, wp_r2, wp_isi, asg_one, asg_two, wp_srcST, isTy_bb, wipe_nil, wipe_cons, at0, at1, ix0, ix1]
  refine ⟨⟨by decide, by decide, by decide⟩, ⟨by decide, ⟨by omega, by omega⟩⟩, ?_⟩
  refine wpF_loop (a := []) (J := fun xs ρ m' => ∃ (ds : List Int) (lo : Int) (wd : Bool) (b5 : Option D), ρ = [some (.int c), some (.int many), some (.ref a), some (.int lo), some (.bl wd), b5] ∧ 0 ≤ lo ∧ m'[a]? = some (.lst (ds.map D.int)) ∧ ds.length + xs.length = many ∧ (∀ i ∈ ds, Dig i) ∧ Ge m m' ∧ (∀ y ∈ xs, ∃ i : Nat, y = .int i ∧ i < many)) (fun _ _ _ _ => trivial) (fun x xs ρ m' hJ => ?_) (fun ρ m' hJ => ?_) _ _ _
    ⟨[], _, _, _, rfl, by omega, e1, by rw [rngI_len, List.length_nil]; omega, fun _ h => (by cases h), g1, fun y hy => ?_⟩
  · obtain ⟨ds, lo, wd, b5, rfl, l0, ea, hl, hd, g, hx⟩ := hJ
    obtain ⟨i, rfl, hi⟩ := hx x List.mem_cons_self
    have hx := fun y hy => hx y (List.mem_cons_of_mem _ hy)
    rw [List.length_cons] at hl
    simp only [ss_lk_digits_3b_0, wp_bd, wp_ret, wp_nope, wp_chk, wp_some, wp_ite, wp_tru, wpF_bs, wpF_nx, wpF_rt, wpF_bk, wpF_ct, wpF_ite, thenF_nx, thenF_rt, thenF_bk, thenF_ct, wpF_nil, wpF_cons, endF_nx, endF_rt, exe, ev, evs, evI, varM, List.getElem?_cons_zero, List.getElem?_cons_succ, List.set_cons_zero, List.set_cons_succ, Bool.false_eq_true, if_true, if_false, ite_true, ite_false, reduceIte, Option.some.injEq, exists_eq_left', exists_eq_left, wp_ixR, ixW_l, ixW_f, wp_ixT, wp_lenR, lenW_l, lenW_f, wp_lenT, wp_tupR, lsW_l, lsW_f, wp_tupT, wp_listT, wp_cmp, cmp_lt, cmp_le, cmp_gt, cmp_ge, cmp_eq, cmp_ne, eqD_int, eqD_bl, cmp_is, cmp_isn, dIs_bl, dIs_tn, dIs_nn, opt_map, decide_eq_true_eq, wp_mod, wp_fdiv, wp_pow, wp_add, wp_sub, wp_mul, wp_mulTI, wp_addT, wp_neg, wp_slT, wp_slR, slW, wp_isLst, lW_l, wp_app, wp_popAt, wp_setR, setW_l, partO, Bool.not_true, Bool.not_false, wp_minI, wp_maxI, wp_intI, wp_intB, wp_absI, wp_srcT, wp_r2, wp_isi, asg_one, asg_two, wp_srcST, isTy_bb, wipe_nil, wipe_cons, at0, at1, ix0, ix1]
    have step : ∀ (z : Int) (m2 : Mu), Dig z → Ge m m2 → m2[a]? = some (.lst (ds.map D.int)) → (m2.set a (.lst (ds.map D.int ++ [.int z])))[a]? = some (.lst ((ds ++ [z]).map D.int)) ∧ (ds ++ [z]).length + xs.length = many ∧ (∀ i ∈ ds ++ [z], Dig i) ∧ Ge m (m2.set a (.lst (ds.map D.int ++ [.int z]))) := fun z m2 hz g2 e2 => by
      refine ⟨by rw [getSS e2, List.map_append]; rfl, by rw [List.length_append]; simp; omega, fun i hi => ?_, g2.setN a1⟩
      rcases List.mem_append.mp hi with h | h
      · exact hd i h
      · rw [List.mem_singleton.mp h]
        exact hz
    have mixed : wp (run t w (n + 1) "_law_mix" [.int c, .int i]) m' fun v m2 => ∃ z, v = .int z ∧ Dig z ∧ Ge m' m2 := mix_ok D0 (by omega) (by omega)
    cases wd with
    | false =>
      simp only [wp_bd, wp_ret, wp_nope, wp_chk, wp_some, wp_ite, wp_tru, wpF_bs, wpF_nx, wpF_rt, wpF_bk, wpF_ct, wpF_ite, thenF_nx, thenF_rt, thenF_bk, thenF_ct, wpF_nil, wpF_cons, endF_nx, endF_rt, exe, ev, evs, evI, varM, List.getElem?_cons_zero, List.getElem?_cons_succ, List.set_cons_zero, List.set_cons_succ, Bool.false_eq_true, if_true, if_false, ite_true, ite_false, reduceIte, Option.some.injEq, exists_eq_left', exists_eq_left, wp_ixR, ixW_l, ixW_f, wp_ixT, wp_lenR, lenW_l, lenW_f, wp_lenT, wp_tupR, lsW_l, lsW_f, wp_tupT, wp_listT, wp_cmp, cmp_lt, cmp_le, cmp_gt, cmp_ge, cmp_eq, cmp_ne, eqD_int, eqD_bl, cmp_is, cmp_isn, dIs_bl, dIs_tn, dIs_nn, opt_map, decide_eq_true_eq, wp_mod, wp_fdiv, wp_pow, wp_add, wp_sub, wp_mul, wp_mulTI, wp_addT, wp_neg, wp_slT, wp_slR, slW, wp_isLst, lW_l, wp_app, wp_popAt, wp_setR, setW_l, partO, Bool.not_true, Bool.not_false, wp_minI, wp_maxI, wp_intI, wp_intB, wp_absI, wp_srcT, wp_r2, wp_isi, asg_one, asg_two, wp_srcST, isTy_bb, wipe_nil, wipe_cons, at0, at1, ix0, ix1, ea]
      refine wp_mono mixed fun v m2 ⟨z, e, hz, g2⟩ => ?_
      subst e
      have e2 := g2.get ea
      simp only [wp_bd, wp_ret, wp_nope, wp_chk, wp_some, wp_ite, wp_tru, wpF_bs, wpF_nx, wpF_rt, wpF_bk, wpF_ct, wpF_ite, thenF_nx, thenF_rt, thenF_bk, thenF_ct, wpF_nil, wpF_cons, endF_nx, endF_rt, exe, ev, evs, evI, varM, List.getElem?_cons_zero, List.getElem?_cons_succ, List.set_cons_zero, List.set_cons_succ, Bool.false_eq_true, if_true, if_false, ite_true, ite_false, reduceIte, Option.some.injEq, exists_eq_left', exists_eq_left, wp_ixR, ixW_l, ixW_f, wp_ixT, wp_lenR, lenW_l, lenW_f, wp_lenT, wp_tupR, lsW_l, lsW_f, wp_tupT, wp_listT, wp_cmp, cmp_lt, cmp_le, cmp_gt, cmp_ge, cmp_eq, cmp_ne, eqD_int, eqD_bl, cmp_is, cmp_isn, dIs_bl, dIs_tn, dIs_nn, opt_map, decide_eq_true_eq, wp_mod, wp_fdiv, wp_pow, wp_add, wp_sub, wp_mul, wp_mulTI, wp_addT, wp_neg, wp_slT, wp_slR, slW, wp_isLst, lW_l, wp_app, wp_popAt, wp_setR, setW_l, partO, Bool.not_true, Bool.not_false, wp_minI, wp_maxI, wp_intI, wp_intB, wp_absI, wp_srcT, wp_r2, wp_isi, asg_one, asg_two, wp_srcST, isTy_bb, wipe_nil, wipe_cons, at0, at1, ix0, ix1, e2, List.length_map]
      obtain ⟨s1, s2, s3, s4⟩ := step z m2 hz (g.trans g2) e2
      exact ⟨by omega, ds ++ [z], _, _, _, rfl, l0, s1, s2, s3, s4, hx⟩
    | true =>
      simp only [wp_bd, wp_ret, wp_nope, wp_chk, wp_some, wp_ite, wp_tru, wpF_bs, wpF_nx, wpF_rt, wpF_bk, wpF_ct, wpF_ite, thenF_nx, thenF_rt, thenF_bk, thenF_ct, wpF_nil, wpF_cons, endF_nx, endF_rt, exe, ev, evs, evI, varM, List.getElem?_cons_zero, List.getElem?_cons_succ, List.set_cons_zero, List.set_cons_succ, Bool.false_eq_true, if_true, if_false, ite_true, ite_false, reduceIte, Option.some.injEq, exists_eq_left', exists_eq_left, wp_ixR, ixW_l, ixW_f, wp_ixT, wp_lenR, lenW_l, lenW_f, wp_lenT, wp_tupR, lsW_l, lsW_f, wp_tupT, wp_listT, wp_cmp, cmp_lt, cmp_le, cmp_gt, cmp_ge, cmp_eq, cmp_ne, eqD_int, eqD_bl, cmp_is, cmp_isn, dIs_bl, dIs_tn, dIs_nn, opt_map, decide_eq_true_eq, wp_mod, wp_fdiv, wp_pow, wp_add, wp_sub, wp_mul, wp_mulTI, wp_addT, wp_neg, wp_slT, wp_slR, slW, wp_isLst, lW_l, wp_app, wp_popAt, wp_setR, setW_l, partO, Bool.not_true, Bool.not_false, wp_minI, wp_maxI, wp_intI, wp_intB, wp_absI, wp_srcT, wp_r2, wp_isi, asg_one, asg_two, wp_srcST, isTy_bb, wipe_nil, wipe_cons, at0, at1, ix0, ix1]
      by_cases c0 : (0 : Int) < lo
      · rw [if_pos c0]
        simp only [ea, wp_bd, wp_ret, wp_nope, wp_chk, wp_some, wp_ite, wp_tru, wpF_bs, wpF_nx, wpF_rt, wpF_bk, wpF_ct, wpF_ite, thenF_nx, thenF_rt, thenF_bk, thenF_ct, wpF_nil, wpF_cons, endF_nx, endF_rt, exe, ev, evs, evI, varM, List.getElem?_cons_zero, List.getElem?_cons_succ, List.set_cons_zero, List.set_cons_succ, Bool.false_eq_true, if_true, if_false, ite_true, ite_false, reduceIte, Option.some.injEq, exists_eq_left', exists_eq_left, wp_ixR, ixW_l, ixW_f, wp_ixT, wp_lenR, lenW_l, lenW_f, wp_lenT, wp_tupR, lsW_l, lsW_f, wp_tupT, wp_listT, wp_cmp, cmp_lt, cmp_le, cmp_gt, cmp_ge, cmp_eq, cmp_ne, eqD_int, eqD_bl, cmp_is, cmp_isn, dIs_bl, dIs_tn, dIs_nn, opt_map, decide_eq_true_eq, wp_mod, wp_fdiv, wp_pow, wp_add, wp_sub, wp_mul, wp_mulTI, wp_addT, wp_neg, wp_slT, wp_slR, slW, wp_isLst, lW_l, wp_app, wp_popAt, wp_setR, setW_l, partO, Bool.not_true, Bool.not_false, wp_minI, wp_maxI, wp_intI, wp_intB, wp_absI, wp_srcT, wp_r2, wp_isi, asg_one, asg_two, wp_srcST, isTy_bb, wipe_nil, wipe_cons, at0, at1, ix0, ix1, List.length_map]
        have f0 := fm_lo lo (b := 10007) (by decide)
        have f1 := fm_hi lo (b := 10007) (by decide)
        obtain ⟨s1, s2, s3, s4⟩ := step (lo.fmod 10007) m' ⟨f0, by omega⟩ g ea
        refine ⟨by decide, by omega, ⟨by decide, by decide⟩, ds ++ [lo.fmod 10007], _, _, _, rfl, ?_, s1, s2, s3, s4, hx⟩
        rw [fd_nn (by decide)]
        omega
      · rw [if_neg c0]
        simp only [wp_bd, wp_ret, wp_nope, wp_chk, wp_some, wp_ite, wp_tru, wpF_bs, wpF_nx, wpF_rt, wpF_bk, wpF_ct, wpF_ite, thenF_nx, thenF_rt, thenF_bk, thenF_ct, wpF_nil, wpF_cons, endF_nx, endF_rt, exe, ev, evs, evI, varM, List.getElem?_cons_zero, List.getElem?_cons_succ, List.set_cons_zero, List.set_cons_succ, Bool.false_eq_true, if_true, if_false, ite_true, ite_false, reduceIte, Option.some.injEq, exists_eq_left', exists_eq_left, wp_ixR, ixW_l, ixW_f, wp_ixT, wp_lenR, lenW_l, lenW_f, wp_lenT, wp_tupR, lsW_l, lsW_f, wp_tupT, wp_listT, wp_cmp, cmp_lt, cmp_le, cmp_gt, cmp_ge, cmp_eq, cmp_ne, eqD_int, eqD_bl, cmp_is, cmp_isn, dIs_bl, dIs_tn, dIs_nn, opt_map, decide_eq_true_eq, wp_mod, wp_fdiv, wp_pow, wp_add, wp_sub, wp_mul, wp_mulTI, wp_addT, wp_neg, wp_slT, wp_slR, slW, wp_isLst, lW_l, wp_app, wp_popAt, wp_setR, setW_l, partO, Bool.not_true, Bool.not_false, wp_minI, wp_maxI, wp_intI, wp_intB, wp_absI, wp_srcT, wp_r2, wp_isi, asg_one, asg_two, wp_srcST, isTy_bb, wipe_nil, wipe_cons, at0, at1, ix0, ix1, ea]
        refine wp_mono mixed fun v m2 ⟨z, e, hz, g2⟩ => ?_
        subst e
        have e2 := g2.get ea
        simp only [wp_bd, wp_ret, wp_nope, wp_chk, wp_some, wp_ite, wp_tru, wpF_bs, wpF_nx, wpF_rt, wpF_bk, wpF_ct, wpF_ite, thenF_nx, thenF_rt, thenF_bk, thenF_ct, wpF_nil, wpF_cons, endF_nx, endF_rt, exe, ev, evs, evI, varM, List.getElem?_cons_zero, List.getElem?_cons_succ, List.set_cons_zero, List.set_cons_succ, Bool.false_eq_true, if_true, if_false, ite_true, ite_false, reduceIte, Option.some.injEq, exists_eq_left', exists_eq_left, wp_ixR, ixW_l, ixW_f, wp_ixT, wp_lenR, lenW_l, lenW_f, wp_lenT, wp_tupR, lsW_l, lsW_f, wp_tupT, wp_listT, wp_cmp, cmp_lt, cmp_le, cmp_gt, cmp_ge, cmp_eq, cmp_ne, eqD_int, eqD_bl, cmp_is, cmp_isn, dIs_bl, dIs_tn, dIs_nn, opt_map, decide_eq_true_eq, wp_mod, wp_fdiv, wp_pow, wp_add, wp_sub, wp_mul, wp_mulTI, wp_addT, wp_neg, wp_slT, wp_slR, slW, wp_isLst, lW_l, wp_app, wp_popAt, wp_setR, setW_l, partO, Bool.not_true, Bool.not_false, wp_minI, wp_maxI, wp_intI, wp_intB, wp_absI, wp_srcT, wp_r2, wp_isi, asg_one, asg_two, wp_srcST, isTy_bb, wipe_nil, wipe_cons, at0, at1, ix0, ix1, e2, List.length_map]
        obtain ⟨s1, s2, s3, s4⟩ := step z m2 hz (g.trans g2) e2
        exact ⟨by omega, ds ++ [z], _, _, _, rfl, l0, s1, s2, s3, s4, hx⟩
  · obtain ⟨ds, lo, wd, b5, rfl, l0, ea, hl, hd, g, hx⟩ := hJ
    simp only [ss_lk_digits_4, wp_bd, wp_ret, wp_nope, wp_chk, wp_some, wp_ite, wp_tru, wpF_bs, wpF_nx, wpF_rt, wpF_bk, wpF_ct, wpF_ite, thenF_nx, thenF_rt, thenF_bk, thenF_ct, wpF_nil, wpF_cons, endF_nx, endF_rt, exe, ev, evs, evI, varM, List.getElem?_cons_zero, List.getElem?_cons_succ, List.set_cons_zero, List.set_cons_succ, Bool.false_eq_true, if_true, if_false, ite_true, ite_false, reduceIte, Option.some.injEq, exists_eq_left', exists_eq_left, wp_ixR, ixW_l, ixW_f, wp_ixT, wp_lenR, lenW_l, lenW_f, wp_lenT, wp_tupR, lsW_l, lsW_f, wp_tupT, wp_listT, wp_cmp, cmp_lt, cmp_le, cmp_gt, cmp_ge, cmp_eq, cmp_ne, eqD_int, eqD_bl, cmp_is, cmp_isn, dIs_bl, dIs_tn, dIs_nn, opt_map, decide_eq_true_eq, wp_mod, wp_fdiv, wp_pow, wp_add, wp_sub, wp_mul, wp_mulTI, wp_addT, wp_neg, wp_slT, wp_slR, slW, wp_isLst, lW_l, wp_app, wp_popAt, wp_setR, setW_l, partO, Bool.not_true, Bool.not_false, wp_minI, wp_maxI, wp_intI, wp_intB, wp_absI, wp_srcT, wp_r2, wp_isi, asg_one, asg_two, wp_srcST, isTy_bb, wipe_nil, wipe_cons, at0, at1, ix0, ix1]
    exact ⟨a, ds, rfl, ea, by simpa using hl, hd, g, a1⟩
  · obtain ⟨i, hi, rfl⟩ := rngI_get hy
    exact ⟨i, by rw [show (0 + (i : Int) * 1) = (i : Int) by omega], by omega⟩
theorem at_ok (D0 : Dg0 t) {s : Nat} {xs : List Int} (hs : lstAt m s = some (xs.map D.int)) {k : Int} (h0 : 0 ≤ k) : wp (run t w (n + 1) "_law_at" [.ref s, .int k]) m fun v m' => (∃ z, v = .int z) ∧ m' = m := by
  refine wp_run D0.at_ rfl ?_
  show wpF (exes _ _ fn_lk_at.body [some (.ref s), some (.int k)]) m _
  have go : ∀ (f : List D → O), m[s]? = some (f (xs.map D.int)) → (f = O.lst ∨ f = O.fls) → wpF (exes (run t w n) w fn_lk_at.body [some (.ref s), some (.int k)]) m (endF fun v m' => (∃ z, v = .int z) ∧ m' = m) := fun f e hf => by
    rcases hf with rfl | rfl <;> simp only [fn_lk_at, ss_lk_at_0, wp_bd, wp_ret, wp_nope, wp_chk, wp_some, wp_ite, wp_tru, wpF_bs, wpF_nx, wpF_rt, wpF_bk, wpF_ct, wpF_ite, thenF_nx, thenF_rt, thenF_bk, thenF_ct, wpF_nil, wpF_cons, endF_nx, endF_rt, exe, ev, evs, evI, varM, List.getElem?_cons_zero, List.getElem?_cons_succ, List.set_cons_zero, List.set_cons_succ, Bool.false_eq_true, if_true, if_false, ite_true, ite_false, reduceIte, Option.some.injEq, exists_eq_left', exists_eq_left, wp_ixR, ixW_l, ixW_f, wp_ixT, wp_lenR, lenW_l, lenW_f, wp_lenT, wp_tupR, lsW_l, lsW_f, wp_tupT, wp_listT, wp_cmp, cmp_lt, cmp_le, cmp_gt, cmp_ge, cmp_eq, cmp_ne, eqD_int, eqD_bl, cmp_is, cmp_isn, dIs_bl, dIs_tn, dIs_nn, opt_map, decide_eq_true_eq, wp_mod, wp_fdiv, wp_pow, wp_add, wp_sub, wp_mul, wp_mulTI, wp_addT, wp_neg, wp_slT, wp_slR, slW, wp_isLst, lW_l, wp_app, wp_popAt, wp_setR, setW_l, partO, Bool.not_true, Bool.not_false, wp_minI, wp_maxI, wp_intI, wp_intB, wp_absI, wp_srcT, wp_r2, wp_isi, asg_one, asg_two, wp_srcST, isTy_bb, wipe_nil, wipe_cons, at0, at1, ix0, ix1, e, List.length_map]
    all_goals
      by_cases c : k < xs.length
      · rw [if_pos c]
        obtain ⟨y, e1, e2⟩ := atI_nat (xs := xs.map D.int) (i := k) h0 (by rw [List.length_map]; exact c)
        rw [List.getElem?_map] at e2
        obtain ⟨z, _, rfl⟩ := Option.map_eq_some_iff.mp e2
        exact ⟨_, e1, ⟨z, rfl⟩, trivial⟩
      · rw [if_neg c]
        simp only [ss_lk_at_1, wp_bd, wp_ret, wp_nope, wp_chk, wp_some, wp_ite, wp_tru, wpF_bs, wpF_nx, wpF_rt, wpF_bk, wpF_ct, wpF_ite, thenF_nx, thenF_rt, thenF_bk, thenF_ct, wpF_nil, wpF_cons, endF_nx, endF_rt, exe, ev, evs, evI, varM, List.getElem?_cons_zero, List.getElem?_cons_succ, List.set_cons_zero, List.set_cons_succ, Bool.false_eq_true, if_true, if_false, ite_true, ite_false, reduceIte, Option.some.injEq, exists_eq_left', exists_eq_left, wp_ixR, ixW_l, ixW_f, wp_ixT, wp_lenR, lenW_l, lenW_f, wp_lenT, wp_tupR, lsW_l, lsW_f, wp_tupT, wp_listT, wp_cmp, cmp_lt, cmp_le, cmp_gt, cmp_ge, cmp_eq, cmp_ne, eqD_int, eqD_bl, cmp_is, cmp_isn, dIs_bl, dIs_tn, dIs_nn, opt_map, decide_eq_true_eq, wp_mod, wp_fdiv, wp_pow, wp_add, wp_sub, wp_mul, wp_mulTI, wp_addT, wp_neg, wp_slT, wp_slR, slW, wp_isLst, lW_l, wp_app, wp_popAt, wp_setR, setW_l, partO, Bool.not_true, Bool.not_false, wp_minI, wp_maxI, wp_intI, wp_intB, wp_absI, wp_srcT, wp_r2, wp_isi, asg_one, asg_two, wp_srcST, isTy_bb, wipe_nil, wipe_cons, at0, at1, ix0, ix1, e, List.length_map]
        exact ⟨.inl (by decide), ⟨_, rfl⟩, trivial⟩
  rcases lst_of hs with e | e
  · exact go _ e (.inl rfl)
  · exact go _ e (.inr rfl)
theorem dig_at {ds : List Int} {i : Int} (h0 : 0 ≤ i) (h1 : i < ds.length) (hd : ∀ i ∈ ds, Dig i) : ∃ z, L2.atI (ds.map D.int) i = some (.int z) ∧ Dig z := by
  obtain ⟨y, e1, e2⟩ := atI_nat (xs := ds.map D.int) (i := i) h0 (by rw [List.length_map]; exact h1)
  rw [List.getElem?_map] at e2
  obtain ⟨z, e3, rfl⟩ := Option.map_eq_some_iff.mp e2
  exact ⟨z, e1, hd z (List.mem_of_getElem? e3)⟩
theorem kinds_dig (D0 : Dgs t) {s : Nat} {ds : List Int} {many : Nat} (hs : m[s]? = some (.lst (ds.map D.int))) (hd : ∀ i ∈ ds, Dig i) (hm : many < ds.length) (hm9 : many ≤ 900) : wp (run t w (n + 1) "_law_kinds" [.ref s, .int many]) m fun v m' => ∃ kb : List Bool, v = .tup (kb.map kD) ∧ kb.length = many ∧ Ge m m' := by
  have big := big_line
  refine wp_run D0.kin rfl ?_
  show wpF (exes _ _ fn_lk_kinds.body [some (.ref s), some (.int many), none, none, none]) m _
  simp only [fn_lk_kinds, ss_lk_kinds_0, wp_bd, wp_ret, wp_nope, wp_chk, wp_some, wp_ite, wp_tru, wpF_bs, wpF_nx, wpF_rt, wpF_bk, wpF_ct, wpF_ite, thenF_nx, thenF_rt, thenF_bk, thenF_ct, wpF_nil, wpF_cons, endF_nx, endF_rt, exe, ev, evs, evI, varM, List.getElem?_cons_zero, List.getElem?_cons_succ, List.set_cons_zero, List.set_cons_succ, Bool.false_eq_true, if_true, if_false, ite_true, ite_false, reduceIte, Option.some.injEq, exists_eq_left', exists_eq_left, wp_ixR, ixW_l, ixW_f, wp_ixT, wp_lenR, lenW_l, lenW_f, wp_lenT, wp_tupR, lsW_l, lsW_f, wp_tupT, wp_listT, wp_cmp, cmp_lt, cmp_le, cmp_gt, cmp_ge, cmp_eq, cmp_ne, eqD_int, eqD_bl, cmp_is, cmp_isn, dIs_bl, dIs_tn, dIs_nn, opt_map, decide_eq_true_eq, wp_mod, wp_fdiv, wp_pow, wp_add, wp_sub, wp_mul, wp_mulTI, wp_addT, wp_neg, wp_slT, wp_slR, slW, wp_isLst, lW_l, wp_app, wp_popAt, wp_setR, setW_l, partO, Bool.not_true, Bool.not_false, wp_minI, wp_maxI, wp_intI, wp_intB, wp_absI, wp_srcT, wp_r2, wp_isi, asg_one, asg_two, wp_srcST, isTy_bb, wipe_nil, wipe_cons, at0, at1, ix0, ix1, List.length_nil]
  refine ⟨by omega, wp_new fun a m1 g1 e1 a1 b1 c1 => ?_⟩
  simp only [ss_lk_kinds_1, wp_bd, wp_ret, wp_nope, wp_chk, wp_some, wp_ite, wp_tru, wpF_bs, wpF_nx, wpF_rt, wpF_bk, wpF_ct, wpF_ite, thenF_nx, thenF_rt, thenF_bk, thenF_ct, wpF_nil, wpF_cons, endF_nx, endF_rt, exe, ev, evs, evI, varM, List.getElem?_cons_zero, List.getElem?_cons_succ, List.set_cons_zero, List.set_cons_succ, Bool.false_eq_true, if_true, if_false, ite_true, ite_false, reduceIte, Option.some.injEq, exists_eq_left', exists_eq_left, wp_ixR, ixW_l, ixW_f, wp_ixT, wp_lenR, lenW_l, lenW_f, wp_lenT, wp_tupR, lsW_l, lsW_f, wp_tupT, wp_listT, wp_cmp, cmp_lt, cmp_le, cmp_gt, cmp_ge, cmp_eq, cmp_ne, eqD_int, eqD_bl, cmp_is, cmp_isn, dIs_bl, dIs_tn, dIs_nn, opt_map, decide_eq_true_eq, wp_mod, wp_fdiv, wp_pow, wp_add, wp_sub, wp_mul, wp_mulTI, wp_addT, wp_neg, wp_slT, wp_slR, slW, wp_isLst, lW_l, wp_app, wp_popAt, wp_setR, setW_l, partO, Bool.not_true, Bool.not_false, wp_minI, wp_maxI, wp_intI, wp_intB, wp_absI, wp_srcT, wp_r2, wp_isi, asg_one, asg_two, wp_srcST, isTy_bb, wipe_nil, wipe_cons, at0, at1, ix0, ix1]
  refine ⟨⟨by decide, ⟨by omega, by omega⟩⟩, ?_⟩
  refine wpF_loop (a := []) (J := fun xs ρ m' => ∃ (kb : List Bool) (b3 b4 : Option D), ρ = [some (.ref s), some (.int many), some (.ref a), b3, b4] ∧ m'[a]? = some (.lst (kb.map kD)) ∧ kb.length + xs.length = many ∧ Ge m m' ∧ (∀ y ∈ xs, ∃ i : Nat, y = .int i ∧ i < many)) (fun _ _ _ _ => trivial) (fun x xs ρ m' hJ => ?_) (fun ρ m' hJ => ?_) _ _ _
    ⟨[], _, _, rfl, e1, by rw [rngI_len, List.length_nil]; omega, g1, fun y hy => ?_⟩
  · obtain ⟨kb, b3, b4, rfl, ea, hl, g, hx⟩ := hJ
    obtain ⟨i, rfl, hi⟩ := hx x List.mem_cons_self
    have hx := fun y hy => hx y (List.mem_cons_of_mem _ hy)
    rw [List.length_cons] at hl
    obtain ⟨z1, ez1, d1⟩ := dig_at (i := 1 + (i : Int)) (by omega) (by omega) hd
    obtain ⟨z0, ez0, d0⟩ := dig_at (i := 0) (by omega) (by omega) hd
    obtain ⟨zz, ezz, dd⟩ := dig_at (i := 1) (by omega) (by omega) hd
    have two : ∀ z : Int, z.fmod 2 = 0 ∨ z.fmod 2 = 1 := fun z => by
      have := fm_lo z (b := 2) (by decide)
      have := fm_hi z (b := 2) (by decide)
      omega
    have pick : ∀ z : Int, ∃ b, L2.atI [D.str "all", D.str "some"] (z.fmod 2) = some (kD b) := fun z => by
      rcases two z with h | h <;> rw [h]
      · exact ⟨false, rfl⟩
      · exact ⟨true, rfl⟩
    have pick2 : ∀ z : Int, ∃ b, L2.atI [D.str "some", D.str "all"] (z.fmod 2) = some (kD b) := fun z => by
      rcases two z with h | h <;> rw [h]
      · exact ⟨true, rfl⟩
      · exact ⟨false, rfl⟩
    have hs' := g.get hs
    obtain ⟨k1, ek1⟩ := pick z1
    simp only [ss_lk_kinds_1b_0, wp_bd, wp_ret, wp_nope, wp_chk, wp_some, wp_ite, wp_tru, wpF_bs, wpF_nx, wpF_rt, wpF_bk, wpF_ct, wpF_ite, thenF_nx, thenF_rt, thenF_bk, thenF_ct, wpF_nil, wpF_cons, endF_nx, endF_rt, exe, ev, evs, evI, varM, List.getElem?_cons_zero, List.getElem?_cons_succ, List.set_cons_zero, List.set_cons_succ, Bool.false_eq_true, if_true, if_false, ite_true, ite_false, reduceIte, Option.some.injEq, exists_eq_left', exists_eq_left, wp_ixR, ixW_l, ixW_f, wp_ixT, wp_lenR, lenW_l, lenW_f, wp_lenT, wp_tupR, lsW_l, lsW_f, wp_tupT, wp_listT, wp_cmp, cmp_lt, cmp_le, cmp_gt, cmp_ge, cmp_eq, cmp_ne, eqD_int, eqD_bl, cmp_is, cmp_isn, dIs_bl, dIs_tn, dIs_nn, opt_map, decide_eq_true_eq, wp_mod, wp_fdiv, wp_pow, wp_add, wp_sub, wp_mul, wp_mulTI, wp_addT, wp_neg, wp_slT, wp_slR, slW, wp_isLst, lW_l, wp_app, wp_popAt, wp_setR, setW_l, partO, Bool.not_true, Bool.not_false, wp_minI, wp_maxI, wp_intI, wp_intB, wp_absI, wp_srcT, wp_r2, wp_isi, asg_one, asg_two, wp_srcST, isTy_bb, wipe_nil, wipe_cons, at0, at1, ix0, ix1, List.length_cons, List.length_nil]
    refine ⟨by decide, wp_new fun l2 m2 g2 e2 a2 b2 c2 => ?_⟩
    have hs2 := g2.get hs'
    simp only [wp_bd, wp_ret, wp_nope, wp_chk, wp_some, wp_ite, wp_tru, wpF_bs, wpF_nx, wpF_rt, wpF_bk, wpF_ct, wpF_ite, thenF_nx, thenF_rt, thenF_bk, thenF_ct, wpF_nil, wpF_cons, endF_nx, endF_rt, exe, ev, evs, evI, varM, List.getElem?_cons_zero, List.getElem?_cons_succ, List.set_cons_zero, List.set_cons_succ, Bool.false_eq_true, if_true, if_false, ite_true, ite_false, reduceIte, Option.some.injEq, exists_eq_left', exists_eq_left, wp_ixR, ixW_l, ixW_f, wp_ixT, wp_lenR, lenW_l, lenW_f, wp_lenT, wp_tupR, lsW_l, lsW_f, wp_tupT, wp_listT, wp_cmp, cmp_lt, cmp_le, cmp_gt, cmp_ge, cmp_eq, cmp_ne, eqD_int, eqD_bl, cmp_is, cmp_isn, dIs_bl, dIs_tn, dIs_nn, opt_map, decide_eq_true_eq, wp_mod, wp_fdiv, wp_pow, wp_add, wp_sub, wp_mul, wp_mulTI, wp_addT, wp_neg, wp_slT, wp_slR, slW, wp_isLst, lW_l, wp_app, wp_popAt, wp_setR, setW_l, partO, Bool.not_true, Bool.not_false, wp_minI, wp_maxI, wp_intI, wp_intB, wp_absI, wp_srcT, wp_r2, wp_isi, asg_one, asg_two, wp_srcST, isTy_bb, wipe_nil, wipe_cons, at0, at1, ix0, ix1, hs2]
    refine ⟨_, ez1, ?_⟩
    simp only [wp_bd, wp_ret, wp_nope, wp_chk, wp_some, wp_ite, wp_tru, wpF_bs, wpF_nx, wpF_rt, wpF_bk, wpF_ct, wpF_ite, thenF_nx, thenF_rt, thenF_bk, thenF_ct, wpF_nil, wpF_cons, endF_nx, endF_rt, exe, ev, evs, evI, varM, List.getElem?_cons_zero, List.getElem?_cons_succ, List.set_cons_zero, List.set_cons_succ, Bool.false_eq_true, if_true, if_false, ite_true, ite_false, reduceIte, Option.some.injEq, exists_eq_left', exists_eq_left, wp_ixR, ixW_l, ixW_f, wp_ixT, wp_lenR, lenW_l, lenW_f, wp_lenT, wp_tupR, lsW_l, lsW_f, wp_tupT, wp_listT, wp_cmp, cmp_lt, cmp_le, cmp_gt, cmp_ge, cmp_eq, cmp_ne, eqD_int, eqD_bl, cmp_is, cmp_isn, dIs_bl, dIs_tn, dIs_nn, opt_map, decide_eq_true_eq, wp_mod, wp_fdiv, wp_pow, wp_add, wp_sub, wp_mul, wp_mulTI, wp_addT, wp_neg, wp_slT, wp_slR, slW, wp_isLst, lW_l, wp_app, wp_popAt, wp_setR, setW_l, partO, Bool.not_true, Bool.not_false, wp_minI, wp_maxI, wp_intI, wp_intB, wp_absI, wp_srcT, wp_r2, wp_isi, asg_one, asg_two, wp_srcST, isTy_bb, wipe_nil, wipe_cons, at0, at1, ix0, ix1, e2]
    refine ⟨by decide, _, ek1, ?_⟩
    unfold ss_lk_kinds_1b_1
    rw [wpF_cons]
    refine wpF_mono (Q := fun fl m' => ∃ k2 : Bool, fl = .nx [some (.ref s), some (.int many), some (.ref a), some (.int i), some (kD k2)] ∧ Ge m2 m') ?_ ?_
    · simp only [wp_bd, wp_ret, wp_nope, wp_chk, wp_some, wp_ite, wp_tru, wpF_bs, wpF_nx, wpF_rt, wpF_bk, wpF_ct, wpF_ite, thenF_nx, thenF_rt, thenF_bk, thenF_ct, wpF_nil, wpF_cons, endF_nx, endF_rt, exe, ev, evs, evI, varM, List.getElem?_cons_zero, List.getElem?_cons_succ, List.set_cons_zero, List.set_cons_succ, Bool.false_eq_true, if_true, if_false, ite_true, ite_false, reduceIte, Option.some.injEq, exists_eq_left', exists_eq_left, wp_ixR, ixW_l, ixW_f, wp_ixT, wp_lenR, lenW_l, lenW_f, wp_lenT, wp_tupR, lsW_l, lsW_f, wp_tupT, wp_listT, wp_cmp, cmp_lt, cmp_le, cmp_gt, cmp_ge, cmp_eq, cmp_ne, eqD_int, eqD_bl, cmp_is, cmp_isn, dIs_bl, dIs_tn, dIs_nn, opt_map, decide_eq_true_eq, wp_mod, wp_fdiv, wp_pow, wp_add, wp_sub, wp_mul, wp_mulTI, wp_addT, wp_neg, wp_slT, wp_slR, slW, wp_isLst, lW_l, wp_app, wp_popAt, wp_setR, setW_l, partO, Bool.not_true, Bool.not_false, wp_minI, wp_maxI, wp_intI, wp_intB, wp_absI, wp_srcT, wp_r2, wp_isi, asg_one, asg_two, wp_srcST, isTy_bb, wipe_nil, wipe_cons, at0, at1, ix0, ix1, hs2]
      refine ⟨_, ez0, ?_⟩
      simp only [wp_bd, wp_ret, wp_nope, wp_chk, wp_some, wp_ite, wp_tru, wpF_bs, wpF_nx, wpF_rt, wpF_bk, wpF_ct, wpF_ite, thenF_nx, thenF_rt, thenF_bk, thenF_ct, wpF_nil, wpF_cons, endF_nx, endF_rt, exe, ev, evs, evI, varM, List.getElem?_cons_zero, List.getElem?_cons_succ, List.set_cons_zero, List.set_cons_succ, Bool.false_eq_true, if_true, if_false, ite_true, ite_false, reduceIte, Option.some.injEq, exists_eq_left', exists_eq_left, wp_ixR, ixW_l, ixW_f, wp_ixT, wp_lenR, lenW_l, lenW_f, wp_lenT, wp_tupR, lsW_l, lsW_f, wp_tupT, wp_listT, wp_cmp, cmp_lt, cmp_le, cmp_gt, cmp_ge, cmp_eq, cmp_ne, eqD_int, eqD_bl, cmp_is, cmp_isn, dIs_bl, dIs_tn, dIs_nn, opt_map, decide_eq_true_eq, wp_mod, wp_fdiv, wp_pow, wp_add, wp_sub, wp_mul, wp_mulTI, wp_addT, wp_neg, wp_slT, wp_slR, slW, wp_isLst, lW_l, wp_app, wp_popAt, wp_setR, setW_l, partO, Bool.not_true, Bool.not_false, wp_minI, wp_maxI, wp_intI, wp_intB, wp_absI, wp_srcT, wp_r2, wp_isi, asg_one, asg_two, wp_srcST, isTy_bb, wipe_nil, wipe_cons, at0, at1, ix0, ix1]
      refine ⟨by decide, ?_⟩
      by_cases c : z0.fmod 4 = 1
      · rw [if_pos c]
        simp only [List.length_cons, List.length_nil]
        refine ⟨by decide, wp_new fun l3 m3 g3 e3 a3 b3 c3 => ?_⟩
        simp only [wp_bd, wp_ret, wp_nope, wp_chk, wp_some, wp_ite, wp_tru, wpF_bs, wpF_nx, wpF_rt, wpF_bk, wpF_ct, wpF_ite, thenF_nx, thenF_rt, thenF_bk, thenF_ct, wpF_nil, wpF_cons, endF_nx, endF_rt, exe, ev, evs, evI, varM, List.getElem?_cons_zero, List.getElem?_cons_succ, List.set_cons_zero, List.set_cons_succ, Bool.false_eq_true, if_true, if_false, ite_true, ite_false, reduceIte, Option.some.injEq, exists_eq_left', exists_eq_left, wp_ixR, ixW_l, ixW_f, wp_ixT, wp_lenR, lenW_l, lenW_f, wp_lenT, wp_tupR, lsW_l, lsW_f, wp_tupT, wp_listT, wp_cmp, cmp_lt, cmp_le, cmp_gt, cmp_ge, cmp_eq, cmp_ne, eqD_int, eqD_bl, cmp_is, cmp_isn, dIs_bl, dIs_tn, dIs_nn, opt_map, decide_eq_true_eq, wp_mod, wp_fdiv, wp_pow, wp_add, wp_sub, wp_mul, wp_mulTI, wp_addT, wp_neg, wp_slT, wp_slR, slW, wp_isLst, lW_l, wp_app, wp_popAt, wp_setR, setW_l, partO, Bool.not_true, Bool.not_false, wp_minI, wp_maxI, wp_intI, wp_intB, wp_absI, wp_srcT, wp_r2, wp_isi, asg_one, asg_two, wp_srcST, isTy_bb, wipe_nil, wipe_cons, at0, at1, ix0, ix1, g3.get hs2]
        refine ⟨_, ezz, ?_⟩
        obtain ⟨k2, ek2⟩ := pick2 ((i : Int) + zz)
        simp only [wp_bd, wp_ret, wp_nope, wp_chk, wp_some, wp_ite, wp_tru, wpF_bs, wpF_nx, wpF_rt, wpF_bk, wpF_ct, wpF_ite, thenF_nx, thenF_rt, thenF_bk, thenF_ct, wpF_nil, wpF_cons, endF_nx, endF_rt, exe, ev, evs, evI, varM, List.getElem?_cons_zero, List.getElem?_cons_succ, List.set_cons_zero, List.set_cons_succ, Bool.false_eq_true, if_true, if_false, ite_true, ite_false, reduceIte, Option.some.injEq, exists_eq_left', exists_eq_left, wp_ixR, ixW_l, ixW_f, wp_ixT, wp_lenR, lenW_l, lenW_f, wp_lenT, wp_tupR, lsW_l, lsW_f, wp_tupT, wp_listT, wp_cmp, cmp_lt, cmp_le, cmp_gt, cmp_ge, cmp_eq, cmp_ne, eqD_int, eqD_bl, cmp_is, cmp_isn, dIs_bl, dIs_tn, dIs_nn, opt_map, decide_eq_true_eq, wp_mod, wp_fdiv, wp_pow, wp_add, wp_sub, wp_mul, wp_mulTI, wp_addT, wp_neg, wp_slT, wp_slR, slW, wp_isLst, lW_l, wp_app, wp_popAt, wp_setR, setW_l, partO, Bool.not_true, Bool.not_false, wp_minI, wp_maxI, wp_intI, wp_intB, wp_absI, wp_srcT, wp_r2, wp_isi, asg_one, asg_two, wp_srcST, isTy_bb, wipe_nil, wipe_cons, at0, at1, ix0, ix1, e3]
        exact ⟨by decide, _, ek2, k2, rfl, g3⟩
      · rw [if_neg c]
        exact ⟨k1, rfl, .refl⟩
    rintro fl m3 ⟨k2, rfl, g3⟩
    rw [thenF_nx]
    have hs3 := g3.get hs2
    unfold ss_lk_kinds_1b_2
    rw [wpF_cons]
    refine wpF_mono (Q := fun fl m' => ∃ k3 : Bool, fl = .nx [some (.ref s), some (.int many), some (.ref a), some (.int i), some (kD k3)] ∧ Ge m3 m') ?_ ?_
    · simp only [wp_bd, wp_ret, wp_nope, wp_chk, wp_some, wp_ite, wp_tru, wpF_bs, wpF_nx, wpF_rt, wpF_bk, wpF_ct, wpF_ite, thenF_nx, thenF_rt, thenF_bk, thenF_ct, wpF_nil, wpF_cons, endF_nx, endF_rt, exe, ev, evs, evI, varM, List.getElem?_cons_zero, List.getElem?_cons_succ, List.set_cons_zero, List.set_cons_succ, Bool.false_eq_true, if_true, if_false, ite_true, ite_false, reduceIte, Option.some.injEq, exists_eq_left', exists_eq_left, wp_ixR, ixW_l, ixW_f, wp_ixT, wp_lenR, lenW_l, lenW_f, wp_lenT, wp_tupR, lsW_l, lsW_f, wp_tupT, wp_listT, wp_cmp, cmp_lt, cmp_le, cmp_gt, cmp_ge, cmp_eq, cmp_ne, eqD_int, eqD_bl, cmp_is, cmp_isn, dIs_bl, dIs_tn, dIs_nn, opt_map, decide_eq_true_eq, wp_mod, wp_fdiv, wp_pow, wp_add, wp_sub, wp_mul, wp_mulTI, wp_addT, wp_neg, wp_slT, wp_slR, slW, wp_isLst, lW_l, wp_app, wp_popAt, wp_setR, setW_l, partO, Bool.not_true, Bool.not_false, wp_minI, wp_maxI, wp_intI, wp_intB, wp_absI, wp_srcT, wp_r2, wp_isi, asg_one, asg_two, wp_srcST, isTy_bb, wipe_nil, wipe_cons, at0, at1, ix0, ix1, hs3]
      refine ⟨_, ez0, ?_⟩
      simp only [wp_bd, wp_ret, wp_nope, wp_chk, wp_some, wp_ite, wp_tru, wpF_bs, wpF_nx, wpF_rt, wpF_bk, wpF_ct, wpF_ite, thenF_nx, thenF_rt, thenF_bk, thenF_ct, wpF_nil, wpF_cons, endF_nx, endF_rt, exe, ev, evs, evI, varM, List.getElem?_cons_zero, List.getElem?_cons_succ, List.set_cons_zero, List.set_cons_succ, Bool.false_eq_true, if_true, if_false, ite_true, ite_false, reduceIte, Option.some.injEq, exists_eq_left', exists_eq_left, wp_ixR, ixW_l, ixW_f, wp_ixT, wp_lenR, lenW_l, lenW_f, wp_lenT, wp_tupR, lsW_l, lsW_f, wp_tupT, wp_listT, wp_cmp, cmp_lt, cmp_le, cmp_gt, cmp_ge, cmp_eq, cmp_ne, eqD_int, eqD_bl, cmp_is, cmp_isn, dIs_bl, dIs_tn, dIs_nn, opt_map, decide_eq_true_eq, wp_mod, wp_fdiv, wp_pow, wp_add, wp_sub, wp_mul, wp_mulTI, wp_addT, wp_neg, wp_slT, wp_slR, slW, wp_isLst, lW_l, wp_app, wp_popAt, wp_setR, setW_l, partO, Bool.not_true, Bool.not_false, wp_minI, wp_maxI, wp_intI, wp_intB, wp_absI, wp_srcT, wp_r2, wp_isi, asg_one, asg_two, wp_srcST, isTy_bb, wipe_nil, wipe_cons, at0, at1, ix0, ix1]
      refine ⟨by decide, ?_⟩
      by_cases c : z0.fmod 4 = 2
      · rw [if_pos c]
        simp only [List.length_cons, List.length_nil]
        refine ⟨by decide, wp_new fun l3 m4 g4 e4 a3 b3 c3 => ?_⟩
        simp only [wp_bd, wp_ret, wp_nope, wp_chk, wp_some, wp_ite, wp_tru, wpF_bs, wpF_nx, wpF_rt, wpF_bk, wpF_ct, wpF_ite, thenF_nx, thenF_rt, thenF_bk, thenF_ct, wpF_nil, wpF_cons, endF_nx, endF_rt, exe, ev, evs, evI, varM, List.getElem?_cons_zero, List.getElem?_cons_succ, List.set_cons_zero, List.set_cons_succ, Bool.false_eq_true, if_true, if_false, ite_true, ite_false, reduceIte, Option.some.injEq, exists_eq_left', exists_eq_left, wp_ixR, ixW_l, ixW_f, wp_ixT, wp_lenR, lenW_l, lenW_f, wp_lenT, wp_tupR, lsW_l, lsW_f, wp_tupT, wp_listT, wp_cmp, cmp_lt, cmp_le, cmp_gt, cmp_ge, cmp_eq, cmp_ne, eqD_int, eqD_bl, cmp_is, cmp_isn, dIs_bl, dIs_tn, dIs_nn, opt_map, decide_eq_true_eq, wp_mod, wp_fdiv, wp_pow, wp_add, wp_sub, wp_mul, wp_mulTI, wp_addT, wp_neg, wp_slT, wp_slR, slW, wp_isLst, lW_l, wp_app, wp_popAt, wp_setR, setW_l, partO, Bool.not_true, Bool.not_false, wp_minI, wp_maxI, wp_intI, wp_intB, wp_absI, wp_srcT, wp_r2, wp_isi, asg_one, asg_two, wp_srcST, isTy_bb, wipe_nil, wipe_cons, at0, at1, ix0, ix1, g4.get hs3]
        refine ⟨_, ez1, ?_⟩
        simp only [wp_bd, wp_ret, wp_nope, wp_chk, wp_some, wp_ite, wp_tru, wpF_bs, wpF_nx, wpF_rt, wpF_bk, wpF_ct, wpF_ite, thenF_nx, thenF_rt, thenF_bk, thenF_ct, wpF_nil, wpF_cons, endF_nx, endF_rt, exe, ev, evs, evI, varM, List.getElem?_cons_zero, List.getElem?_cons_succ, List.set_cons_zero, List.set_cons_succ, Bool.false_eq_true, if_true, if_false, ite_true, ite_false, reduceIte, Option.some.injEq, exists_eq_left', exists_eq_left, wp_ixR, ixW_l, ixW_f, wp_ixT, wp_lenR, lenW_l, lenW_f, wp_lenT, wp_tupR, lsW_l, lsW_f, wp_tupT, wp_listT, wp_cmp, cmp_lt, cmp_le, cmp_gt, cmp_ge, cmp_eq, cmp_ne, eqD_int, eqD_bl, cmp_is, cmp_isn, dIs_bl, dIs_tn, dIs_nn, opt_map, decide_eq_true_eq, wp_mod, wp_fdiv, wp_pow, wp_add, wp_sub, wp_mul, wp_mulTI, wp_addT, wp_neg, wp_slT, wp_slR, slW, wp_isLst, lW_l, wp_app, wp_popAt, wp_setR, setW_l, partO, Bool.not_true, Bool.not_false, wp_minI, wp_maxI, wp_intI, wp_intB, wp_absI, wp_srcT, wp_r2, wp_isi, asg_one, asg_two, wp_srcST, isTy_bb, wipe_nil, wipe_cons, at0, at1, ix0, ix1, e4]
        refine ⟨by decide, ?_⟩
        by_cases c2 : 0 < z1.fmod 3
        · simp only [if_pos c2, decide_true, if_true]
          exact ⟨_, rfl, true, rfl, g4⟩
        · simp only [if_neg c2]
          exact ⟨_, rfl, false, rfl, g4⟩
      · rw [if_neg c]
        exact ⟨k2, rfl, .refl⟩
    rintro fl m4 ⟨k3, rfl, g4⟩
    rw [thenF_nx]
    have ea4 := g4.get (g3.get (g2.get ea))
    simp only [ss_lk_kinds_1b_3, wp_bd, wp_ret, wp_nope, wp_chk, wp_some, wp_ite, wp_tru, wpF_bs, wpF_nx, wpF_rt, wpF_bk, wpF_ct, wpF_ite, thenF_nx, thenF_rt, thenF_bk, thenF_ct, wpF_nil, wpF_cons, endF_nx, endF_rt, exe, ev, evs, evI, varM, List.getElem?_cons_zero, List.getElem?_cons_succ, List.set_cons_zero, List.set_cons_succ, Bool.false_eq_true, if_true, if_false, ite_true, ite_false, reduceIte, Option.some.injEq, exists_eq_left', exists_eq_left, wp_ixR, ixW_l, ixW_f, wp_ixT, wp_lenR, lenW_l, lenW_f, wp_lenT, wp_tupR, lsW_l, lsW_f, wp_tupT, wp_listT, wp_cmp, cmp_lt, cmp_le, cmp_gt, cmp_ge, cmp_eq, cmp_ne, eqD_int, eqD_bl, cmp_is, cmp_isn, dIs_bl, dIs_tn, dIs_nn, opt_map, decide_eq_true_eq, wp_mod, wp_fdiv, wp_pow, wp_add, wp_sub, wp_mul, wp_mulTI, wp_addT, wp_neg, wp_slT, wp_slR, slW, wp_isLst, lW_l, wp_app, wp_popAt, wp_setR, setW_l, partO, Bool.not_true, Bool.not_false, wp_minI, wp_maxI, wp_intI, wp_intB, wp_absI, wp_srcT, wp_r2, wp_isi, asg_one, asg_two, wp_srcST, isTy_bb, wipe_nil, wipe_cons, at0, at1, ix0, ix1, ea4, List.length_map]
    refine ⟨by omega, kb ++ [k3], _, _, rfl, by rw [getSS ea4, List.map_append]; rfl, by rw [List.length_append]; simp; omega, (g.trans ((g2.trans g3).trans g4)).setN a1, hx⟩
  · obtain ⟨kb, b3, b4, rfl, ea, hl, g, hx⟩ := hJ
    simp only [ss_lk_kinds_2, wp_bd, wp_ret, wp_nope, wp_chk, wp_some, wp_ite, wp_tru, wpF_bs, wpF_nx, wpF_rt, wpF_bk, wpF_ct, wpF_ite, thenF_nx, thenF_rt, thenF_bk, thenF_ct, wpF_nil, wpF_cons, endF_nx, endF_rt, exe, ev, evs, evI, varM, List.getElem?_cons_zero, List.getElem?_cons_succ, List.set_cons_zero, List.set_cons_succ, Bool.false_eq_true, if_true, if_false, ite_true, ite_false, reduceIte, Option.some.injEq, exists_eq_left', exists_eq_left, wp_ixR, ixW_l, ixW_f, wp_ixT, wp_lenR, lenW_l, lenW_f, wp_lenT, wp_tupR, lsW_l, lsW_f, wp_tupT, wp_listT, wp_cmp, cmp_lt, cmp_le, cmp_gt, cmp_ge, cmp_eq, cmp_ne, eqD_int, eqD_bl, cmp_is, cmp_isn, dIs_bl, dIs_tn, dIs_nn, opt_map, decide_eq_true_eq, wp_mod, wp_fdiv, wp_pow, wp_add, wp_sub, wp_mul, wp_mulTI, wp_addT, wp_neg, wp_slT, wp_slR, slW, wp_isLst, lW_l, wp_app, wp_popAt, wp_setR, setW_l, partO, Bool.not_true, Bool.not_false, wp_minI, wp_maxI, wp_intI, wp_intB, wp_absI, wp_srcT, wp_r2, wp_isi, asg_one, asg_two, wp_srcST, isTy_bb, wipe_nil, wipe_cons, at0, at1, ix0, ix1, ea]
    exact ⟨kb, rfl, by simpa using hl, g⟩
  · obtain ⟨i, hi, rfl⟩ := rngI_get hy
    exact ⟨i, by rw [show (0 + (i : Int) * 1) = (i : Int) by omega], by omega⟩
end
end Af
namespace Af
open PySem
def ss_lk_row_2b_0 : Ss := .cons (.ite (.cmp .lt (.bin .mod (.ix (.var 3) (.bin .add (.k (.int 1)) (.var 5))) (.bin .add (.var 1) (.k (.int 1)))) (.bin .add (.var 2) (.bin .mod (.ix (.var 3) (.k (.int 0))) (.k (.int 3))))) (.cons (.ex (.me .append (.var 4) (.cons (.ix (.lst (.cons (.bin .add (.var 5) (.k (.int 1))) (.cons (.bin .sub (.bin .sub (.k (.int 0)) (.var 5)) (.k (.int 1))) .nil))) (.bin .mod (.bin .fdiv (.ix (.var 3) (.bin .add (.k (.int 1)) (.var 5))) (.bin .add (.var 1) (.k (.int 1)))) (.k (.int 2)))) .nil))) .nil) .nil) .nil
def ss_lk_row_3 : Ss := .cons (.rt (.bi .tuple (.cons (.var 4) .nil))) .nil
def ss_lk_row_2 : Ss := .cons (.for (.one 5) (.rng1 (.var 1)) ss_lk_row_2b_0) ss_lk_row_3
def ss_lk_row_1 : Ss := .cons (.set 4 (.lst .nil)) ss_lk_row_2
def ss_lk_row_0 : Ss := .cons (.set 3 (.call "_law_digits" (.cons (.var 0) (.cons (.bin .add (.var 1) (.k (.int 1))) .nil)))) ss_lk_row_1
def fn_lk_row : Fn := ⟨3, 6, ss_lk_row_0⟩
def ss_lk_claim_6 : Ss := .cons (.rt (.tup (.cons (.var 4) (.cons (.bi .tuple (.cons (.var 6) .nil)) .nil)))) .nil
def ss_lk_claim_5 : Ss := .cons (.ite (.cmp .gt (.bin .mod (.ix (.var 2) (.k (.int 13))) (.k (.int 3))) (.k (.int 0))) (.cons (.set 6 (.compIf [8] (.one 8) (.exp (.var 6)) (.cmp .ne (.var 8) (.tup .nil)) (.var 8))) .nil) .nil) ss_lk_claim_6
def ss_lk_claim_4 : Ss := .cons (.set 6 (.comp [7] (.one 7) (.rng1 (.var 5)) (.call "_law_row" (.cons (.call "_law_at" (.cons (.var 0) (.cons (.bin .add (.k (.int 1)) (.var 7)) .nil))) (.cons (.bi .len (.cons (.var 4) .nil)) (.cons (.k (.int 1)) .nil)))))) ss_lk_claim_5
def ss_lk_claim_3 : Ss := .cons (.set 5 (.ix (.lst (.cons (.bin .mod (.ix (.var 2) (.k (.int 12))) (.k (.int 5))) (.cons (.bin .mod (.ix (.var 2) (.k (.int 12))) (.k (.int 11))) (.cons (.bin .add (.k (.int 5)) (.bin .mod (.ix (.var 2) (.k (.int 12))) (.k (.int 16)))) .nil)))) (.bin .mod (.ix (.var 2) (.k (.int 11))) (.k (.int 3))))) ss_lk_claim_4
def ss_lk_claim_2 : Ss := .cons (.set 4 (.call "_law_kinds" (.cons (.slL (.var 2) (.k (.int 2))) (.cons (.bi .max2 (.cons (.k (.int 0)) (.cons (.var 3) .nil))) .nil)))) ss_lk_claim_3
def ss_lk_claim_1 : Ss := .cons (.set 3 (.ix (.lst (.cons (.bin .mod (.ix (.var 2) (.k (.int 0))) (.bin .add (.var 1) (.k (.int 1)))) (.cons (.bin .sub (.var 1) (.bin .mod (.ix (.var 2) (.k (.int 0))) (.k (.int 3)))) (.cons (.var 1) .nil)))) (.bin .mod (.ix (.var 2) (.k (.int 1))) (.k (.int 3))))) ss_lk_claim_2
def ss_lk_claim_0 : Ss := .cons (.set 2 (.call "_law_digits" (.cons (.call "_law_at" (.cons (.var 0) (.cons (.k (.int 0)) .nil))) (.cons (.k (.int 14)) .nil)))) ss_lk_claim_1
def fn_lk_claim : Fn := ⟨2, 9, ss_lk_claim_0⟩
def ss_lk_plays_1b_1b_0 : Ss := .cons (.set 3 (.bin .add (.var 3) (.lst (.cons (.bin .add (.var 4) (.tup (.cons (.k (.bl false)) .nil))) (.cons (.bin .add (.var 4) (.tup (.cons (.k (.bl true)) .nil))) .nil))))) .nil
def ss_lk_plays_1b_2 : Ss := .cons (.set 1 (.var 3)) .nil
def ss_lk_plays_1b_1 : Ss := .cons (.for (.one 4) (.exp (.var 1)) ss_lk_plays_1b_1b_0) ss_lk_plays_1b_2
def ss_lk_plays_1b_0 : Ss := .cons (.set 3 (.lst .nil)) ss_lk_plays_1b_1
def ss_lk_plays_2 : Ss := .cons (.rt (.var 1)) .nil
def ss_lk_plays_1 : Ss := .cons (.for (.one 2) (.rng1 (.var 0)) ss_lk_plays_1b_0) ss_lk_plays_2
def ss_lk_plays_0 : Ss := .cons (.set 1 (.lst (.cons (.tup .nil) .nil))) ss_lk_plays_1
def fn_lk_plays : Fn := ⟨1, 5, ss_lk_plays_0⟩
def ss_lk_many_rows_3 : Ss := .cons (.rt (.tup (.cons (.var 2) (.cons (.bin .mul (.bin .add (.var 3) (.var 4)) (.bin .add (.k (.int 1)) (.bin .mod (.bin .fdiv (.var 1) (.k (.int 120))) (.k (.int 3))))) .nil)))) .nil
def ss_lk_many_rows_2 : Ss := .cons (.set 4 (.bi .tuple (.cons (.comp [5] (.one 5) (.exp (.slU (.var 3) (.bin .add (.k (.int 1)) (.bin .mod (.bin .fdiv (.var 1) (.k (.int 6))) (.k (.int 20)))))) (.bi .tuple (.cons (.comp [6] (.one 6) (.exp (.var 5)) (.neg (.var 6))) .nil))) .nil))) ss_lk_many_rows_3
def ss_lk_many_rows_1 : Ss := .cons (.ite (.or (.cmp .gt (.bin .mod (.var 1) (.k (.int 6))) (.k (.int 0))) (.cmp .gt (.bi .len (.cons (.var 2) .nil)) (.k (.int 5)))) (.cons (.rt (.var 0)) .nil) .nil) ss_lk_many_rows_2
def ss_lk_many_rows_0 : Ss := .cons (.setT [2, 3] (.var 0)) ss_lk_many_rows_1
def fn_lk_many_rows : Fn := ⟨2, 7, ss_lk_many_rows_0⟩
structure Dgc (t : Str → Option Fn) : Prop extends Dgs t where
  row : t "_law_row" = some fn_lk_row
  claim : t "_law_claim" = some fn_lk_claim
section
variable {t : Str → Option Fn} {w n : Nat} {m m' : Mu} {bs : List Bool} {ls : List Int} {kb : List Bool} {rss : List (List Int)}
abbrev rgD (i : Nat) : D := .int (0 + (i : Int) * 1)
theorem rg_drop {many j : Nat} {x : D} {xs : List D} (h : x :: xs = ((List.range many).drop j).map rgD) : j < many ∧ x = rgD j ∧ xs = ((List.range many).drop (j + 1)).map rgD := by
  by_cases c : j < many
  · rw [List.drop_eq_getElem_cons (by rw [List.length_range]; exact c), List.getElem_range, List.map_cons] at h
    cases h
    exact ⟨c, rfl, rfl⟩
  · rw [List.drop_eq_nil_of_le (by rw [List.length_range]; omega)] at h
    cases h
theorem rg_start {many : Nat} : rngL 0 many 1 = ((List.range many).drop 0).map rgD := rfl
theorem rg_end {many j : Nat} (h : [] = ((List.range many).drop j).map rgD) : many ≤ j := by
  have := congrArg List.length h
  rw [List.length_nil, List.length_map, List.length_drop, List.length_range] at this
  omega
theorem fmod_two (z : Int) : z.fmod 2 = 0 ∨ z.fmod 2 = 1 := by
  have := fm_lo z (b := 2) (by decide)
  have := fm_hi z (b := 2) (by decide)
  omega
theorem lk_row0_ok (D0 : Dg0 t) (hrow : t "_law_row" = some fn_lk_row) {c wd : Int} {many : Nat} (hm : many ≤ 100) : wp (run t w (n + 3) "_law_row" [.int c, .int many, .int wd]) m fun v m' => (∃ ls, v = lsD ls ∧ RowL many ls) ∧ Ge m m' := by
  have big := big_line
  refine wp_run hrow rfl ?_
  show wpF (exes _ _ fn_lk_row.body [some (.int c), some (.int many), some (.int wd), none, none, none]) m _
  simp only [fn_lk_row, ss_lk_row_0, wp_bd, wp_ret, wp_nope, wp_chk, wp_some, wp_ite, wp_tru, wpF_bs, wpF_nx, wpF_rt, wpF_bk, wpF_ct, wpF_ite, thenF_nx, thenF_rt, thenF_bk, thenF_ct, wpF_nil, wpF_cons, endF_nx, endF_rt, exe, ev, evs, evI, varM, List.getElem?_cons_zero, List.getElem?_cons_succ, List.set_cons_zero, List.set_cons_succ, Bool.false_eq_true, if_true, if_false, ite_true, ite_false, reduceIte, Option.some.injEq, exists_eq_left', exists_eq_left, wp_ixR, ixW_l, ixW_f, wp_ixT, wp_lenR, lenW_l, lenW_f, wp_lenT, wp_tupR, lsW_l, lsW_f, wp_tupT, wp_listT, wp_cmp, cmp_lt, cmp_le, cmp_gt, cmp_ge, cmp_eq, cmp_ne, eqD_int, eqD_bl, cmp_is, cmp_isn, dIs_bl, dIs_tn, dIs_nn, opt_map, decide_eq_true_eq, wp_mod, wp_fdiv, wp_pow, wp_add, wp_sub, wp_mul, wp_mulTI, wp_addT, wp_neg, wp_slT, wp_slR, slW, wp_isLst, lW_l, wp_app, wp_popAt, wp_setR, setW_l, partO, Bool.not_true, Bool.not_false, wp_minI, wp_maxI, wp_intI, wp_intB, wp_absI, wp_srcT, wp_r2, wp_isi, asg_one, asg_two, wp_srcST, isTy_bb, wipe_nil, wipe_cons, at0, at1, ix0, ix1]
  rw [show (many : Int) + 1 = ((many + 1 : Nat) : Int) by omega]
  refine wp_mono (digits_ok D0 (by omega)) fun v m1 ⟨a, ds, e, e1, hl, hd, g1, a1⟩ => ?_
  subst e
  simp only [ss_lk_row_1, wp_bd, wp_ret, wp_nope, wp_chk, wp_some, wp_ite, wp_tru, wpF_bs, wpF_nx, wpF_rt, wpF_bk, wpF_ct, wpF_ite, thenF_nx, thenF_rt, thenF_bk, thenF_ct, wpF_nil, wpF_cons, endF_nx, endF_rt, exe, ev, evs, evI, varM, List.getElem?_cons_zero, List.getElem?_cons_succ, List.set_cons_zero, List.set_cons_succ, Bool.false_eq_true, if_true, if_false, ite_true, ite_false, reduceIte, Option.some.injEq, exists_eq_left', exists_eq_left, wp_ixR, ixW_l, ixW_f, wp_ixT, wp_lenR, lenW_l, lenW_f, wp_lenT, wp_tupR, lsW_l, lsW_f, wp_tupT, wp_listT, wp_cmp, cmp_lt, cmp_le, cmp_gt, cmp_ge, cmp_eq, cmp_ne, eqD_int, eqD_bl, cmp_is, cmp_isn, dIs_bl, dIs_tn, dIs_nn, opt_map, decide_eq_true_eq, wp_mod, wp_fdiv, wp_pow, wp_add, wp_sub, wp_mul, wp_mulTI, wp_addT, wp_neg, wp_slT, wp_slR, slW, wp_isLst, lW_l, wp_app, wp_popAt, wp_setR, setW_l, partO, Bool.not_true, Bool.not_false, wp_minI, wp_maxI, wp_intI, wp_intB, wp_absI, wp_srcT, wp_r2, wp_isi, asg_one, asg_two, wp_srcST, isTy_bb, wipe_nil, wipe_cons, at0, at1, ix0, ix1, List.length_nil]
  refine ⟨by omega, wp_new fun f m2 g2 e2 a2 b2 c2 => ?_⟩
  simp only [ss_lk_row_2, wp_bd, wp_ret, wp_nope, wp_chk, wp_some, wp_ite, wp_tru, wpF_bs, wpF_nx, wpF_rt, wpF_bk, wpF_ct, wpF_ite, thenF_nx, thenF_rt, thenF_bk, thenF_ct, wpF_nil, wpF_cons, endF_nx, endF_rt, exe, ev, evs, evI, varM, List.getElem?_cons_zero, List.getElem?_cons_succ, List.set_cons_zero, List.set_cons_succ, Bool.false_eq_true, if_true, if_false, ite_true, ite_false, reduceIte, Option.some.injEq, exists_eq_left', exists_eq_left, wp_ixR, ixW_l, ixW_f, wp_ixT, wp_lenR, lenW_l, lenW_f, wp_lenT, wp_tupR, lsW_l, lsW_f, wp_tupT, wp_listT, wp_cmp, cmp_lt, cmp_le, cmp_gt, cmp_ge, cmp_eq, cmp_ne, eqD_int, eqD_bl, cmp_is, cmp_isn, dIs_bl, dIs_tn, dIs_nn, opt_map, decide_eq_true_eq, wp_mod, wp_fdiv, wp_pow, wp_add, wp_sub, wp_mul, wp_mulTI, wp_addT, wp_neg, wp_slT, wp_slR, slW, wp_isLst, lW_l, wp_app, wp_popAt, wp_setR, setW_l, partO, Bool.not_true, Bool.not_false, wp_minI, wp_maxI, wp_intI, wp_intB, wp_absI, wp_srcT, wp_r2, wp_isi, asg_one, asg_two, wp_srcST, isTy_bb, wipe_nil, wipe_cons, at0, at1, ix0, ix1]
  refine ⟨⟨by decide, ⟨by omega, by omega⟩⟩, ?_⟩
  rw [show ((many : Int) - 0).toNat = many by omega, rg_start]
  have ea := g2.get e1
  have la := lt_of_get e1
  refine wpF_loop (a := []) (J := fun xs ρ m' => ∃ (j : Nat) (ls : List Int) (b5 : Option D), xs = ((List.range many).drop j).map rgD ∧ j ≤ many ∧ ρ = [some (.int c), some (.int many), some (.int wd), some (.ref a), some (.ref f), b5] ∧ m'[f]? = some (.lst (ls.map D.int)) ∧ (ls.map Int.natAbs).Pairwise (· < ·) ∧ (∀ l ∈ ls, 1 ≤ l.natAbs ∧ l.natAbs ≤ j) ∧ ls.length ≤ j ∧ Gr f m2 m') (fun _ _ _ _ => trivial) (fun x xs ρ m' hJ => ?_) (fun ρ m' hJ => ?_) _ _ _
    ⟨0, [], _, rfl, by omega, rfl, e2, .nil, fun _ h => (by cases h), by simp, .refl⟩
  · obtain ⟨j, ls, b5, ex, hj, rfl, ef, hp, hr, hll, g⟩ := hJ
    obtain ⟨jm, rfl, rfl⟩ := rg_drop ex
    have ea' := g.get (by omega) ea
    obtain ⟨z0, ez0, d0⟩ := dig_at (i := 0) (by omega) (by omega) hd
    obtain ⟨z1, ez1, d1⟩ := dig_at (i := 1 + (0 + (j : Int) * 1)) (by omega) (by omega) hd
    simp only [ss_lk_row_2b_0, wp_bd, wp_ret, wp_nope, wp_chk, wp_some, wp_ite, wp_tru, wpF_bs, wpF_nx, wpF_rt, wpF_bk, wpF_ct, wpF_ite, thenF_nx, thenF_rt, thenF_bk, thenF_ct, wpF_nil, wpF_cons, endF_nx, endF_rt, exe, ev, evs, evI, varM, List.getElem?_cons_zero, List.getElem?_cons_succ, List.set_cons_zero, List.set_cons_succ, Bool.false_eq_true, if_true, if_false, ite_true, ite_false, reduceIte, Option.some.injEq, exists_eq_left', exists_eq_left, wp_ixR, ixW_l, ixW_f, wp_ixT, wp_lenR, lenW_l, lenW_f, wp_lenT, wp_tupR, lsW_l, lsW_f, wp_tupT, wp_listT, wp_cmp, cmp_lt, cmp_le, cmp_gt, cmp_ge, cmp_eq, cmp_ne, eqD_int, eqD_bl, cmp_is, cmp_isn, dIs_bl, dIs_tn, dIs_nn, opt_map, decide_eq_true_eq, wp_mod, wp_fdiv, wp_pow, wp_add, wp_sub, wp_mul, wp_mulTI, wp_addT, wp_neg, wp_slT, wp_slR, slW, wp_isLst, lW_l, wp_app, wp_popAt, wp_setR, setW_l, partO, Bool.not_true, Bool.not_false, wp_minI, wp_maxI, wp_intI, wp_intB, wp_absI, wp_srcT, wp_r2, wp_isi, asg_one, asg_two, wp_srcST, isTy_bb, wipe_nil, wipe_cons, at0, at1, ix0, ix1, ea']
    refine ⟨_, ez1, ?_⟩
    simp only [wp_bd, wp_ret, wp_nope, wp_chk, wp_some, wp_ite, wp_tru, wpF_bs, wpF_nx, wpF_rt, wpF_bk, wpF_ct, wpF_ite, thenF_nx, thenF_rt, thenF_bk, thenF_ct, wpF_nil, wpF_cons, endF_nx, endF_rt, exe, ev, evs, evI, varM, List.getElem?_cons_zero, List.getElem?_cons_succ, List.set_cons_zero, List.set_cons_succ, Bool.false_eq_true, if_true, if_false, ite_true, ite_false, reduceIte, Option.some.injEq, exists_eq_left', exists_eq_left, wp_ixR, ixW_l, ixW_f, wp_ixT, wp_lenR, lenW_l, lenW_f, wp_lenT, wp_tupR, lsW_l, lsW_f, wp_tupT, wp_listT, wp_cmp, cmp_lt, cmp_le, cmp_gt, cmp_ge, cmp_eq, cmp_ne, eqD_int, eqD_bl, cmp_is, cmp_isn, dIs_bl, dIs_tn, dIs_nn, opt_map, decide_eq_true_eq, wp_mod, wp_fdiv, wp_pow, wp_add, wp_sub, wp_mul, wp_mulTI, wp_addT, wp_neg, wp_slT, wp_slR, slW, wp_isLst, lW_l, wp_app, wp_popAt, wp_setR, setW_l, partO, Bool.not_true, Bool.not_false, wp_minI, wp_maxI, wp_intI, wp_intB, wp_absI, wp_srcT, wp_r2, wp_isi, asg_one, asg_two, wp_srcST, isTy_bb, wipe_nil, wipe_cons, at0, at1, ix0, ix1, ea']
    refine ⟨by omega, _, ez0, ?_⟩
    simp only [wp_bd, wp_ret, wp_nope, wp_chk, wp_some, wp_ite, wp_tru, wpF_bs, wpF_nx, wpF_rt, wpF_bk, wpF_ct, wpF_ite, thenF_nx, thenF_rt, thenF_bk, thenF_ct, wpF_nil, wpF_cons, endF_nx, endF_rt, exe, ev, evs, evI, varM, List.getElem?_cons_zero, List.getElem?_cons_succ, List.set_cons_zero, List.set_cons_succ, Bool.false_eq_true, if_true, if_false, ite_true, ite_false, reduceIte, Option.some.injEq, exists_eq_left', exists_eq_left, wp_ixR, ixW_l, ixW_f, wp_ixT, wp_lenR, lenW_l, lenW_f, wp_lenT, wp_tupR, lsW_l, lsW_f, wp_tupT, wp_listT, wp_cmp, cmp_lt, cmp_le, cmp_gt, cmp_ge, cmp_eq, cmp_ne, eqD_int, eqD_bl, cmp_is, cmp_isn, dIs_bl, dIs_tn, dIs_nn, opt_map, decide_eq_true_eq, wp_mod, wp_fdiv, wp_pow, wp_add, wp_sub, wp_mul, wp_mulTI, wp_addT, wp_neg, wp_slT, wp_slR, slW, wp_isLst, lW_l, wp_app, wp_popAt, wp_setR, setW_l, partO, Bool.not_true, Bool.not_false, wp_minI, wp_maxI, wp_intI, wp_intB, wp_absI, wp_srcT, wp_r2, wp_isi, asg_one, asg_two, wp_srcST, isTy_bb, wipe_nil, wipe_cons, at0, at1, ix0, ix1]
    refine ⟨by decide, ?_⟩
    split
    · simp only [wp_bd, wp_ret, wp_nope, wp_chk, wp_some, wp_ite, wp_tru, wpF_bs, wpF_nx, wpF_rt, wpF_bk, wpF_ct, wpF_ite, thenF_nx, thenF_rt, thenF_bk, thenF_ct, wpF_nil, wpF_cons, endF_nx, endF_rt, exe, ev, evs, evI, varM, List.getElem?_cons_zero, List.getElem?_cons_succ, List.set_cons_zero, List.set_cons_succ, Bool.false_eq_true, if_true, if_false, ite_true, ite_false, reduceIte, Option.some.injEq, exists_eq_left', exists_eq_left, wp_ixR, ixW_l, ixW_f, wp_ixT, wp_lenR, lenW_l, lenW_f, wp_lenT, wp_tupR, lsW_l, lsW_f, wp_tupT, wp_listT, wp_cmp, cmp_lt, cmp_le, cmp_gt, cmp_ge, cmp_eq, cmp_ne, eqD_int, eqD_bl, cmp_is, cmp_isn, dIs_bl, dIs_tn, dIs_nn, opt_map, decide_eq_true_eq, wp_mod, wp_fdiv, wp_pow, wp_add, wp_sub, wp_mul, wp_mulTI, wp_addT, wp_neg, wp_slT, wp_slR, slW, wp_isLst, lW_l, wp_app, wp_popAt, wp_setR, setW_l, partO, Bool.not_true, Bool.not_false, wp_minI, wp_maxI, wp_intI, wp_intB, wp_absI, wp_srcT, wp_r2, wp_isi, asg_one, asg_two, wp_srcST, isTy_bb, wipe_nil, wipe_cons, at0, at1, ix0, ix1, ef, ea', List.length_cons, List.length_nil]
      refine ⟨by decide, wp_new fun l2 m3 g3 e3 a3 b3 c3 => ?_⟩
      have ea3 := g3.get ea'
      have ef3 := g3.get ef
      simp only [wp_bd, wp_ret, wp_nope, wp_chk, wp_some, wp_ite, wp_tru, wpF_bs, wpF_nx, wpF_rt, wpF_bk, wpF_ct, wpF_ite, thenF_nx, thenF_rt, thenF_bk, thenF_ct, wpF_nil, wpF_cons, endF_nx, endF_rt, exe, ev, evs, evI, varM, List.getElem?_cons_zero, List.getElem?_cons_succ, List.set_cons_zero, List.set_cons_succ, Bool.false_eq_true, if_true, if_false, ite_true, ite_false, reduceIte, Option.some.injEq, exists_eq_left', exists_eq_left, wp_ixR, ixW_l, ixW_f, wp_ixT, wp_lenR, lenW_l, lenW_f, wp_lenT, wp_tupR, lsW_l, lsW_f, wp_tupT, wp_listT, wp_cmp, cmp_lt, cmp_le, cmp_gt, cmp_ge, cmp_eq, cmp_ne, eqD_int, eqD_bl, cmp_is, cmp_isn, dIs_bl, dIs_tn, dIs_nn, opt_map, decide_eq_true_eq, wp_mod, wp_fdiv, wp_pow, wp_add, wp_sub, wp_mul, wp_mulTI, wp_addT, wp_neg, wp_slT, wp_slR, slW, wp_isLst, lW_l, wp_app, wp_popAt, wp_setR, setW_l, partO, Bool.not_true, Bool.not_false, wp_minI, wp_maxI, wp_intI, wp_intB, wp_absI, wp_srcT, wp_r2, wp_isi, asg_one, asg_two, wp_srcST, isTy_bb, wipe_nil, wipe_cons, at0, at1, ix0, ix1, ea3]
      refine ⟨_, ez1, ?_⟩
      simp only [wp_bd, wp_ret, wp_nope, wp_chk, wp_some, wp_ite, wp_tru, wpF_bs, wpF_nx, wpF_rt, wpF_bk, wpF_ct, wpF_ite, thenF_nx, thenF_rt, thenF_bk, thenF_ct, wpF_nil, wpF_cons, endF_nx, endF_rt, exe, ev, evs, evI, varM, List.getElem?_cons_zero, List.getElem?_cons_succ, List.set_cons_zero, List.set_cons_succ, Bool.false_eq_true, if_true, if_false, ite_true, ite_false, reduceIte, Option.some.injEq, exists_eq_left', exists_eq_left, wp_ixR, ixW_l, ixW_f, wp_ixT, wp_lenR, lenW_l, lenW_f, wp_lenT, wp_tupR, lsW_l, lsW_f, wp_tupT, wp_listT, wp_cmp, cmp_lt, cmp_le, cmp_gt, cmp_ge, cmp_eq, cmp_ne, eqD_int, eqD_bl, cmp_is, cmp_isn, dIs_bl, dIs_tn, dIs_nn, opt_map, decide_eq_true_eq, wp_mod, wp_fdiv, wp_pow, wp_add, wp_sub, wp_mul, wp_mulTI, wp_addT, wp_neg, wp_slT, wp_slR, slW, wp_isLst, lW_l, wp_app, wp_popAt, wp_setR, setW_l, partO, Bool.not_true, Bool.not_false, wp_minI, wp_maxI, wp_intI, wp_intB, wp_absI, wp_srcT, wp_r2, wp_isi, asg_one, asg_two, wp_srcST, isTy_bb, wipe_nil, wipe_cons, at0, at1, ix0, ix1, e3, ef3]
      refine ⟨⟨by omega, by omega⟩, by decide, ?_⟩
      have two := fmod_two (z1.fdiv ((many : Int) + 1))
      have step : ∀ z : Int, z.natAbs = j + 1 → (m3.set f (.lst (ls.map D.int ++ [.int z])))[f]? = some (.lst ((ls ++ [z]).map D.int)) ∧ ((ls ++ [z]).map Int.natAbs).Pairwise (· < ·) ∧ (∀ l ∈ ls ++ [z], 1 ≤ l.natAbs ∧ l.natAbs ≤ j + 1) ∧ (ls ++ [z]).length ≤ j + 1 ∧ Gr f m2 (m3.set f (.lst (ls.map D.int ++ [.int z]))) := fun z hz => by
        refine ⟨by rw [getSS ef3, List.map_append]; rfl, ?_, fun l hl => ?_, by rw [List.length_append]; simpa using hll, (g.trans g3.gr).trans Gr.set⟩
        · rw [List.map_append, List.pairwise_append]
          refine ⟨hp, List.pairwise_singleton _ _, fun x hx y hy => ?_⟩
          obtain ⟨l, hl, rfl⟩ := List.mem_map.mp hx
          rw [List.map_cons, List.map_nil, List.mem_singleton] at hy
          have := hr l hl
          omega
        · rcases List.mem_append.mp hl with h | h
          · have := hr l h
            omega
          · rw [List.mem_singleton.mp h]
            omega
      rcases two with h | h <;> rw [h]
      · refine ⟨_, rfl, ?_⟩
        simp only [wp_bd, wp_ret, wp_nope, wp_chk, wp_some, wp_ite, wp_tru, wpF_bs, wpF_nx, wpF_rt, wpF_bk, wpF_ct, wpF_ite, thenF_nx, thenF_rt, thenF_bk, thenF_ct, wpF_nil, wpF_cons, endF_nx, endF_rt, exe, ev, evs, evI, varM, List.getElem?_cons_zero, List.getElem?_cons_succ, List.set_cons_zero, List.set_cons_succ, Bool.false_eq_true, if_true, if_false, ite_true, ite_false, reduceIte, Option.some.injEq, exists_eq_left', exists_eq_left, wp_ixR, ixW_l, ixW_f, wp_ixT, wp_lenR, lenW_l, lenW_f, wp_lenT, wp_tupR, lsW_l, lsW_f, wp_tupT, wp_listT, wp_cmp, cmp_lt, cmp_le, cmp_gt, cmp_ge, cmp_eq, cmp_ne, eqD_int, eqD_bl, cmp_is, cmp_isn, dIs_bl, dIs_tn, dIs_nn, opt_map, decide_eq_true_eq, wp_mod, wp_fdiv, wp_pow, wp_add, wp_sub, wp_mul, wp_mulTI, wp_addT, wp_neg, wp_slT, wp_slR, slW, wp_isLst, lW_l, wp_app, wp_popAt, wp_setR, setW_l, partO, Bool.not_true, Bool.not_false, wp_minI, wp_maxI, wp_intI, wp_intB, wp_absI, wp_srcT, wp_r2, wp_isi, asg_one, asg_two, wp_srcST, isTy_bb, wipe_nil, wipe_cons, at0, at1, ix0, ix1, ef3, List.length_map]
        obtain ⟨s1, s2, s3, s4, s5⟩ := step (0 + (j : Int) * 1 + 1) (by omega)
        exact ⟨by omega, j + 1, _, _, rfl, by omega, rfl, s1, s2, s3, s4, s5⟩
      · refine ⟨_, rfl, ?_⟩
        simp only [wp_bd, wp_ret, wp_nope, wp_chk, wp_some, wp_ite, wp_tru, wpF_bs, wpF_nx, wpF_rt, wpF_bk, wpF_ct, wpF_ite, thenF_nx, thenF_rt, thenF_bk, thenF_ct, wpF_nil, wpF_cons, endF_nx, endF_rt, exe, ev, evs, evI, varM, List.getElem?_cons_zero, List.getElem?_cons_succ, List.set_cons_zero, List.set_cons_succ, Bool.false_eq_true, if_true, if_false, ite_true, ite_false, reduceIte, Option.some.injEq, exists_eq_left', exists_eq_left, wp_ixR, ixW_l, ixW_f, wp_ixT, wp_lenR, lenW_l, lenW_f, wp_lenT, wp_tupR, lsW_l, lsW_f, wp_tupT, wp_listT, wp_cmp, cmp_lt, cmp_le, cmp_gt, cmp_ge, cmp_eq, cmp_ne, eqD_int, eqD_bl, cmp_is, cmp_isn, dIs_bl, dIs_tn, dIs_nn, opt_map, decide_eq_true_eq, wp_mod, wp_fdiv, wp_pow, wp_add, wp_sub, wp_mul, wp_mulTI, wp_addT, wp_neg, wp_slT, wp_slR, slW, wp_isLst, lW_l, wp_app, wp_popAt, wp_setR, setW_l, partO, Bool.not_true, Bool.not_false, wp_minI, wp_maxI, wp_intI, wp_intB, wp_absI, wp_srcT, wp_r2, wp_isi, asg_one, asg_two, wp_srcST, isTy_bb, wipe_nil, wipe_cons, at0, at1, ix0, ix1, ef3, List.length_map]
        obtain ⟨s1, s2, s3, s4, s5⟩ := step (0 - (0 + (j : Int) * 1) - 1) (by omega)
        exact ⟨by omega, j + 1, _, _, rfl, by omega, rfl, s1, s2, s3, s4, s5⟩
    · exact ⟨j + 1, ls, _, rfl, by omega, rfl, ef, hp, fun l hl => (by have := hr l hl; omega), by omega, g⟩
  · obtain ⟨j, ls, b5, ex, hj, rfl, ef, hp, hr, hll, g⟩ := hJ
    have := rg_end ex
    simp only [ss_lk_row_3, wp_bd, wp_ret, wp_nope, wp_chk, wp_some, wp_ite, wp_tru, wpF_bs, wpF_nx, wpF_rt, wpF_bk, wpF_ct, wpF_ite, thenF_nx, thenF_rt, thenF_bk, thenF_ct, wpF_nil, wpF_cons, endF_nx, endF_rt, exe, ev, evs, evI, varM, List.getElem?_cons_zero, List.getElem?_cons_succ, List.set_cons_zero, List.set_cons_succ, Bool.false_eq_true, if_true, if_false, ite_true, ite_false, reduceIte, Option.some.injEq, exists_eq_left', exists_eq_left, wp_ixR, ixW_l, ixW_f, wp_ixT, wp_lenR, lenW_l, lenW_f, wp_lenT, wp_tupR, lsW_l, lsW_f, wp_tupT, wp_listT, wp_cmp, cmp_lt, cmp_le, cmp_gt, cmp_ge, cmp_eq, cmp_ne, eqD_int, eqD_bl, cmp_is, cmp_isn, dIs_bl, dIs_tn, dIs_nn, opt_map, decide_eq_true_eq, wp_mod, wp_fdiv, wp_pow, wp_add, wp_sub, wp_mul, wp_mulTI, wp_addT, wp_neg, wp_slT, wp_slR, slW, wp_isLst, lW_l, wp_app, wp_popAt, wp_setR, setW_l, partO, Bool.not_true, Bool.not_false, wp_minI, wp_maxI, wp_intI, wp_intB, wp_absI, wp_srcT, wp_r2, wp_isi, asg_one, asg_two, wp_srcST, isTy_bb, wipe_nil, wipe_cons, at0, at1, ix0, ix1, ef]
    exact ⟨⟨ls, rfl, hp, fun l hl => (by have := hr l hl; omega)⟩, (g1.trans g2).gr |>.trans g |>.ge .refl (by have := g1.1; omega)⟩
theorem lk_row_ok (D0 : Dgc t) {c wd : Int} {many : Nat} (hm : many ≤ 100) : wp (run t w (n + 3) "_law_row" [.int c, .int many, .int wd]) m fun v m' => (∃ ls, v = lsD ls ∧ RowL many ls) ∧ Ge m m' := lk_row0_ok D0.toDg0 D0.row hm
def ClaimL (most rows : Nat) (v : D) : Prop := ∃ (kb : List Bool) (rss : List (List Int)), v = clD (kb.map kD) rss ∧ kb.length ≤ most ∧ rss.length ≤ rows ∧ ∀ ls ∈ rss, RowL kb.length ls
theorem lsD_of {many : Int} : ∀ {acc : List D}, (∀ d ∈ acc, ∃ ls, d = lsD ls ∧ RowL many ls) → ∃ rss : List (List Int), acc = rss.map lsD ∧ ∀ ls ∈ rss, RowL many ls
  | [], _ => ⟨[], rfl, fun _ h => by cases h⟩
  | d :: acc, h => by
    obtain ⟨ls, rfl, hl⟩ := h d List.mem_cons_self
    obtain ⟨rss, rfl, hr⟩ := lsD_of fun d hd => h d (List.mem_cons_of_mem _ hd)
    refine ⟨ls :: rss, rfl, fun l hl' => ?_⟩
    rcases List.mem_cons.mp hl' with rfl | h'
    · exact hl
    · exact hr l h'
theorem eqD_tnil : eqD m (lsD ls) (.tup []) = some ls.isEmpty := by
  show (match pd m 20 (lsD ls), pd m 20 (.tup []) with
    | some a, some b => some (PyData.eqv a b)
    | _, _ => none) = _
  rw [pd_t, pd_t, mapO_int]
  cases ls with
  | nil => rfl
  | cons x r => rfl
theorem lk_claim_ok (D0 : Dgc t) {s : Nat} {xs : List Int} (hs : lstAt m s = some (xs.map D.int)) {most : Nat} (h2 : 2 ≤ most) (h8 : most ≤ 8) : wp (run t w (n + 5) "_law_claim" [.ref s, .int most]) m fun v m' => ClaimL most 20 v ∧ Ge m m' := by
  have big := big_line
  refine wp_run D0.claim rfl ?_
  show wpF (exes _ _ fn_lk_claim.body [some (.ref s), some (.int most), none, none, none, none, none, none, none]) m _
  simp only [fn_lk_claim, ss_lk_claim_0, wp_bd, wp_ret, wp_nope, wp_chk, wp_some, wp_ite, wp_tru, wpF_bs, wpF_nx, wpF_rt, wpF_bk, wpF_ct, wpF_ite, thenF_nx, thenF_rt, thenF_bk, thenF_ct, wpF_nil, wpF_cons, endF_nx, endF_rt, exe, ev, evs, evI, varM, List.getElem?_cons_zero, List.getElem?_cons_succ, List.set_cons_zero, List.set_cons_succ, Bool.false_eq_true, if_true, if_false, ite_true, ite_false, reduceIte, Option.some.injEq, exists_eq_left', exists_eq_left, wp_ixR, ixW_l, ixW_f, wp_ixT, wp_lenR, lenW_l, lenW_f, wp_lenT, wp_tupR, lsW_l, lsW_f, wp_tupT, wp_listT, wp_cmp, cmp_lt, cmp_le, cmp_gt, cmp_ge, cmp_eq, cmp_ne, eqD_int, eqD_bl, cmp_is, cmp_isn, dIs_bl, dIs_tn, dIs_nn, opt_map, decide_eq_true_eq, wp_mod, wp_fdiv, wp_pow, wp_add, wp_sub, wp_mul, wp_mulTI, wp_addT, wp_neg, wp_slT, wp_slR, slW, wp_isLst, lW_l, wp_app, wp_popAt, wp_setR, setW_l, partO, Bool.not_true, Bool.not_false, wp_minI, wp_maxI, wp_intI, wp_intB, wp_absI, wp_srcT, wp_r2, wp_isi, asg_one, asg_two, wp_srcST, isTy_bb, wipe_nil, wipe_cons, at0, at1, ix0, ix1]
  refine wp_mono (at_ok (n := n + 3) D0.toDgs hs (k := 0) (by omega)) fun v m1 ⟨⟨z, e⟩, em⟩ => ?_
  subst e em
  refine wp_mono (digits_ok (n := n + 2) D0.toDgs (many := 14) (by omega)) fun v m1 ⟨a, ds, e, e1, hl, hd, g1, a1⟩ => ?_
  subst e
  obtain ⟨z0, ez0, d0⟩ := dig_at (i := 0) (by omega) (by omega) hd
  obtain ⟨z1, ez1, d1⟩ := dig_at (i := 1) (by omega) (by omega) hd
  obtain ⟨z11, ez11, d11⟩ := dig_at (i := 11) (by omega) (by omega) hd
  obtain ⟨z12, ez12, d12⟩ := dig_at (i := 12) (by omega) (by omega) hd
  obtain ⟨z13, ez13, d13⟩ := dig_at (i := 13) (by omega) (by omega) hd
  have three : ∀ z : Int, z.fmod 3 = 0 ∨ z.fmod 3 = 1 ∨ z.fmod 3 = 2 := fun z => by
    have := fm_lo z (b := 3) (by decide)
    have := fm_hi z (b := 3) (by decide)
    omega
  simp only [ss_lk_claim_1, wp_bd, wp_ret, wp_nope, wp_chk, wp_some, wp_ite, wp_tru, wpF_bs, wpF_nx, wpF_rt, wpF_bk, wpF_ct, wpF_ite, thenF_nx, thenF_rt, thenF_bk, thenF_ct, wpF_nil, wpF_cons, endF_nx, endF_rt, exe, ev, evs, evI, varM, List.getElem?_cons_zero, List.getElem?_cons_succ, List.set_cons_zero, List.set_cons_succ, Bool.false_eq_true, if_true, if_false, ite_true, ite_false, reduceIte, Option.some.injEq, exists_eq_left', exists_eq_left, wp_ixR, ixW_l, ixW_f, wp_ixT, wp_lenR, lenW_l, lenW_f, wp_lenT, wp_tupR, lsW_l, lsW_f, wp_tupT, wp_listT, wp_cmp, cmp_lt, cmp_le, cmp_gt, cmp_ge, cmp_eq, cmp_ne, eqD_int, eqD_bl, cmp_is, cmp_isn, dIs_bl, dIs_tn, dIs_nn, opt_map, decide_eq_true_eq, wp_mod, wp_fdiv, wp_pow, wp_add, wp_sub, wp_mul, wp_mulTI, wp_addT, wp_neg, wp_slT, wp_slR, slW, wp_isLst, lW_l, wp_app, wp_popAt, wp_setR, setW_l, partO, Bool.not_true, Bool.not_false, wp_minI, wp_maxI, wp_intI, wp_intB, wp_absI, wp_srcT, wp_r2, wp_isi, asg_one, asg_two, wp_srcST, isTy_bb, wipe_nil, wipe_cons, at0, at1, ix0, ix1, e1, ez0, ez1, ez11, ez12, ez13, List.length_cons, List.length_nil]
  refine ⟨by omega, by decide, by decide, wp_new fun l2 m2 g2 e2 a2 b2 c2 => ?_⟩
  have ea := g2.get e1
  simp only [wp_bd, wp_ret, wp_nope, wp_chk, wp_some, wp_ite, wp_tru, wpF_bs, wpF_nx, wpF_rt, wpF_bk, wpF_ct, wpF_ite, thenF_nx, thenF_rt, thenF_bk, thenF_ct, wpF_nil, wpF_cons, endF_nx, endF_rt, exe, ev, evs, evI, varM, List.getElem?_cons_zero, List.getElem?_cons_succ, List.set_cons_zero, List.set_cons_succ, Bool.false_eq_true, if_true, if_false, ite_true, ite_false, reduceIte, Option.some.injEq, exists_eq_left', exists_eq_left, wp_ixR, ixW_l, ixW_f, wp_ixT, wp_lenR, lenW_l, lenW_f, wp_lenT, wp_tupR, lsW_l, lsW_f, wp_tupT, wp_listT, wp_cmp, cmp_lt, cmp_le, cmp_gt, cmp_ge, cmp_eq, cmp_ne, eqD_int, eqD_bl, cmp_is, cmp_isn, dIs_bl, dIs_tn, dIs_nn, opt_map, decide_eq_true_eq, wp_mod, wp_fdiv, wp_pow, wp_add, wp_sub, wp_mul, wp_mulTI, wp_addT, wp_neg, wp_slT, wp_slR, slW, wp_isLst, lW_l, wp_app, wp_popAt, wp_setR, setW_l, partO, Bool.not_true, Bool.not_false, wp_minI, wp_maxI, wp_intI, wp_intB, wp_absI, wp_srcT, wp_r2, wp_isi, asg_one, asg_two, wp_srcST, isTy_bb, wipe_nil, wipe_cons, at0, at1, ix0, ix1, ea, ez1, e2]
  obtain ⟨many, hmany, eix⟩ : ∃ many : Nat, many ≤ most ∧ L2.atI [D.int (z0.fmod ((most : Int) + 1)), D.int ((most : Int) - z0.fmod 3), D.int most] (z1.fmod 3) = some (.int many) := by
    have f0 := fm_lo z0 (b := (most : Int) + 1) (by omega)
    have f1 := fm_hi z0 (b := (most : Int) + 1) (by omega)
    have k0 := fm_lo z0 (b := 3) (by decide)
    have k1 := fm_hi z0 (b := 3) (by decide)
    rcases three z1 with h | h | h <;> rw [h]
    · exact ⟨(z0.fmod ((most : Int) + 1)).toNat, by omega, by rw [show (((z0.fmod ((most : Int) + 1)).toNat : Nat) : Int) = z0.fmod ((most : Int) + 1) by omega]; rfl⟩
    · exact ⟨((most : Int) - z0.fmod 3).toNat, by omega, by rw [show ((((most : Int) - z0.fmod 3).toNat : Nat) : Int) = (most : Int) - z0.fmod 3 by omega]; rfl⟩
    · exact ⟨most, by omega, rfl⟩
  refine ⟨by decide, _, eix, ?_⟩
  simp only [ss_lk_claim_2, wp_bd, wp_ret, wp_nope, wp_chk, wp_some, wp_ite, wp_tru, wpF_bs, wpF_nx, wpF_rt, wpF_bk, wpF_ct, wpF_ite, thenF_nx, thenF_rt, thenF_bk, thenF_ct, wpF_nil, wpF_cons, endF_nx, endF_rt, exe, ev, evs, evI, varM, List.getElem?_cons_zero, List.getElem?_cons_succ, List.set_cons_zero, List.set_cons_succ, Bool.false_eq_true, if_true, if_false, ite_true, ite_false, reduceIte, Option.some.injEq, exists_eq_left', exists_eq_left, wp_ixR, ixW_l, ixW_f, wp_ixT, wp_lenR, lenW_l, lenW_f, wp_lenT, wp_tupR, lsW_l, lsW_f, wp_tupT, wp_listT, wp_cmp, cmp_lt, cmp_le, cmp_gt, cmp_ge, cmp_eq, cmp_ne, eqD_int, eqD_bl, cmp_is, cmp_isn, dIs_bl, dIs_tn, dIs_nn, opt_map, decide_eq_true_eq, wp_mod, wp_fdiv, wp_pow, wp_add, wp_sub, wp_mul, wp_mulTI, wp_addT, wp_neg, wp_slT, wp_slR, slW, wp_isLst, lW_l, wp_app, wp_popAt, wp_setR, setW_l, partO, Bool.not_true, Bool.not_false, wp_minI, wp_maxI, wp_intI, wp_intB, wp_absI, wp_srcT, wp_r2, wp_isi, asg_one, asg_two, wp_srcST, isTy_bb, wipe_nil, wipe_cons, at0, at1, ix0, ix1, ea]
  refine wp_new fun l3 m3 g3 e3 a3 b3 c3 => ?_
  rw [show (if (many : Int) > 0 then (many : Int) else 0) = (many : Int) by split <;> omega]
  rw [cut_L (by decide), ← List.map_drop] at e3
  refine wp_mono (kinds_dig (n := n + 3) D0.toDgs (ds := ds.drop (Int.toNat 2)) e3 (fun i hi => hd i (List.mem_of_mem_drop hi)) (by rw [List.length_drop, hl]; show many < 14 - 2; omega) (by omega)) fun v m4 ⟨kb, e, hkb, g4⟩ => ?_
  subst e
  have ea4 := g4.get (g3.get ea)
  simp only [ss_lk_claim_3, wp_bd, wp_ret, wp_nope, wp_chk, wp_some, wp_ite, wp_tru, wpF_bs, wpF_nx, wpF_rt, wpF_bk, wpF_ct, wpF_ite, thenF_nx, thenF_rt, thenF_bk, thenF_ct, wpF_nil, wpF_cons, endF_nx, endF_rt, exe, ev, evs, evI, varM, List.getElem?_cons_zero, List.getElem?_cons_succ, List.set_cons_zero, List.set_cons_succ, Bool.false_eq_true, if_true, if_false, ite_true, ite_false, reduceIte, Option.some.injEq, exists_eq_left', exists_eq_left, wp_ixR, ixW_l, ixW_f, wp_ixT, wp_lenR, lenW_l, lenW_f, wp_lenT, wp_tupR, lsW_l, lsW_f, wp_tupT, wp_listT, wp_cmp, cmp_lt, cmp_le, cmp_gt, cmp_ge, cmp_eq, cmp_ne, eqD_int, eqD_bl, cmp_is, cmp_isn, dIs_bl, dIs_tn, dIs_nn, opt_map, decide_eq_true_eq, wp_mod, wp_fdiv, wp_pow, wp_add, wp_sub, wp_mul, wp_mulTI, wp_addT, wp_neg, wp_slT, wp_slR, slW, wp_isLst, lW_l, wp_app, wp_popAt, wp_setR, setW_l, partO, Bool.not_true, Bool.not_false, wp_minI, wp_maxI, wp_intI, wp_intB, wp_absI, wp_srcT, wp_r2, wp_isi, asg_one, asg_two, wp_srcST, isTy_bb, wipe_nil, wipe_cons, at0, at1, ix0, ix1, ea4, ez12, ez11, List.length_cons, List.length_nil]
  refine ⟨by decide, by decide, by decide, by decide, wp_new fun l5 m5 g5 e5 a5 b5 c5 => ?_⟩
  have ea5 := g5.get ea4
  simp only [wp_bd, wp_ret, wp_nope, wp_chk, wp_some, wp_ite, wp_tru, wpF_bs, wpF_nx, wpF_rt, wpF_bk, wpF_ct, wpF_ite, thenF_nx, thenF_rt, thenF_bk, thenF_ct, wpF_nil, wpF_cons, endF_nx, endF_rt, exe, ev, evs, evI, varM, List.getElem?_cons_zero, List.getElem?_cons_succ, List.set_cons_zero, List.set_cons_succ, Bool.false_eq_true, if_true, if_false, ite_true, ite_false, reduceIte, Option.some.injEq, exists_eq_left', exists_eq_left, wp_ixR, ixW_l, ixW_f, wp_ixT, wp_lenR, lenW_l, lenW_f, wp_lenT, wp_tupR, lsW_l, lsW_f, wp_tupT, wp_listT, wp_cmp, cmp_lt, cmp_le, cmp_gt, cmp_ge, cmp_eq, cmp_ne, eqD_int, eqD_bl, cmp_is, cmp_isn, dIs_bl, dIs_tn, dIs_nn, opt_map, decide_eq_true_eq, wp_mod, wp_fdiv, wp_pow, wp_add, wp_sub, wp_mul, wp_mulTI, wp_addT, wp_neg, wp_slT, wp_slR, slW, wp_isLst, lW_l, wp_app, wp_popAt, wp_setR, setW_l, partO, Bool.not_true, Bool.not_false, wp_minI, wp_maxI, wp_intI, wp_intB, wp_absI, wp_srcT, wp_r2, wp_isi, asg_one, asg_two, wp_srcST, isTy_bb, wipe_nil, wipe_cons, at0, at1, ix0, ix1, ea5, ez11, e5]
  obtain ⟨size, hsz, eix2⟩ : ∃ size : Nat, size ≤ 20 ∧ L2.atI [D.int (z12.fmod 5), D.int (z12.fmod 11), D.int (5 + z12.fmod 16)] (z11.fmod 3) = some (.int size) := by
    have f0 := fm_lo z12 (b := 5) (by omega)
    have f1 := fm_hi z12 (b := 5) (by omega)
    have k0 := fm_lo z12 (b := 11) (by decide)
    have k1 := fm_hi z12 (b := 11) (by decide)
    have j0 := fm_lo z12 (b := 16) (by decide)
    have j1 := fm_hi z12 (b := 16) (by decide)
    rcases three z11 with h | h | h <;> rw [h]
    · exact ⟨(z12.fmod 5).toNat, by omega, by rw [show (((z12.fmod 5).toNat : Nat) : Int) = z12.fmod 5 by omega]; rfl⟩
    · exact ⟨(z12.fmod 11).toNat, by omega, by rw [show (((z12.fmod 11).toNat : Nat) : Int) = z12.fmod 11 by omega]; rfl⟩
    · exact ⟨(5 + z12.fmod 16).toNat, by omega, by rw [show (((5 + z12.fmod 16).toNat : Nat) : Int) = 5 + z12.fmod 16 by omega]; rfl⟩
  refine ⟨by decide, _, eix2, ?_⟩
  simp only [ss_lk_claim_4, wp_bd, wp_ret, wp_nope, wp_chk, wp_some, wp_ite, wp_tru, wpF_bs, wpF_nx, wpF_rt, wpF_bk, wpF_ct, wpF_ite, thenF_nx, thenF_rt, thenF_bk, thenF_ct, wpF_nil, wpF_cons, endF_nx, endF_rt, exe, ev, evs, evI, varM, List.getElem?_cons_zero, List.getElem?_cons_succ, List.set_cons_zero, List.set_cons_succ, Bool.false_eq_true, if_true, if_false, ite_true, ite_false, reduceIte, Option.some.injEq, exists_eq_left', exists_eq_left, wp_ixR, ixW_l, ixW_f, wp_ixT, wp_lenR, lenW_l, lenW_f, wp_lenT, wp_tupR, lsW_l, lsW_f, wp_tupT, wp_listT, wp_cmp, cmp_lt, cmp_le, cmp_gt, cmp_ge, cmp_eq, cmp_ne, eqD_int, eqD_bl, cmp_is, cmp_isn, dIs_bl, dIs_tn, dIs_nn, opt_map, decide_eq_true_eq, wp_mod, wp_fdiv, wp_pow, wp_add, wp_sub, wp_mul, wp_mulTI, wp_addT, wp_neg, wp_slT, wp_slR, slW, wp_isLst, lW_l, wp_app, wp_popAt, wp_setR, setW_l, partO, Bool.not_true, Bool.not_false, wp_minI, wp_maxI, wp_intI, wp_intB, wp_absI, wp_srcT, wp_r2, wp_isi, asg_one, asg_two, wp_srcST, isTy_bb, wipe_nil, wipe_cons, at0, at1, ix0, ix1]
  refine ⟨⟨by decide, ⟨by omega, by omega⟩⟩, ?_⟩
  rw [show ((size : Int) - 0).toNat = size by omega]
  refine wp_loopA (P := fun d => ∃ ls, d = lsD ls ∧ RowL many ls) (I := fun m' => Ge m5 m') _ (fun x hx m6 g6 => ?_) .refl ?_
  · obtain ⟨i, hi, rfl⟩ := rngI_get hx
    simp only [wp_bd, wp_ret, wp_nope, wp_chk, wp_some, wp_ite, wp_tru, wpF_bs, wpF_nx, wpF_rt, wpF_bk, wpF_ct, wpF_ite, thenF_nx, thenF_rt, thenF_bk, thenF_ct, wpF_nil, wpF_cons, endF_nx, endF_rt, exe, ev, evs, evI, varM, List.getElem?_cons_zero, List.getElem?_cons_succ, List.set_cons_zero, List.set_cons_succ, Bool.false_eq_true, if_true, if_false, ite_true, ite_false, reduceIte, Option.some.injEq, exists_eq_left', exists_eq_left, wp_ixR, ixW_l, ixW_f, wp_ixT, wp_lenR, lenW_l, lenW_f, wp_lenT, wp_tupR, lsW_l, lsW_f, wp_tupT, wp_listT, wp_cmp, cmp_lt, cmp_le, cmp_gt, cmp_ge, cmp_eq, cmp_ne, eqD_int, eqD_bl, cmp_is, cmp_isn, dIs_bl, dIs_tn, dIs_nn, opt_map, decide_eq_true_eq, wp_mod, wp_fdiv, wp_pow, wp_add, wp_sub, wp_mul, wp_mulTI, wp_addT, wp_neg, wp_slT, wp_slR, slW, wp_isLst, lW_l, wp_app, wp_popAt, wp_setR, setW_l, partO, Bool.not_true, Bool.not_false, wp_minI, wp_maxI, wp_intI, wp_intB, wp_absI, wp_srcT, wp_r2, wp_isi, asg_one, asg_two, wp_srcST, isTy_bb, wipe_nil, wipe_cons, at0, at1, ix0, ix1, List.length_map, hkb]
    have hs6 := lstAt_ge ((((g1.trans g2).trans (g3.trans g4)).trans g5).trans g6) hs
    refine wp_mono (at_ok (n := n + 3) D0.toDgs hs6 (k := 1 + (0 + (i : Int) * 1)) (by omega)) fun v m7 ⟨⟨z, e⟩, em⟩ => ?_
    subst e em
    refine wp_mono (lk_row_ok (n := n + 1) D0 (by omega)) fun v m8 ⟨hv, g8⟩ => ?_
    exact ⟨hv, g6.trans g8⟩
  · intro acc m6 hacc hlen g6
    rw [rngI_len] at hlen
    obtain ⟨rss, rfl, hrs⟩ := lsD_of hacc
    refine wp_new fun l7 m7 g7 e7 a7 b7 c7 => ?_
    have ea7 := g7.get (g6.get ea5)
    have hrl : rss.length ≤ 20 := by rw [List.length_map] at hlen; omega
    have G := ((((g1.trans g2).trans (g3.trans g4)).trans g5).trans g6).trans g7
    unfold ss_lk_claim_5
    rw [wpF_cons]
    refine wpF_mono (Q := fun fl m' => ∃ (l8 : Nat) (rss' : List (List Int)) (b8 : Option D), fl = .nx [some (.ref s), some (.int most), some (.ref a), some (.int many), some (.tup (kb.map kD)), some (.int size), some (.ref l8), none, b8] ∧ m'[l8]? = some (.lst (rss'.map lsD)) ∧ rss'.length ≤ 20 ∧ (∀ ls ∈ rss', RowL many ls) ∧ Ge m7 m') ?_ ?_
    · simp only [wp_bd, wp_ret, wp_nope, wp_chk, wp_some, wp_ite, wp_tru, wpF_bs, wpF_nx, wpF_rt, wpF_bk, wpF_ct, wpF_ite, thenF_nx, thenF_rt, thenF_bk, thenF_ct, wpF_nil, wpF_cons, endF_nx, endF_rt, exe, ev, evs, evI, varM, List.getElem?_cons_zero, List.getElem?_cons_succ, List.set_cons_zero, List.set_cons_succ, Bool.false_eq_true, if_true, if_false, ite_true, ite_false, reduceIte, Option.some.injEq, exists_eq_left', exists_eq_left, wp_ixR, ixW_l, ixW_f, wp_ixT, wp_lenR, lenW_l, lenW_f, wp_lenT, wp_tupR, lsW_l, lsW_f, wp_tupT, wp_listT, wp_cmp, cmp_lt, cmp_le, cmp_gt, cmp_ge, cmp_eq, cmp_ne, eqD_int, eqD_bl, cmp_is, cmp_isn, dIs_bl, dIs_tn, dIs_nn, opt_map, decide_eq_true_eq, wp_mod, wp_fdiv, wp_pow, wp_add, wp_sub, wp_mul, wp_mulTI, wp_addT, wp_neg, wp_slT, wp_slR, slW, wp_isLst, lW_l, wp_app, wp_popAt, wp_setR, setW_l, partO, Bool.not_true, Bool.not_false, wp_minI, wp_maxI, wp_intI, wp_intB, wp_absI, wp_srcT, wp_r2, wp_isi, asg_one, asg_two, wp_srcST, isTy_bb, wipe_nil, wipe_cons, at0, at1, ix0, ix1, ea7, ez13]
      refine ⟨by decide, ?_⟩
      by_cases c13 : 0 < z13.fmod 3
      · rw [if_pos c13, wp_srcR e7]
        refine wp_loopG (a := [(l7, _)]) (f := lsD) (g := fun ls => if !(ls.isEmpty) then some (lsD ls) else none) (fun _ g => g.get e7) _ (fun ls hls m8 g8 => ?_) (fun m8 g8 => ?_)
        · simp only [wp_bd, wp_ret, wp_nope, wp_chk, wp_some, wp_ite, wp_tru, wpF_bs, wpF_nx, wpF_rt, wpF_bk, wpF_ct, wpF_ite, thenF_nx, thenF_rt, thenF_bk, thenF_ct, wpF_nil, wpF_cons, endF_nx, endF_rt, exe, ev, evs, evI, varM, List.getElem?_cons_zero, List.getElem?_cons_succ, List.set_cons_zero, List.set_cons_succ, Bool.false_eq_true, if_true, if_false, ite_true, ite_false, reduceIte, Option.some.injEq, exists_eq_left', exists_eq_left, wp_ixR, ixW_l, ixW_f, wp_ixT, wp_lenR, lenW_l, lenW_f, wp_lenT, wp_tupR, lsW_l, lsW_f, wp_tupT, wp_listT, wp_cmp, cmp_lt, cmp_le, cmp_gt, cmp_ge, cmp_eq, cmp_ne, eqD_int, eqD_bl, cmp_is, cmp_isn, dIs_bl, dIs_tn, dIs_nn, opt_map, decide_eq_true_eq, wp_mod, wp_fdiv, wp_pow, wp_add, wp_sub, wp_mul, wp_mulTI, wp_addT, wp_neg, wp_slT, wp_slR, slW, wp_isLst, lW_l, wp_app, wp_popAt, wp_setR, setW_l, partO, Bool.not_true, Bool.not_false, wp_minI, wp_maxI, wp_intI, wp_intB, wp_absI, wp_srcT, wp_r2, wp_isi, asg_one, asg_two, wp_srcST, isTy_bb, wipe_nil, wipe_cons, at0, at1, ix0, ix1, List.length_nil]
          refine ⟨by omega, ?_⟩
          rw [eqD_tnil]
          simp only [wp_bd, wp_ret, wp_nope, wp_chk, wp_some, wp_ite, wp_tru, wpF_bs, wpF_nx, wpF_rt, wpF_bk, wpF_ct, wpF_ite, thenF_nx, thenF_rt, thenF_bk, thenF_ct, wpF_nil, wpF_cons, endF_nx, endF_rt, exe, ev, evs, evI, varM, List.getElem?_cons_zero, List.getElem?_cons_succ, List.set_cons_zero, List.set_cons_succ, Bool.false_eq_true, if_true, if_false, ite_true, ite_false, reduceIte, Option.some.injEq, exists_eq_left', exists_eq_left, wp_ixR, ixW_l, ixW_f, wp_ixT, wp_lenR, lenW_l, lenW_f, wp_lenT, wp_tupR, lsW_l, lsW_f, wp_tupT, wp_listT, wp_cmp, cmp_lt, cmp_le, cmp_gt, cmp_ge, cmp_eq, cmp_ne, eqD_int, eqD_bl, cmp_is, cmp_isn, dIs_bl, dIs_tn, dIs_nn, opt_map, decide_eq_true_eq, wp_mod, wp_fdiv, wp_pow, wp_add, wp_sub, wp_mul, wp_mulTI, wp_addT, wp_neg, wp_slT, wp_slR, slW, wp_isLst, lW_l, wp_app, wp_popAt, wp_setR, setW_l, partO, Bool.not_true, Bool.not_false, wp_minI, wp_maxI, wp_intI, wp_intB, wp_absI, wp_srcT, wp_r2, wp_isi, asg_one, asg_two, wp_srcST, isTy_bb, wipe_nil, wipe_cons, at0, at1, ix0, ix1]
          cases ls.isEmpty <;> simp only [wp_bd, wp_ret, wp_nope, wp_chk, wp_some, wp_ite, wp_tru, wpF_bs, wpF_nx, wpF_rt, wpF_bk, wpF_ct, wpF_ite, thenF_nx, thenF_rt, thenF_bk, thenF_ct, wpF_nil, wpF_cons, endF_nx, endF_rt, exe, ev, evs, evI, varM, List.getElem?_cons_zero, List.getElem?_cons_succ, List.set_cons_zero, List.set_cons_succ, Bool.false_eq_true, if_true, if_false, ite_true, ite_false, reduceIte, Option.some.injEq, exists_eq_left', exists_eq_left, wp_ixR, ixW_l, ixW_f, wp_ixT, wp_lenR, lenW_l, lenW_f, wp_lenT, wp_tupR, lsW_l, lsW_f, wp_tupT, wp_listT, wp_cmp, cmp_lt, cmp_le, cmp_gt, cmp_ge, cmp_eq, cmp_ne, eqD_int, eqD_bl, cmp_is, cmp_isn, dIs_bl, dIs_tn, dIs_nn, opt_map, decide_eq_true_eq, wp_mod, wp_fdiv, wp_pow, wp_add, wp_sub, wp_mul, wp_mulTI, wp_addT, wp_neg, wp_slT, wp_slR, slW, wp_isLst, lW_l, wp_app, wp_popAt, wp_setR, setW_l, partO, Bool.not_true, Bool.not_false, wp_minI, wp_maxI, wp_intI, wp_intB, wp_absI, wp_srcT, wp_r2, wp_isi, asg_one, asg_two, wp_srcST, isTy_bb, wipe_nil, wipe_cons, at0, at1, ix0, ix1] <;> exact ⟨trivial, .refl⟩
        · rw [fmIf]
          refine wp_new fun l9 m9 g9 e9 a9 b9 c9 => ?_
          exact ⟨_, _, _, rfl, e9, Nat.le_trans (List.length_filter_le _ _) hrl, fun ls h => hrs ls (List.mem_filter.mp h).1, g8.trans g9⟩
      · rw [if_neg c13]
        exact ⟨_, _, _, rfl, e7, hrl, hrs, .refl⟩
    · rintro fl m8 ⟨l8, rss', b8, rfl, e8, hr8, hrs8, g8⟩
      rw [thenF_nx]
      simp only [ss_lk_claim_6, wp_bd, wp_ret, wp_nope, wp_chk, wp_some, wp_ite, wp_tru, wpF_bs, wpF_nx, wpF_rt, wpF_bk, wpF_ct, wpF_ite, thenF_nx, thenF_rt, thenF_bk, thenF_ct, wpF_nil, wpF_cons, endF_nx, endF_rt, exe, ev, evs, evI, varM, List.getElem?_cons_zero, List.getElem?_cons_succ, List.set_cons_zero, List.set_cons_succ, Bool.false_eq_true, if_true, if_false, ite_true, ite_false, reduceIte, Option.some.injEq, exists_eq_left', exists_eq_left, wp_ixR, ixW_l, ixW_f, wp_ixT, wp_lenR, lenW_l, lenW_f, wp_lenT, wp_tupR, lsW_l, lsW_f, wp_tupT, wp_listT, wp_cmp, cmp_lt, cmp_le, cmp_gt, cmp_ge, cmp_eq, cmp_ne, eqD_int, eqD_bl, cmp_is, cmp_isn, dIs_bl, dIs_tn, dIs_nn, opt_map, decide_eq_true_eq, wp_mod, wp_fdiv, wp_pow, wp_add, wp_sub, wp_mul, wp_mulTI, wp_addT, wp_neg, wp_slT, wp_slR, slW, wp_isLst, lW_l, wp_app, wp_popAt, wp_setR, setW_l, partO, Bool.not_true, Bool.not_false, wp_minI, wp_maxI, wp_intI, wp_intB, wp_absI, wp_srcT, wp_r2, wp_isi, asg_one, asg_two, wp_srcST, isTy_bb, wipe_nil, wipe_cons, at0, at1, ix0, ix1, e8, List.length_cons, List.length_nil]
      exact ⟨by decide, ⟨kb, rss', rfl, by omega, hr8, by rw [hkb]; exact hrs8⟩, G.trans g8⟩
def ClaimM (most rows : Nat) (v : D) : Prop := ∃ (kb : List Bool) (rss : List (List Int)), v = clD (kb.map kD) rss ∧ kb.length ≤ most ∧ rss.length ≤ 6 * rows ∧ (kb.length ≤ 5 ∨ rss.length ≤ rows) ∧ ∀ ls ∈ rss, RowL kb.length ls
theorem lk_many_rows5_ok (hM : t "_law_many_rows" = some fn_lk_many_rows) {one : Int} (h0 : 0 ≤ one) {most rows : Nat} (hr9 : rows ≤ 100) {cl : D} (hc : ClaimL most rows cl) : wp (run t w (n + 1) "_law_many_rows" [cl, .int one]) m fun v m' => ClaimM most rows v ∧ Ge m m' := by
  have big := big_line
  obtain ⟨kb, rss, rfl, hk, hl, hr⟩ := hc
  refine wp_run hM rfl ?_
  show wpF (exes _ _ fn_lk_many_rows.body [some (clD (kb.map kD) rss), some (.int one), none, none, none, none, none]) m _
  simp only [fn_lk_many_rows, ss_lk_many_rows_0, wp_bd, wp_ret, wp_nope, wp_chk, wp_some, wp_ite, wp_tru, wpF_bs, wpF_nx, wpF_rt, wpF_bk, wpF_ct, wpF_ite, thenF_nx, thenF_rt, thenF_bk, thenF_ct, wpF_nil, wpF_cons, endF_nx, endF_rt, exe, ev, evs, evI, varM, List.getElem?_cons_zero, List.getElem?_cons_succ, List.set_cons_zero, List.set_cons_succ, Bool.false_eq_true, if_true, if_false, ite_true, ite_false, reduceIte, Option.some.injEq, exists_eq_left', exists_eq_left, wp_ixR, ixW_l, ixW_f, wp_ixT, wp_lenR, lenW_l, lenW_f, wp_lenT, wp_tupR, lsW_l, lsW_f, wp_tupT, wp_listT, wp_cmp, cmp_lt, cmp_le, cmp_gt, cmp_ge, cmp_eq, cmp_ne, eqD_int, eqD_bl, cmp_is, cmp_isn, dIs_bl, dIs_tn, dIs_nn, opt_map, decide_eq_true_eq, wp_mod, wp_fdiv, wp_pow, wp_add, wp_sub, wp_mul, wp_mulTI, wp_addT, wp_neg, wp_slT, wp_slR, slW, wp_isLst, lW_l, wp_app, wp_popAt, wp_setR, setW_l, partO, Bool.not_true, Bool.not_false, wp_minI, wp_maxI, wp_intI, wp_intB, wp_absI, wp_srcT, wp_r2, wp_isi, asg_one, asg_two, wp_srcST, isTy_bb, wipe_nil, wipe_cons, at0, at1, ix0, ix1]
  rw [wp_asgT (ρ' := [some (clD (kb.map kD) rss), some (.int one), some (.tup (kb.map kD)), some (.tup (rss.map lsD)), none, none, none]) rfl]
  have same : ClaimM most rows (clD (kb.map kD) rss) := ⟨kb, rss, rfl, hk, by omega, .inr hl, hr⟩
  refine W_opt (P := fun v m' => ClaimM most rows v ∧ Ge m m') (fun m' => m' = m ∧ kb.length ≤ 5) ?_ (fun m' em => ?_)
  · simp only [wp_bd, wp_ret, wp_nope, wp_chk, wp_some, wp_ite, wp_tru, wpF_bs, wpF_nx, wpF_rt, wpF_bk, wpF_ct, wpF_ite, thenF_nx, thenF_rt, thenF_bk, thenF_ct, wpF_nil, wpF_cons, endF_nx, endF_rt, exe, ev, evs, evI, varM, List.getElem?_cons_zero, List.getElem?_cons_succ, List.set_cons_zero, List.set_cons_succ, Bool.false_eq_true, if_true, if_false, ite_true, ite_false, reduceIte, Option.some.injEq, exists_eq_left', exists_eq_left, wp_ixR, ixW_l, ixW_f, wp_ixT, wp_lenR, lenW_l, lenW_f, wp_lenT, wp_tupR, lsW_l, lsW_f, wp_tupT, wp_listT, wp_cmp, cmp_lt, cmp_le, cmp_gt, cmp_ge, cmp_eq, cmp_ne, eqD_int, eqD_bl, cmp_is, cmp_isn, dIs_bl, dIs_tn, dIs_nn, opt_map, decide_eq_true_eq, wp_mod, wp_fdiv, wp_pow, wp_add, wp_sub, wp_mul, wp_mulTI, wp_addT, wp_neg, wp_slT, wp_slR, slW, wp_isLst, lW_l, wp_app, wp_popAt, wp_setR, setW_l, partO, Bool.not_true, Bool.not_false, wp_minI, wp_maxI, wp_intI, wp_intB, wp_absI, wp_srcT, wp_r2, wp_isi, asg_one, asg_two, wp_srcST, isTy_bb, wipe_nil, wipe_cons, at0, at1, ix0, ix1]
    refine ⟨by decide, ?_⟩
    by_cases c1 : (0 : Int) < one.fmod 6
    · rw [if_pos c1]
      exact .inl ⟨_, rfl, same, .refl⟩
    · rw [if_neg c1, List.length_map]
      by_cases c2 : (5 : Int) < kb.length
      · rw [if_pos c2]
        exact .inl ⟨_, rfl, same, .refl⟩
      · rw [if_neg c2]
        exact .inr ⟨trivial, trivial, by omega⟩
  · obtain ⟨em, k5⟩ := em
    subst em
    have f0 := fm_lo (one.fdiv 6) (b := 20) (by decide)
    have f1 := fm_hi (one.fdiv 6) (b := 20) (by decide)
    have k0 := fm_lo (one.fdiv 120) (b := 3) (by decide)
    have k1 := fm_hi (one.fdiv 120) (b := 3) (by decide)
    simp only [ss_lk_many_rows_2, wp_bd, wp_ret, wp_nope, wp_chk, wp_some, wp_ite, wp_tru, wpF_bs, wpF_nx, wpF_rt, wpF_bk, wpF_ct, wpF_ite, thenF_nx, thenF_rt, thenF_bk, thenF_ct, wpF_nil, wpF_cons, endF_nx, endF_rt, exe, ev, evs, evI, varM, List.getElem?_cons_zero, List.getElem?_cons_succ, List.set_cons_zero, List.set_cons_succ, Bool.false_eq_true, if_true, if_false, ite_true, ite_false, reduceIte, Option.some.injEq, exists_eq_left', exists_eq_left, wp_ixR, ixW_l, ixW_f, wp_ixT, wp_lenR, lenW_l, lenW_f, wp_lenT, wp_tupR, lsW_l, lsW_f, wp_tupT, wp_listT, wp_cmp, cmp_lt, cmp_le, cmp_gt, cmp_ge, cmp_eq, cmp_ne, eqD_int, eqD_bl, cmp_is, cmp_isn, dIs_bl, dIs_tn, dIs_nn, opt_map, decide_eq_true_eq, wp_mod, wp_fdiv, wp_pow, wp_add, wp_sub, wp_mul, wp_mulTI, wp_addT, wp_neg, wp_slT, wp_slR, slW, wp_isLst, lW_l, wp_app, wp_popAt, wp_setR, setW_l, partO, Bool.not_true, Bool.not_false, wp_minI, wp_maxI, wp_intI, wp_intB, wp_absI, wp_srcT, wp_r2, wp_isi, asg_one, asg_two, wp_srcST, isTy_bb, wipe_nil, wipe_cons, at0, at1, ix0, ix1]
    refine ⟨⟨by decide, by decide⟩, by decide, ?_⟩
    rw [cut_U (by omega), ← List.map_take]
    refine wp_loopG (a := []) (f := lsD) (g := fun ls => some (lsD (ls.map fun l => -l))) (fun _ _ => trivial) _ (fun ls hls m1 g1 => ?_) (fun m1 g1 => ?_)
    · simp only [wp_bd, wp_ret, wp_nope, wp_chk, wp_some, wp_ite, wp_tru, wpF_bs, wpF_nx, wpF_rt, wpF_bk, wpF_ct, wpF_ite, thenF_nx, thenF_rt, thenF_bk, thenF_ct, wpF_nil, wpF_cons, endF_nx, endF_rt, exe, ev, evs, evI, varM, List.getElem?_cons_zero, List.getElem?_cons_succ, List.set_cons_zero, List.set_cons_succ, Bool.false_eq_true, if_true, if_false, ite_true, ite_false, reduceIte, Option.some.injEq, exists_eq_left', exists_eq_left, wp_ixR, ixW_l, ixW_f, wp_ixT, wp_lenR, lenW_l, lenW_f, wp_lenT, wp_tupR, lsW_l, lsW_f, wp_tupT, wp_listT, wp_cmp, cmp_lt, cmp_le, cmp_gt, cmp_ge, cmp_eq, cmp_ne, eqD_int, eqD_bl, cmp_is, cmp_isn, dIs_bl, dIs_tn, dIs_nn, opt_map, decide_eq_true_eq, wp_mod, wp_fdiv, wp_pow, wp_add, wp_sub, wp_mul, wp_mulTI, wp_addT, wp_neg, wp_slT, wp_slR, slW, wp_isLst, lW_l, wp_app, wp_popAt, wp_setR, setW_l, partO, Bool.not_true, Bool.not_false, wp_minI, wp_maxI, wp_intI, wp_intB, wp_absI, wp_srcT, wp_r2, wp_isi, asg_one, asg_two, wp_srcST, isTy_bb, wipe_nil, wipe_cons, at0, at1, ix0, ix1]
      refine wp_loopG (a := []) (f := D.int) (g := fun l => some (D.int (-l))) (fun _ _ => trivial) _ (fun l hl m2 g2 => ?_) (fun m2 g2 => ?_)
      · simp only [wp_bd, wp_ret, wp_nope, wp_chk, wp_some, wp_ite, wp_tru, wpF_bs, wpF_nx, wpF_rt, wpF_bk, wpF_ct, wpF_ite, thenF_nx, thenF_rt, thenF_bk, thenF_ct, wpF_nil, wpF_cons, endF_nx, endF_rt, exe, ev, evs, evI, varM, List.getElem?_cons_zero, List.getElem?_cons_succ, List.set_cons_zero, List.set_cons_succ, Bool.false_eq_true, if_true, if_false, ite_true, ite_false, reduceIte, Option.some.injEq, exists_eq_left', exists_eq_left, wp_ixR, ixW_l, ixW_f, wp_ixT, wp_lenR, lenW_l, lenW_f, wp_lenT, wp_tupR, lsW_l, lsW_f, wp_tupT, wp_listT, wp_cmp, cmp_lt, cmp_le, cmp_gt, cmp_ge, cmp_eq, cmp_ne, eqD_int, eqD_bl, cmp_is, cmp_isn, dIs_bl, dIs_tn, dIs_nn, opt_map, decide_eq_true_eq, wp_mod, wp_fdiv, wp_pow, wp_add, wp_sub, wp_mul, wp_mulTI, wp_addT, wp_neg, wp_slT, wp_slR, slW, wp_isLst, lW_l, wp_app, wp_popAt, wp_setR, setW_l, partO, Bool.not_true, Bool.not_false, wp_minI, wp_maxI, wp_intI, wp_intB, wp_absI, wp_srcT, wp_r2, wp_isi, asg_one, asg_two, wp_srcST, isTy_bb, wipe_nil, wipe_cons, at0, at1, ix0, ix1]
        exact ⟨trivial, .refl⟩
      · rw [fmS]
        refine wp_new fun a m3 g3 e3 a3 b3 c3 => ?_
        simp only [wp_bd, wp_ret, wp_nope, wp_chk, wp_some, wp_ite, wp_tru, wpF_bs, wpF_nx, wpF_rt, wpF_bk, wpF_ct, wpF_ite, thenF_nx, thenF_rt, thenF_bk, thenF_ct, wpF_nil, wpF_cons, endF_nx, endF_rt, exe, ev, evs, evI, varM, List.getElem?_cons_zero, List.getElem?_cons_succ, List.set_cons_zero, List.set_cons_succ, Bool.false_eq_true, if_true, if_false, ite_true, ite_false, reduceIte, Option.some.injEq, exists_eq_left', exists_eq_left, wp_ixR, ixW_l, ixW_f, wp_ixT, wp_lenR, lenW_l, lenW_f, wp_lenT, wp_tupR, lsW_l, lsW_f, wp_tupT, wp_listT, wp_cmp, cmp_lt, cmp_le, cmp_gt, cmp_ge, cmp_eq, cmp_ne, eqD_int, eqD_bl, cmp_is, cmp_isn, dIs_bl, dIs_tn, dIs_nn, opt_map, decide_eq_true_eq, wp_mod, wp_fdiv, wp_pow, wp_add, wp_sub, wp_mul, wp_mulTI, wp_addT, wp_neg, wp_slT, wp_slR, slW, wp_isLst, lW_l, wp_app, wp_popAt, wp_setR, setW_l, partO, Bool.not_true, Bool.not_false, wp_minI, wp_maxI, wp_intI, wp_intB, wp_absI, wp_srcT, wp_r2, wp_isi, asg_one, asg_two, wp_srcST, isTy_bb, wipe_nil, wipe_cons, at0, at1, ix0, ix1, e3]
        exact ⟨by show _ = D.tup _; rw [List.map_map]; rfl, g2.trans g3⟩
    · rw [fmS]
      refine wp_new fun a m3 g3 e3 a3 b3 c3 => ?_
      simp only [ss_lk_many_rows_3, wp_bd, wp_ret, wp_nope, wp_chk, wp_some, wp_ite, wp_tru, wpF_bs, wpF_nx, wpF_rt, wpF_bk, wpF_ct, wpF_ite, thenF_nx, thenF_rt, thenF_bk, thenF_ct, wpF_nil, wpF_cons, endF_nx, endF_rt, exe, ev, evs, evI, varM, List.getElem?_cons_zero, List.getElem?_cons_succ, List.set_cons_zero, List.set_cons_succ, Bool.false_eq_true, if_true, if_false, ite_true, ite_false, reduceIte, Option.some.injEq, exists_eq_left', exists_eq_left, wp_ixR, ixW_l, ixW_f, wp_ixT, wp_lenR, lenW_l, lenW_f, wp_lenT, wp_tupR, lsW_l, lsW_f, wp_tupT, wp_listT, wp_cmp, cmp_lt, cmp_le, cmp_gt, cmp_ge, cmp_eq, cmp_ne, eqD_int, eqD_bl, cmp_is, cmp_isn, dIs_bl, dIs_tn, dIs_nn, opt_map, decide_eq_true_eq, wp_mod, wp_fdiv, wp_pow, wp_add, wp_sub, wp_mul, wp_mulTI, wp_addT, wp_neg, wp_slT, wp_slR, slW, wp_isLst, lW_l, wp_app, wp_popAt, wp_setR, setW_l, partO, Bool.not_true, Bool.not_false, wp_minI, wp_maxI, wp_intI, wp_intB, wp_absI, wp_srcT, wp_r2, wp_isi, asg_one, asg_two, wp_srcST, isTy_bb, wipe_nil, wipe_cons, at0, at1, ix0, ix1, e3, List.length_map, List.length_append, List.length_cons, List.length_nil]
      have lt : (rss.take (1 + (one.fdiv 6).fmod 20).toNat).length ≤ rss.length := by rw [List.length_take]; omega
      refine ⟨by omega, ⟨by decide, by decide⟩, by decide, ⟨by omega, by omega, by omega⟩, by decide, ⟨kb, (List.replicate (1 + (one.fdiv 120).fmod 3).toNat (rss ++ (rss.take (1 + (one.fdiv 6).fmod 20).toNat).map (List.map fun l => -l))).flatten, ?_, hk, ?_, .inl k5, fun ls hls => ?_⟩, g1.trans g3⟩
      · congr 1
        simp only [List.map_flatten, List.map_replicate, List.map_append, List.map_map]
        rfl
      · have e3 : (1 + (one.fdiv 120).fmod 3).toNat ≤ 3 := by omega
        rw [len_rep, List.length_append, List.length_map]
        have := Nat.mul_le_mul e3 (show rss.length + (rss.take (1 + (one.fdiv 6).fmod 20).toNat).length ≤ 2 * rows by omega)
        omega
      · rcases List.mem_append.mp (mem_rep hls) with h | h
        · exact hr ls h
        · obtain ⟨ls', h', rfl⟩ := List.mem_map.mp h
          have q := hr ls' (List.mem_of_mem_take h')
          refine ⟨?_, fun l hl => ?_⟩
          · rw [List.map_map]
            have : (Int.natAbs ∘ fun l : Int => -l) = Int.natAbs := by funext l; simp
            rw [this]
            exact q.1
          · obtain ⟨l', hl', rfl⟩ := List.mem_map.mp hl
            rw [Int.natAbs_neg]
            exact q.2 l' hl'
theorem two_len (ps : List (List Bool)) : (ps.flatMap fun p => [p ++ [false], p ++ [true]]).length = 2 * ps.length := by
  rw [List.length_flatMap]
  have : (ps.map fun p => ([p ++ [false], p ++ [true]]).length) = List.replicate ps.length 2 := by
    rw [List.eq_replicate_iff]
    refine ⟨by rw [List.length_map], fun b hb => ?_⟩
    obtain ⟨p, _, rfl⟩ := List.mem_map.mp hb
    rfl
  rw [this, List.sum_replicate_nat]
  omega
theorem lk_plays_ok {nm : Str} (h : t nm = some fn_lk_plays) {many : Nat} (hm : many ≤ 8) : wp (run t w (n + 1) nm [.int many]) m fun v m' => ∃ a, v = .ref a ∧ m'[a]? = some (.lst ((lev many).map bsD)) ∧ Ge m m' ∧ m.length ≤ a := by
  have big : (2000 : Nat) < sizeLine := by decide
  have p2 : ∀ k, k ≤ 8 → 2 ^ k ≤ 256 := fun k h => Nat.le_trans (Nat.pow_le_pow_right (n := 2) (by decide) h) (by decide)
  refine wp_run h rfl ?_
  show wpF (exes _ _ fn_lk_plays.body [some (.int many), none, none, none, none]) m _
  simp only [fn_lk_plays, ss_lk_plays_0, wp_bd, wp_ret, wp_nope, wp_chk, wp_some, wp_ite, wp_tru, wpF_bs, wpF_nx, wpF_rt, wpF_bk, wpF_ct, wpF_ite, thenF_nx, thenF_rt, thenF_bk, thenF_ct, wpF_nil, wpF_cons, endF_nx, endF_rt, exe, ev, evs, evI, varM, List.getElem?_cons_zero, List.getElem?_cons_succ, List.set_cons_zero, List.set_cons_succ, Bool.false_eq_true, if_true, if_false, ite_true, ite_false, reduceIte, Option.some.injEq, exists_eq_left', exists_eq_left, wp_ixR, ixW_l, ixW_f, wp_ixT, wp_lenR, lenW_l, lenW_f, wp_lenT, wp_tupR, lsW_l, lsW_f, wp_tupT, wp_listT, wp_cmp, cmp_lt, cmp_le, cmp_gt, cmp_ge, cmp_eq, cmp_ne, eqD_int, eqD_bl, cmp_is, cmp_isn, dIs_bl, dIs_tn, dIs_nn, opt_map, decide_eq_true_eq, wp_mod, wp_fdiv, wp_pow, wp_add, wp_sub, wp_mul, wp_mulTI, wp_addT, wp_neg, wp_slT, wp_slR, slW, wp_isLst, lW_l, wp_app, wp_popAt, wp_setR, setW_l, partO, Bool.not_true, Bool.not_false, wp_minI, wp_maxI, wp_intI, wp_intB, wp_absI, wp_srcT, wp_r2, wp_isi, asg_one, asg_two, wp_srcST, isTy_bb, wipe_nil, wipe_cons, at0, at1, ix0, ix1, List.length_nil, List.length_cons]
  refine ⟨by omega, by omega, wp_new fun s0 m1 g1 e1 a1 b1 c1 => ?_⟩
  simp only [ss_lk_plays_1, wp_bd, wp_ret, wp_nope, wp_chk, wp_some, wp_ite, wp_tru, wpF_bs, wpF_nx, wpF_rt, wpF_bk, wpF_ct, wpF_ite, thenF_nx, thenF_rt, thenF_bk, thenF_ct, wpF_nil, wpF_cons, endF_nx, endF_rt, exe, ev, evs, evI, varM, List.getElem?_cons_zero, List.getElem?_cons_succ, List.set_cons_zero, List.set_cons_succ, Bool.false_eq_true, if_true, if_false, ite_true, ite_false, reduceIte, Option.some.injEq, exists_eq_left', exists_eq_left, wp_ixR, ixW_l, ixW_f, wp_ixT, wp_lenR, lenW_l, lenW_f, wp_lenT, wp_tupR, lsW_l, lsW_f, wp_tupT, wp_listT, wp_cmp, cmp_lt, cmp_le, cmp_gt, cmp_ge, cmp_eq, cmp_ne, eqD_int, eqD_bl, cmp_is, cmp_isn, dIs_bl, dIs_tn, dIs_nn, opt_map, decide_eq_true_eq, wp_mod, wp_fdiv, wp_pow, wp_add, wp_sub, wp_mul, wp_mulTI, wp_addT, wp_neg, wp_slT, wp_slR, slW, wp_isLst, lW_l, wp_app, wp_popAt, wp_setR, setW_l, partO, Bool.not_true, Bool.not_false, wp_minI, wp_maxI, wp_intI, wp_intB, wp_absI, wp_srcT, wp_r2, wp_isi, asg_one, asg_two, wp_srcST, isTy_bb, wipe_nil, wipe_cons, at0, at1, ix0, ix1]
  refine ⟨⟨by decide, ⟨by omega, by omega⟩⟩, ?_⟩
  rw [show ((many : Int) - 0).toNat = many by omega]
  refine wpF_loop (a := []) (J := fun xs ρ m' => ∃ (k s : Nat) (x y z : Option D), k + xs.length = many ∧ ρ = [some (.int many), some (.ref s), x, y, z] ∧ m'[s]? = some (.lst ((lev k).map bsD)) ∧ Ge m m' ∧ m.length ≤ s) (fun _ _ _ _ => trivial) (fun x xs ρ m' hJ => ?_) (fun ρ m' hJ => ?_) _ _ _
    ⟨0, s0, _, _, _, by rw [rngI_len]; omega, rfl, e1, g1, a1⟩
  · obtain ⟨k, s, x1, y1, z1, h1, rfl, h2, g, hs⟩ := hJ
    rw [List.length_cons] at h1
    simp only [ss_lk_plays_1b_0, wp_bd, wp_ret, wp_nope, wp_chk, wp_some, wp_ite, wp_tru, wpF_bs, wpF_nx, wpF_rt, wpF_bk, wpF_ct, wpF_ite, thenF_nx, thenF_rt, thenF_bk, thenF_ct, wpF_nil, wpF_cons, endF_nx, endF_rt, exe, ev, evs, evI, varM, List.getElem?_cons_zero, List.getElem?_cons_succ, List.set_cons_zero, List.set_cons_succ, Bool.false_eq_true, if_true, if_false, ite_true, ite_false, reduceIte, Option.some.injEq, exists_eq_left', exists_eq_left, wp_ixR, ixW_l, ixW_f, wp_ixT, wp_lenR, lenW_l, lenW_f, wp_lenT, wp_tupR, lsW_l, lsW_f, wp_tupT, wp_listT, wp_cmp, cmp_lt, cmp_le, cmp_gt, cmp_ge, cmp_eq, cmp_ne, eqD_int, eqD_bl, cmp_is, cmp_isn, dIs_bl, dIs_tn, dIs_nn, opt_map, decide_eq_true_eq, wp_mod, wp_fdiv, wp_pow, wp_add, wp_sub, wp_mul, wp_mulTI, wp_addT, wp_neg, wp_slT, wp_slR, slW, wp_isLst, lW_l, wp_app, wp_popAt, wp_setR, setW_l, partO, Bool.not_true, Bool.not_false, wp_minI, wp_maxI, wp_intI, wp_intB, wp_absI, wp_srcT, wp_r2, wp_isi, asg_one, asg_two, wp_srcST, isTy_bb, wipe_nil, wipe_cons, at0, at1, ix0, ix1, List.length_nil]
    refine ⟨by omega, wp_new fun sl m3 g3 e3 a3 b3 c3 => ?_⟩
    simp only [ss_lk_plays_1b_1, wp_bd, wp_ret, wp_nope, wp_chk, wp_some, wp_ite, wp_tru, wpF_bs, wpF_nx, wpF_rt, wpF_bk, wpF_ct, wpF_ite, thenF_nx, thenF_rt, thenF_bk, thenF_ct, wpF_nil, wpF_cons, endF_nx, endF_rt, exe, ev, evs, evI, varM, List.getElem?_cons_zero, List.getElem?_cons_succ, List.set_cons_zero, List.set_cons_succ, Bool.false_eq_true, if_true, if_false, ite_true, ite_false, reduceIte, Option.some.injEq, exists_eq_left', exists_eq_left, wp_ixR, ixW_l, ixW_f, wp_ixT, wp_lenR, lenW_l, lenW_f, wp_lenT, wp_tupR, lsW_l, lsW_f, wp_tupT, wp_listT, wp_cmp, cmp_lt, cmp_le, cmp_gt, cmp_ge, cmp_eq, cmp_ne, eqD_int, eqD_bl, cmp_is, cmp_isn, dIs_bl, dIs_tn, dIs_nn, opt_map, decide_eq_true_eq, wp_mod, wp_fdiv, wp_pow, wp_add, wp_sub, wp_mul, wp_mulTI, wp_addT, wp_neg, wp_slT, wp_slR, slW, wp_isLst, lW_l, wp_app, wp_popAt, wp_setR, setW_l, partO, Bool.not_true, Bool.not_false, wp_minI, wp_maxI, wp_intI, wp_intB, wp_absI, wp_srcT, wp_r2, wp_isi, asg_one, asg_two, wp_srcST, isTy_bb, wipe_nil, wipe_cons, at0, at1, ix0, ix1]
    have hs3 := g3.get h2
    rw [wp_srcR hs3]
    have hl2 := lev_len k
    have hp2 := p2 k (by omega)
    refine wpF_loop (a := [(s, _)]) (J := fun ys ρ m'' => ∃ (done rest : List (List Bool)) (sl : Nat) (z : Option D), lev k = done ++ rest ∧ ys = rest.map bsD ∧ ρ = [some (.int many), some (.ref s), some x, some (.ref sl), z] ∧ m''[sl]? = some (.lst ((done.flatMap fun p => [p ++ [false], p ++ [true]]).map bsD)) ∧ m'.length ≤ sl ∧ Ge m3 m'') (fun _ _ _ ⟨_, _, _, _, _, _, _, _, _, h⟩ => h.get hs3) (fun p ys ρ m'' hJ => ?_) (fun ρ m'' hJ => ?_) _ _ _
      ⟨[], _, sl, _, rfl, rfl, rfl, e3, by omega, .refl⟩
    · obtain ⟨done, rest, sl', z, q1, q2, rfl, q3, q4, q5⟩ := hJ
      cases rest with
      | nil => cases q2
      | cons p rest =>
        cases q2
        have lp : p.length = k := lev_mem.mp (by rw [q1]; simp)
        have ld : done.length ≤ 512 := by
          have := congrArg List.length q1
          rw [List.length_append] at this
          omega
        have ea : ∀ b, p.map D.bl ++ [D.bl b] = (p ++ [b]).map D.bl := fun b => by rw [List.map_append]; rfl
        simp only [ss_lk_plays_1b_1b_0, wp_bd, wp_ret, wp_nope, wp_chk, wp_some, wp_ite, wp_tru, wpF_bs, wpF_nx, wpF_rt, wpF_bk, wpF_ct, wpF_ite, thenF_nx, thenF_rt, thenF_bk, thenF_ct, wpF_nil, wpF_cons, endF_nx, endF_rt, exe, ev, evs, evI, varM, List.getElem?_cons_zero, List.getElem?_cons_succ, List.set_cons_zero, List.set_cons_succ, Bool.false_eq_true, if_true, if_false, ite_true, ite_false, reduceIte, Option.some.injEq, exists_eq_left', exists_eq_left, wp_ixR, ixW_l, ixW_f, wp_ixT, wp_lenR, lenW_l, lenW_f, wp_lenT, wp_tupR, lsW_l, lsW_f, wp_tupT, wp_listT, wp_cmp, cmp_lt, cmp_le, cmp_gt, cmp_ge, cmp_eq, cmp_ne, eqD_int, eqD_bl, cmp_is, cmp_isn, dIs_bl, dIs_tn, dIs_nn, opt_map, decide_eq_true_eq, wp_mod, wp_fdiv, wp_pow, wp_add, wp_sub, wp_mul, wp_mulTI, wp_addT, wp_neg, wp_slT, wp_slR, slW, wp_isLst, lW_l, wp_app, wp_popAt, wp_setR, setW_l, partO, Bool.not_true, Bool.not_false, wp_minI, wp_maxI, wp_intI, wp_intB, wp_absI, wp_srcT, wp_r2, wp_isi, asg_one, asg_two, wp_srcST, isTy_bb, wipe_nil, wipe_cons, at0, at1, ix0, ix1, List.length_map, List.length_cons, List.length_nil, ea]
        refine ⟨by decide, by omega, by decide, by omega, by decide, wp_new fun st m4 g4 e4 a4 b4 c4 => ?_⟩
        rw [wp_addL (g4.get q3) e4]
        have hfl := two_len done
        refine ⟨by rw [List.length_map, List.length_cons, List.length_cons, List.length_nil]; omega, wp_new fun su m5 g5 e5 a5 b5 c5 => ?_⟩
        refine ⟨done ++ [p], rest, su, _, by rw [q1]; simp, rfl, rfl, ?_, by have := (g3.trans (q5.trans g4)).1; omega, (q5.trans g4).trans g5⟩
        rw [e5]
        simp only [List.flatMap_append, List.map_append, List.flatMap_cons, List.flatMap_nil, List.append_nil, List.map_cons, List.map_nil, List.cons_append, List.nil_append, bsD]
    · obtain ⟨done, rest, sl', z, q1, q2, rfl, q3, q4, q5⟩ := hJ
      have q2 : rest = [] := by
        cases rest with
        | nil => rfl
        | cons _ _ => cases q2
      subst q2
      rw [List.append_nil] at q1
      simp only [ss_lk_plays_1b_2, wp_bd, wp_ret, wp_nope, wp_chk, wp_some, wp_ite, wp_tru, wpF_bs, wpF_nx, wpF_rt, wpF_bk, wpF_ct, wpF_ite, thenF_nx, thenF_rt, thenF_bk, thenF_ct, wpF_nil, wpF_cons, endF_nx, endF_rt, exe, ev, evs, evI, varM, List.getElem?_cons_zero, List.getElem?_cons_succ, List.set_cons_zero, List.set_cons_succ, Bool.false_eq_true, if_true, if_false, ite_true, ite_false, reduceIte, Option.some.injEq, exists_eq_left', exists_eq_left, wp_ixR, ixW_l, ixW_f, wp_ixT, wp_lenR, lenW_l, lenW_f, wp_lenT, wp_tupR, lsW_l, lsW_f, wp_tupT, wp_listT, wp_cmp, cmp_lt, cmp_le, cmp_gt, cmp_ge, cmp_eq, cmp_ne, eqD_int, eqD_bl, cmp_is, cmp_isn, dIs_bl, dIs_tn, dIs_nn, opt_map, decide_eq_true_eq, wp_mod, wp_fdiv, wp_pow, wp_add, wp_sub, wp_mul, wp_mulTI, wp_addT, wp_neg, wp_slT, wp_slR, slW, wp_isLst, lW_l, wp_app, wp_popAt, wp_setR, setW_l, partO, Bool.not_true, Bool.not_false, wp_minI, wp_maxI, wp_intI, wp_intB, wp_absI, wp_srcT, wp_r2, wp_isi, asg_one, asg_two, wp_srcST, isTy_bb, wipe_nil, wipe_cons, at0, at1, ix0, ix1]
      exact ⟨k + 1, sl', _, _, _, by omega, rfl, by rw [q3, ← q1]; rfl, (g.trans g3).trans q5, by have := g.1; omega⟩
  · obtain ⟨k, s, x1, y1, z1, h1, rfl, h2, g, hs⟩ := hJ
    simp only [ss_lk_plays_2, wp_bd, wp_ret, wp_nope, wp_chk, wp_some, wp_ite, wp_tru, wpF_bs, wpF_nx, wpF_rt, wpF_bk, wpF_ct, wpF_ite, thenF_nx, thenF_rt, thenF_bk, thenF_ct, wpF_nil, wpF_cons, endF_nx, endF_rt, exe, ev, evs, evI, varM, List.getElem?_cons_zero, List.getElem?_cons_succ, List.set_cons_zero, List.set_cons_succ, Bool.false_eq_true, if_true, if_false, ite_true, ite_false, reduceIte, Option.some.injEq, exists_eq_left', exists_eq_left, wp_ixR, ixW_l, ixW_f, wp_ixT, wp_lenR, lenW_l, lenW_f, wp_lenT, wp_tupR, lsW_l, lsW_f, wp_tupT, wp_listT, wp_cmp, cmp_lt, cmp_le, cmp_gt, cmp_ge, cmp_eq, cmp_ne, eqD_int, eqD_bl, cmp_is, cmp_isn, dIs_bl, dIs_tn, dIs_nn, opt_map, decide_eq_true_eq, wp_mod, wp_fdiv, wp_pow, wp_add, wp_sub, wp_mul, wp_mulTI, wp_addT, wp_neg, wp_slT, wp_slR, slW, wp_isLst, lW_l, wp_app, wp_popAt, wp_setR, setW_l, partO, Bool.not_true, Bool.not_false, wp_minI, wp_maxI, wp_intI, wp_intB, wp_absI, wp_srcT, wp_r2, wp_isi, asg_one, asg_two, wp_srcST, isTy_bb, wipe_nil, wipe_cons, at0, at1, ix0, ix1]
    rw [List.length_nil] at h1
    exact ⟨s, rfl, by rw [h2, show k = many by omega], g, hs⟩
def TolF (F : List Bool → D) (kvs : List (D × D)) (done : List (List Bool)) : Prop := kvs.map (·.1) = done.map bsD ∧ ∀ p ∈ done, dLook kvs (kB p) = some (F p)
theorem TolF.nil {F : List Bool → D} : TolF F [] [] := ⟨rfl, fun _ h => by cases h⟩
theorem TolF.len {F : List Bool → D} {kvs : List (D × D)} {done : List (List Bool)} (h : TolF F kvs done) : kvs.length = done.length := by
  have := congrArg List.length h.1
  rwa [List.length_map, List.length_map] at this
theorem wp_dictP {a : Nat} {xs : List D} {kvs : List (D × D)} {Q : D → Mu → Prop} (h : lstAt m a = some xs) (hp : pairsT xs = some kvs) (hn : (kvs.map fun p => kd p.1).Nodup) : wp (biF .dictP [.ref a]) m Q ↔ wp (alc (.dct false kvs)) m Q := by
  have e0 : biF .dictP [.ref a] m = alc (.dct false kvs) m := by
    unfold biF
    dsimp only
    rw [h, Option.bind_some, hp]
    exact if_pos hn
  rw [wp_fun e0]
  rfl
theorem wp_sortK {a : Nat} {fz : Bool} {kvs : List (D × D)} {ys : List D} {Q : D → Mu → Prop} (h : m[a]? = some (.dct fz kvs)) (hs : dSort m (kvs.map (·.1)) = some ys) : wp (biF .sortK [.ref a]) m Q ↔ wp (alc (.lst ys)) m Q := by
  have e0 : biF .sortK [.ref a] m = alc (.lst ys) m := by
    unfold biF
    dsimp only
    rw [h]
    dsimp only
    rw [hs]
  rw [wp_fun e0]
  rfl
end
end Af
namespace Af
open PySem
section
variable {t : Str → Option Fn} {w n : Nat} {m m' : Mu} {bs : List Bool} {ls : List Int} {kb : List Bool} {rss : List (List Int)}
end
end Af
namespace Af
open PySem
section
variable {t : Str → Option Fn} {w n : Nat} {m : Mu}
end
end Af
namespace Af
open PySem
def ss_is_gone_2 : Ss := .cons (.rt (.bi .all (.cons (.compIf [4] (.one 4) (.exp (.var 3)) (.call "is_open" (.cons (.var 4) (.cons (.var 2) .nil))) (.cmp .eq (.ix (.ix (.var 0) (.k (.int 0))) (.bin .sub (.bi .abs (.cons (.var 4) .nil)) (.k (.int 1)))) (.k (.str "all")))) .nil))) .nil
def ss_is_gone_1 : Ss := .cons (.ite (.call "is_kept" (.cons (.var 3) (.cons (.var 2) .nil))) (.cons (.rt (.k (.bl false))) .nil) .nil) ss_is_gone_2
def ss_is_gone_0 : Ss := .cons (.set 3 (.ix (.ix (.var 0) (.k (.int 1))) (.var 1))) ss_is_gone_1
def fn_is_gone : Fn := ⟨3, 5, ss_is_gone_0⟩
def ss_gone_rows_0 : Ss := .cons (.rt (.compIf [2] (.one 2) (.rng1 (.bi .len (.cons (.ix (.var 0) (.k (.int 1))) .nil))) (.call "is_gone" (.cons (.var 0) (.cons (.var 2) (.cons (.var 1) .nil)))) (.var 2))) .nil
def fn_gone_rows : Fn := ⟨2, 3, ss_gone_rows_0⟩
def ss_end_of_2 : Ss := .cons (.rt (.ite (.cmp .ne (.var 3) (.lst .nil)) (.tup (.cons (.k (.str "lost")) (.cons (.ix (.var 3) (.k (.int 0))) .nil))) (.k .non))) .nil
def ss_end_of_1 : Ss := .cons (.set 3 (.call "gone_rows" (.cons (.var 0) (.cons (.var 2) .nil)))) ss_end_of_2
def ss_end_of_0 : Ss := .cons (.ite (.cmp .eq (.var 1) (.k (.str "some"))) (.cons (.rt (.ite (.call "all_kept" (.cons (.var 0) (.cons (.var 2) .nil))) (.tup (.cons (.k (.str "kept")) .nil)) (.k .non))) .nil) .nil) ss_end_of_1
def fn_end_of : Fn := ⟨3, 4, ss_end_of_0⟩
def ss_planned_4 : Ss := .cons (.rt (.tup (.cons (.k (.str "pick")) (.cons (.var 4) (.cons (.call "planned" (.cons (.var 0) (.cons (.var 1) (.cons (.bin .add (.var 2) (.tup (.cons (.var 4) .nil))) .nil)))) .nil))))) .nil
def ss_planned_3 : Ss := .cons (.set 4 (.cmp .eq (.call "winner" (.cons (.var 0) (.cons (.bin .add (.var 2) (.tup (.cons (.k (.bl true)) .nil))) .nil))) (.var 1))) ss_planned_4
def ss_planned_2 : Ss := .cons (.ite (.cmp .ne (.ix (.ix (.var 0) (.k (.int 0))) (.bi .len (.cons (.var 2) .nil))) (.var 1)) (.cons (.rt (.tup (.cons (.k (.str "each")) (.cons (.call "planned" (.cons (.var 0) (.cons (.var 1) (.cons (.bin .add (.var 2) (.tup (.cons (.k (.bl false)) .nil))) .nil)))) (.cons (.call "planned" (.cons (.var 0) (.cons (.var 1) (.cons (.bin .add (.var 2) (.tup (.cons (.k (.bl true)) .nil))) .nil)))) .nil))))) .nil) .nil) ss_planned_3
def ss_planned_1 : Ss := .cons (.ite (.cmp .isn (.var 3) (.k .non)) (.cons (.rt (.var 3)) .nil) .nil) ss_planned_2
def ss_planned_0 : Ss := .cons (.set 3 (.call "end_of" (.cons (.var 0) (.cons (.var 1) (.cons (.var 2) .nil))))) ss_planned_1
def fn_planned : Fn := ⟨3, 5, ss_planned_0⟩
def ss_plan_1 : Ss := .cons (.rt (.tup (.cons (.var 1) (.cons (.call "planned" (.cons (.var 0) (.cons (.var 1) (.cons (.tup .nil) .nil)))) .nil)))) .nil
def ss_plan_0 : Ss := .cons (.set 1 (.call "winner" (.cons (.var 0) (.cons (.tup .nil) .nil)))) ss_plan_1
def fn_plan : Fn := ⟨1, 2, ss_plan_0⟩
def ss_law_gone_2 : Ss := .cons (.rt (.cmp .nin (.k (.str "some")) (.comp [5] (.one 5) (.exp (.var 3)) (.ix (.ix (.var 0) (.k (.int 0))) (.bin .sub (.var 5) (.k (.int 1))))))) .nil
def ss_law_gone_1 : Ss := .cons (.set 3 (.compIf [4] (.one 4) (.exp (.ix (.ix (.var 0) (.k (.int 1))) (.var 1))) (.cmp .gt (.bi .abs (.cons (.var 4) .nil)) (.bi .len (.cons (.var 2) .nil))) (.bi .abs (.cons (.var 4) .nil)))) ss_law_gone_2
def ss_law_gone_0 : Ss := .cons (.ite (.call "_law_kept" (.cons (.ix (.ix (.var 0) (.k (.int 1))) (.var 1)) (.cons (.var 2) .nil))) (.cons (.rt (.k (.bl false))) .nil) .nil) ss_law_gone_1
def fn_law_gone : Fn := ⟨3, 6, ss_law_gone_0⟩
def ss_law_is_plan_8 : Ss := .cons (.rt (.call "_law_is_plan" (.cons (.var 0) (.cons (.var 1) (.cons (.bin .add (.var 2) (.tup (.cons (.k (.bl true)) .nil))) (.cons (.ix (.var 3) (.k (.int 2))) .nil)))))) .nil
def ss_law_is_plan_7 : Ss := .cons (.ite (.not (.call "_law_is_plan" (.cons (.var 0) (.cons (.var 1) (.cons (.bin .add (.var 2) (.tup (.cons (.k (.bl false)) .nil))) (.cons (.ix (.var 3) (.k (.int 1))) .nil)))))) (.cons (.rt (.k (.bl false))) .nil) .nil) ss_law_is_plan_8
def ss_law_is_plan_6 : Ss := .cons (.ite (.or (.cmp .ne (.ix (.var 3) (.k (.int 0))) (.k (.str "each"))) (.var 6)) (.cons (.rt (.k (.bl false))) .nil) .nil) ss_law_is_plan_7
def ss_law_is_plan_5 : Ss := .cons (.ite (.and (.cmp .eq (.ix (.var 3) (.k (.int 0))) (.k (.str "pick"))) (.var 6)) (.cons (.rt (.and (.isi .bool (.ix (.var 3) (.k (.int 1)))) (.call "_law_is_plan" (.cons (.var 0) (.cons (.var 1) (.cons (.bin .add (.var 2) (.tup (.cons (.ix (.var 3) (.k (.int 1))) .nil))) (.cons (.ix (.var 3) (.k (.int 2))) .nil))))))) .nil) .nil) ss_law_is_plan_6
def ss_law_is_plan_4 : Ss := .cons (.set 6 (.cmp .eq (.ix (.ix (.var 0) (.k (.int 0))) (.bi .len (.cons (.var 2) .nil))) (.var 1))) ss_law_is_plan_5
def ss_law_is_plan_3 : Ss := .cons (.ite (.or (.cmp .ne (.bi .len (.cons (.var 3) .nil)) (.k (.int 3))) (.cmp .eq (.bi .len (.cons (.var 2) .nil)) (.bi .len (.cons (.ix (.var 0) (.k (.int 0))) .nil)))) (.cons (.rt (.k (.bl false))) .nil) .nil) ss_law_is_plan_4
def ss_law_is_plan_2 : Ss := .cons (.ite (.cmp .eq (.ix (.var 3) (.k (.int 0))) (.k (.str "lost"))) (.cons (.ite (.or (.cmp .ne (.bi .len (.cons (.var 3) .nil)) (.k (.int 2))) (.or (.cmp .ne (.var 1) (.k (.str "all"))) (.not (.call "_law_whole" (.cons (.ix (.var 3) (.k (.int 1))) .nil))))) (.cons (.rt (.k (.bl false))) .nil) .nil) (.cons (.ite (.not (.chn .le .lt (.k (.int 0)) (.ix (.var 3) (.k (.int 1))) (.bi .len (.cons (.ix (.var 0) (.k (.int 1))) .nil)))) (.cons (.rt (.k (.bl false))) .nil) .nil) (.cons (.rt (.call "_law_gone" (.cons (.var 0) (.cons (.ix (.var 3) (.k (.int 1))) (.cons (.var 2) .nil))))) .nil))) .nil) ss_law_is_plan_3
def ss_law_is_plan_1 : Ss := .cons (.ite (.cmp .eq (.ix (.var 3) (.k (.int 0))) (.k (.str "kept"))) (.cons (.set 4 (.comp [5] (.one 5) (.exp (.ix (.var 0) (.k (.int 1)))) (.call "_law_kept" (.cons (.var 5) (.cons (.var 2) .nil))))) (.cons (.rt (.and (.cmp .eq (.bi .len (.cons (.var 3) .nil)) (.k (.int 1))) (.and (.cmp .eq (.var 1) (.k (.str "some"))) (.cmp .nin (.k (.bl false)) (.var 4))))) .nil)) .nil) ss_law_is_plan_2
def ss_law_is_plan_0 : Ss := .cons (.ite (.or (.not (.isi .tuple (.var 3))) (.or (.cmp .eq (.var 3) (.tup .nil)) (.not (.isi .str (.ix (.var 3) (.k (.int 0))))))) (.cons (.rt (.k (.bl false))) .nil) .nil) ss_law_is_plan_1
def fn_law_is_plan : Fn := ⟨4, 7, ss_law_is_plan_0⟩
def goneB (kb bs : List Bool) (ls : List Int) : Bool := !keptB bs ls && (ls.filter (openB bs)).all fun l => !kAt kb (l.natAbs - 1)
abbrev keptT : D := .tup [.str "kept"]
abbrev lostT (k : Nat) : D := .tup [.str "lost", .int k]
abbrev eachT (a b : D) : D := .tup [.str "each", a, b]
abbrev pickT (b : Bool) (a : D) : D := .tup [.str "pick", .bl b, a]
def EndR (kb : List Bool) (rss : List (List Int)) (side : Bool) (bs : List Bool) (d : D) : Prop :=
  (side = true ∧ rss.all (keptB bs) = true ∧ d = keptT) ∨ (side = false ∧ ∃ (k : Nat) (ls : List Int), rss[k]? = some ls ∧ goneB kb bs ls = true ∧ d = lostT k)
def PlanR (kb : List Bool) (rss : List (List Int)) (side : Bool) : Nat → List Bool → D → Prop
  | 0, bs, d => EndR kb rss side bs d
  | f + 1, bs, d => EndR kb rss side bs d ∨ (kAt kb bs.length ≠ side ∧ ∃ a b, d = eachT a b ∧ PlanR kb rss side f (bs ++ [false]) a ∧ PlanR kb rss side f (bs ++ [true]) b) ∨
    (kAt kb bs.length = side ∧ ∃ (t : Bool) (a : D), d = pickT t a ∧ PlanR kb rss side f (bs ++ [t]) a)
structure Pln (t : Str → Option Fn) : Prop where
  gone : t "is_gone" = some fn_is_gone
  rows : t "gone_rows" = some fn_gone_rows
  endf : t "end_of" = some fn_end_of
  planned : t "planned" = some fn_planned
  plan : t "plan" = some fn_plan
structure Pln0 (t : Str → Option Fn) : Prop where
  gone : t "is_gone" = some fn_is_gone
  rows : t "gone_rows" = some fn_gone_rows
  endf : t "end_of" = some fn_end_of
theorem Pln.p0 {t : Str → Option Fn} (P : Pln t) : Pln0 t := ⟨P.gone, P.rows, P.endf⟩
structure Lpl (t : Str → Option Fn) : Prop where
  gone : t "_law_gone" = some fn_law_gone
  isp : t "_law_is_plan" = some fn_law_is_plan
section
variable {t : Str → Option Fn} {w n : Nat} {m : Mu} {bs : List Bool} {ls : List Int} {kb : List Bool} {rss : List (List Int)}
theorem EndR.ne {side : Bool} {d : D} (h : EndR kb rss side bs d) : ∃ s r, d = .tup (.str s :: r) := by
  rcases h with ⟨_, _, rfl⟩ | ⟨_, _, _, _, _, rfl⟩ <;> exact ⟨_, _, rfl⟩
theorem plan_pd {side : Bool} : ∀ (f : Nat) (bs : List Bool) (d : D) (g : Nat), PlanR kb rss side f bs d → f + 2 ≤ g → ∃ x, pd m g d = some x := by
  have hs : ∀ (s : Str) (g : Nat), PyData.strOk s = true → pd m g (.str s) = some (.str s) := fun s g h => by
    have e : pd m g (.str s) = if PyData.strOk s = true then some (.str s) else none := by cases g <;> rfl
    rw [e, if_pos h]
  have he : ∀ (bs : List Bool) (d : D) (g : Nat), EndR kb rss side bs d → 2 ≤ g → ∃ x, pd m g d = some x := by
    intro bs d g h hg
    obtain ⟨g, rfl⟩ : ∃ k, g = k + 1 := ⟨g - 1, by omega⟩
    rcases h with ⟨_, _, rfl⟩ | ⟨_, k, _, _, _, rfl⟩
    · obtain ⟨ys, e⟩ := mapO_all (f := pd m g) (xs := [.str "kept"]) fun x hx => by rw [List.mem_singleton.mp hx]; exact ⟨_, hs _ _ (by decide +kernel)⟩
      rw [pd_t, e]
      exact ⟨_, rfl⟩
    · obtain ⟨ys, e⟩ := mapO_all (f := pd m g) (xs := [.str "lost", .int k]) fun x hx => by
        simp only [List.mem_cons, List.not_mem_nil, or_false] at hx
        rcases hx with rfl | rfl
        · exact ⟨_, hs _ _ (by decide +kernel)⟩
        · exact ⟨.int k, by cases g <;> rfl⟩
      rw [pd_t, e]
      exact ⟨_, rfl⟩
  intro f
  induction f with
  | zero => exact fun bs d g h hg => he bs d g h hg
  | succ f ih =>
    intro bs d g h hg
    rcases h with h | ⟨_, a, b, rfl, ha, hb⟩ | ⟨_, u, a, rfl, ha⟩
    · exact he bs d g h (by omega)
    · obtain ⟨g, rfl⟩ : ∃ k, g = k + 1 := ⟨g - 1, by omega⟩
      obtain ⟨ys, e⟩ := mapO_all (f := pd m g) (xs := [.str "each", a, b]) fun x hx => by
        simp only [List.mem_cons, List.not_mem_nil, or_false] at hx
        rcases hx with rfl | rfl | rfl
        · exact ⟨_, hs _ _ (by decide +kernel)⟩
        · exact ih _ _ g ha (by omega)
        · exact ih _ _ g hb (by omega)
      rw [pd_t, e]
      exact ⟨_, rfl⟩
    · obtain ⟨g, rfl⟩ : ∃ k, g = k + 1 := ⟨g - 1, by omega⟩
      obtain ⟨ys, e⟩ := mapO_all (f := pd m g) (xs := [.str "pick", .bl u, a]) fun x hx => by
        simp only [List.mem_cons, List.not_mem_nil, or_false] at hx
        rcases hx with rfl | rfl | rfl
        · exact ⟨_, hs _ _ (by decide +kernel)⟩
        · exact ⟨.bool u, by cases g <;> rfl⟩
        · exact ih _ _ g ha (by omega)
      rw [pd_t, e]
      exact ⟨_, rfl⟩
end
end Af
namespace Af
open PySem
def lostP (kb : List Bool) (rss : List (List Int)) (side : Bool) (bs : List Bool) : List D → Bool
  | [.int i] => !side && (decide (0 ≤ i) && (decide (i < rss.length) && goneB kb bs (rss.getD i.toNat [])))
  | _ => false
def endP (kb : List Bool) (rss : List (List Int)) (side : Bool) (bs : List Bool) : D → Bool
  | .tup (.str s :: rest) => if s == "kept" then rest.isEmpty && (side && rss.all (keptB bs)) else if s == "lost" then lostP kb rss side bs rest else false
  | _ => false
def pickP (rc : Bool → D → Bool) : D → D → Bool
  | .bl u, b => rc u b
  | _, _ => false
def nodeP (own : Bool) (rc : Bool → D → Bool) : D → Bool
  | .tup [.str s, a, b] => if s == "pick" then own && pickP rc a b
    else if s == "each" then !own && (rc false a && rc true b)
    else false
  | _ => false
def planB (kb : List Bool) (rss : List (List Int)) (side : Bool) : Nat → List Bool → D → Bool
  | 0, bs, d => endP kb rss side bs d
  | f + 1, bs, d => endP kb rss side bs d || nodeP (kAt kb bs.length == side) (fun u e => planB kb rss side f (bs ++ [u]) e) d
section
variable {t : Str → Option Fn} {w n : Nat} {m : Mu} {bs : List Bool} {ls : List Int} {kb : List Bool} {rss : List (List Int)}
theorem endP_cons {side : Bool} {s : Str} {rest : List D} : endP kb rss side bs (.tup (.str s :: rest)) = if s == "kept" then rest.isEmpty && (side && rss.all (keptB bs)) else if s == "lost" then lostP kb rss side bs rest else false := rfl
theorem EndR.b {side : Bool} {d : D} (h : EndR kb rss side bs d) : endP kb rss side bs d = true := by
  rcases h with ⟨rfl, h, rfl⟩ | ⟨rfl, k, ls, h1, h2, rfl⟩
  · rw [endP_cons, if_pos (by decide), h]
    rfl
  · rw [endP_cons, if_neg (by decide), if_pos (by decide)]
    have hk := (List.getElem?_eq_some_iff.mp h1).1
    show (!false && (decide ((0 : Int) ≤ k) && (decide ((k : Int) < rss.length) && goneB kb bs (rss.getD (k : Int).toNat [])))) = true
    rw [decide_eq_true (by omega), decide_eq_true (by omega), Int.toNat_natCast, List.getD_eq_getElem?_getD, h1]
    exact h2
theorem PlanR.b {side : Bool} : ∀ (f : Nat) (bs : List Bool) (d : D), PlanR kb rss side f bs d → planB kb rss side f bs d = true
  | 0, bs, d, h => EndR.b h
  | f + 1, bs, d, h => by
    rcases h with h | ⟨c, a, b, rfl, ha, hb⟩ | ⟨c, u, a, rfl, ha⟩
    · unfold planB
      rw [EndR.b h]
      rfl
    · unfold planB
      rw [Bool.or_eq_true]
      refine .inr ?_
      show (if ("each" : Str) == "pick" then (kAt kb bs.length == side) && pickP (fun u e => planB kb rss side f (bs ++ [u]) e) a b else if ("each" : Str) == "each" then !(kAt kb bs.length == side) && (planB kb rss side f (bs ++ [false]) a && planB kb rss side f (bs ++ [true]) b) else false) = true
      rw [if_neg (by decide), if_pos (by decide), PlanR.b f _ _ ha, PlanR.b f _ _ hb, beq_eq_false_iff_ne.mpr c]
      rfl
    · unfold planB
      rw [Bool.or_eq_true]
      refine .inr ?_
      show (if ("pick" : Str) == "pick" then kAt kb bs.length == side && planB kb rss side f (bs ++ [u]) a else if ("pick" : Str) == "each" then !(kAt kb bs.length == side) && (planB kb rss side f (bs ++ [false]) (.bl u) && planB kb rss side f (bs ++ [true]) a) else false) = true
      rw [if_pos (by decide), PlanR.b f _ _ ha, c]
      cases side <;> rfl
end
end Af
namespace Af
open PySem
def ss_is_end_2 : Ss := .cons (.rt (.call "is_gone" (.cons (.var 0) (.cons (.ix (.var 3) (.k (.int 1))) (.cons (.var 2) .nil))))) .nil
def ss_is_end_1 : Ss := .cons (.ite (.or (.cmp .ne (.var 1) (.k (.str "all"))) (.or (.cmp .ne (.bi .len (.cons (.var 3) .nil)) (.k (.int 2))) (.or (.not (.call "is_whole" (.cons (.ix (.var 3) (.k (.int 1))) .nil))) (.not (.chn .le .lt (.k (.int 0)) (.ix (.var 3) (.k (.int 1))) (.bi .len (.cons (.ix (.var 0) (.k (.int 1))) .nil))))))) (.cons (.rt (.k (.bl false))) .nil) .nil) ss_is_end_2
def ss_is_end_0 : Ss := .cons (.ite (.cmp .eq (.ix (.var 3) (.k (.int 0))) (.k (.str "kept"))) (.cons (.rt (.and (.cmp .eq (.var 1) (.k (.str "some"))) (.and (.cmp .eq (.bi .len (.cons (.var 3) .nil)) (.k (.int 1))) (.call "all_kept" (.cons (.var 0) (.cons (.var 2) .nil)))))) .nil) .nil) ss_is_end_1
def fn_is_end : Fn := ⟨4, 4, ss_is_end_0⟩
def ss_is_planned_6 : Ss := .cons (.rt (.call "is_planned" (.cons (.var 0) (.cons (.var 1) (.cons (.bin .add (.var 2) (.tup (.cons (.k (.bl true)) .nil))) (.cons (.ix (.var 3) (.k (.int 2))) .nil)))))) .nil
def ss_is_planned_5 : Ss := .cons (.ite (.not (.call "is_planned" (.cons (.var 0) (.cons (.var 1) (.cons (.bin .add (.var 2) (.tup (.cons (.k (.bl false)) .nil))) (.cons (.ix (.var 3) (.k (.int 1))) .nil)))))) (.cons (.rt (.k (.bl false))) .nil) .nil) ss_is_planned_6
def ss_is_planned_4 : Ss := .cons (.ite (.cmp .eq (.ix (.var 3) (.k (.int 0))) (.k (.str "pick"))) (.cons (.rt (.and (.isi .bool (.ix (.var 3) (.k (.int 1)))) (.call "is_planned" (.cons (.var 0) (.cons (.var 1) (.cons (.bin .add (.var 2) (.tup (.cons (.ix (.var 3) (.k (.int 1))) .nil))) (.cons (.ix (.var 3) (.k (.int 2))) .nil))))))) .nil) .nil) ss_is_planned_5
def ss_is_planned_3 : Ss := .cons (.ite (.cmp .ne (.cmp .eq (.ix (.var 3) (.k (.int 0))) (.k (.str "pick"))) (.cmp .eq (.ix (.ix (.var 0) (.k (.int 0))) (.bi .len (.cons (.var 2) .nil))) (.var 1))) (.cons (.rt (.k (.bl false))) .nil) .nil) ss_is_planned_4
def ss_is_planned_2 : Ss := .cons (.ite (.or (.cmp .nin (.ix (.var 3) (.k (.int 0))) (.tup (.cons (.k (.str "pick")) (.cons (.k (.str "each")) .nil)))) (.or (.cmp .ne (.bi .len (.cons (.var 3) .nil)) (.k (.int 3))) (.cmp .eq (.bi .len (.cons (.var 2) .nil)) (.bi .len (.cons (.ix (.var 0) (.k (.int 0))) .nil))))) (.cons (.rt (.k (.bl false))) .nil) .nil) ss_is_planned_3
def ss_is_planned_1 : Ss := .cons (.ite (.cmp .«in» (.ix (.var 3) (.k (.int 0))) (.tup (.cons (.k (.str "kept")) (.cons (.k (.str "lost")) .nil)))) (.cons (.rt (.call "is_end" (.cons (.var 0) (.cons (.var 1) (.cons (.var 2) (.cons (.var 3) .nil)))))) .nil) .nil) ss_is_planned_2
def ss_is_planned_0 : Ss := .cons (.ite (.or (.not (.isi .tuple (.var 3))) (.or (.cmp .eq (.bi .len (.cons (.var 3) .nil)) (.k (.int 0))) (.not (.isi .str (.ix (.var 3) (.k (.int 0))))))) (.cons (.rt (.k (.bl false))) .nil) .nil) ss_is_planned_1
def fn_is_planned : Fn := ⟨4, 4, ss_is_planned_0⟩
def ss_is_plan_0 : Ss := .cons (.rt (.call "is_planned" (.cons (.var 0) (.cons (.var 1) (.cons (.tup .nil) (.cons (.var 2) .nil)))))) .nil
def fn_is_plan : Fn := ⟨3, 3, ss_is_plan_0⟩
structure Ipl (t : Str → Option Fn) : Prop where
  whole : t "is_whole" = some fn_is_whole
  right : t "is_right" = some fn_is_right
  opn : t "is_open" = some fn_is_open
  kept : t "is_kept" = some fn_is_kept
  allk : t "all_kept" = some fn_all_kept
  gone : t "is_gone" = some fn_is_gone
  ende : t "is_end" = some fn_is_end
  planned : t "is_planned" = some fn_is_planned
  plan : t "is_plan" = some fn_is_plan
section
variable {t : Str → Option Fn} {w n : Nat} {m : Mu} {bs : List Bool} {ls : List Int} {kb : List Bool} {rss : List (List Int)}
theorem EndR.pd {side : Bool} {d : D} {g : Nat} (h : EndR kb rss side bs d) (hg : 2 ≤ g) : ∃ x, Af.pd m g d = some x := plan_pd (f := 0) (kb := kb) (rss := rss) (side := side) bs d g h hg
end
end Af
namespace Af
open PySem
def ss_ends_2 : Ss := .cons (.rt (.bin .add (.call "ends" (.cons (.ix (.var 0) (.k (.int 1))) .nil)) (.call "ends" (.cons (.ix (.var 0) (.k (.int 2))) .nil)))) .nil
def ss_ends_1 : Ss := .cons (.ite (.cmp .eq (.ix (.var 0) (.k (.int 0))) (.k (.str "pick"))) (.cons (.rt (.call "ends" (.cons (.ix (.var 0) (.k (.int 2))) .nil))) .nil) .nil) ss_ends_2
def ss_ends_0 : Ss := .cons (.ite (.cmp .«in» (.ix (.var 0) (.k (.int 0))) (.tup (.cons (.k (.str "kept")) (.cons (.k (.str "lost")) .nil)))) (.cons (.rt (.k (.int 1))) .nil) .nil) ss_ends_1
def fn_ends : Fn := ⟨1, 1, ss_ends_0⟩
def ss_least_behind_5b_0 : Ss := .cons (.ite (.cmp .eq (.call "winner" (.cons (.var 0) (.cons (.var 7) .nil))) (.var 1)) (.cons (.setT [9, 10] (.call "least_behind" (.cons (.var 0) (.cons (.var 1) (.cons (.var 7) .nil))))) (.cons (.ite (.or (.cmp .is (.var 8) (.k .non)) (.cmp .lt (.var 9) (.ix (.var 8) (.k (.int 0))))) (.cons (.set 8 (.tup (.cons (.var 9) (.cons (.tup (.cons (.k (.str "pick")) (.cons (.ix (.var 7) (.neg (.k (.int 1)))) (.cons (.var 10) .nil)))) .nil)))) .nil) .nil) .nil)) .nil) .nil
def ss_least_behind_6 : Ss := .cons (.rt (.var 8)) .nil
def ss_least_behind_5 : Ss := .cons (.for (.one 7) (.exp (.var 4)) ss_least_behind_5b_0) ss_least_behind_6
def ss_least_behind_4 : Ss := .cons (.set 8 (.k .non)) ss_least_behind_5
def ss_least_behind_3 : Ss := .cons (.ite (.cmp .ne (.ix (.ix (.var 0) (.k (.int 0))) (.bi .len (.cons (.var 2) .nil))) (.var 1)) (.cons (.setT [5, 6] (.comp [7] (.one 7) (.exp (.var 4)) (.call "least_behind" (.cons (.var 0) (.cons (.var 1) (.cons (.var 7) .nil)))))) (.cons (.rt (.tup (.cons (.bin .add (.ix (.var 5) (.k (.int 0))) (.ix (.var 6) (.k (.int 0)))) (.cons (.tup (.cons (.k (.str "each")) (.cons (.ix (.var 5) (.k (.int 1))) (.cons (.ix (.var 6) (.k (.int 1))) .nil)))) .nil)))) .nil)) .nil) ss_least_behind_4
def ss_least_behind_2 : Ss := .cons (.set 4 (.lst (.cons (.bin .add (.var 2) (.tup (.cons (.k (.bl false)) .nil))) (.cons (.bin .add (.var 2) (.tup (.cons (.k (.bl true)) .nil))) .nil)))) ss_least_behind_3
def ss_least_behind_1 : Ss := .cons (.ite (.cmp .isn (.var 3) (.k .non)) (.cons (.rt (.tup (.cons (.k (.int 1)) (.cons (.var 3) .nil)))) .nil) .nil) ss_least_behind_2
def ss_least_behind_0 : Ss := .cons (.set 3 (.call "end_of" (.cons (.var 0) (.cons (.var 1) (.cons (.var 2) .nil))))) ss_least_behind_1
def fn_least_behind : Fn := ⟨3, 11, ss_least_behind_0⟩
def ss_least_plan_2 : Ss := .cons (.rt (.tup (.cons (.var 1) (.cons (.var 2) (.cons (.var 3) .nil))))) .nil
def ss_least_plan_1 : Ss := .cons (.setT [2, 3] (.call "least_behind" (.cons (.var 0) (.cons (.var 1) (.cons (.tup .nil) .nil))))) ss_least_plan_2
def ss_least_plan_0 : Ss := .cons (.set 1 (.call "winner" (.cons (.var 0) (.cons (.tup .nil) .nil)))) ss_least_plan_1
def fn_least_plan : Fn := ⟨1, 4, ss_least_plan_0⟩
section
variable {m : Mu} {Q : D → Mu → Prop}
end
def Cnt : Nat → D → Nat → Prop
  | 0, d, c => (d = keptT ∨ ∃ k, d = lostT k) ∧ c = 1
  | f + 1, d, c => ((d = keptT ∨ ∃ k, d = lostT k) ∧ c = 1) ∨ (∃ a b ca cb, d = eachT a b ∧ c = ca + cb ∧ Cnt f a ca ∧ Cnt f b cb) ∨ (∃ u a, d = pickT u a ∧ Cnt f a c)
theorem Cnt.tup : ∀ {f : Nat} {d : D} {c : Nat}, Cnt f d c → isTup d = true
  | 0, d, c, h => by rcases h with ⟨rfl | ⟨k, rfl⟩, _⟩ <;> rfl
  | f + 1, d, c, h => by rcases h with ⟨rfl | ⟨k, rfl⟩, _⟩ | ⟨a, b, ca, cb, rfl, _⟩ | ⟨u, a, rfl, _⟩ <;> rfl
theorem Cnt.up : ∀ {f : Nat} {d : D} {c : Nat}, Cnt f d c → Cnt (f + 1) d c
  | 0, d, c, h => .inl h
  | f + 1, d, c, h => by
    rcases h with h | ⟨a, b, ca, cb, h1, h2, h3, h4⟩ | ⟨u, a, h1, h2⟩
    · exact .inl h
    · exact .inr (.inl ⟨a, b, ca, cb, h1, h2, h3.up, h4.up⟩)
    · exact .inr (.inr ⟨u, a, h1, h2.up⟩)
section
variable {t : Str → Option Fn} {w n : Nat} {m : Mu}
end
def PlanN (kb : List Bool) (rss : List (List Int)) (side : Bool) : Nat → List Bool → D → Nat → Prop
  | 0, bs, d, c => EndR kb rss side bs d ∧ c = 1
  | f + 1, bs, d, c => (EndR kb rss side bs d ∧ c = 1) ∨ (kAt kb bs.length ≠ side ∧ ∃ a b ca cb, d = eachT a b ∧ c = ca + cb ∧ PlanN kb rss side f (bs ++ [false]) a ca ∧ PlanN kb rss side f (bs ++ [true]) b cb) ∨
    (kAt kb bs.length = side ∧ ∃ (t : Bool) (a : D), d = pickT t a ∧ PlanN kb rss side f (bs ++ [t]) a c)
section
variable {kb : List Bool} {rss : List (List Int)} {side : Bool}
theorem EndR.shape {bs : List Bool} {d : D} (h : EndR kb rss side bs d) : d = keptT ∨ ∃ k, d = lostT k := by
  rcases h with ⟨_, _, rfl⟩ | ⟨_, k, _, _, _, rfl⟩
  · exact .inl rfl
  · exact .inr ⟨k, rfl⟩
theorem PlanN.cnt : ∀ {f : Nat} {bs : List Bool} {d : D} {c : Nat}, PlanN kb rss side f bs d c → Cnt f d c
  | 0, bs, d, c, h => ⟨h.1.shape, h.2⟩
  | f + 1, bs, d, c, h => by
    rcases h with ⟨h, e⟩ | ⟨_, a, b, ca, cb, h1, h2, h3, h4⟩ | ⟨_, u, a, h1, h2⟩
    · exact .inl ⟨h.shape, e⟩
    · exact .inr (.inl ⟨a, b, ca, cb, h1, h2, h3.cnt, h4.cnt⟩)
    · exact .inr (.inr ⟨u, a, h1, h2.cnt⟩)
end
def stopB (kb : List Bool) (rss : List (List Int)) (side : Bool) (bs : List Bool) : Bool := if side then rss.all (keptB bs) else rss.any (goneB kb bs)
structure Lst0 (t : Str → Option Fn) : Prop where
  behind : t "least_behind" = some fn_least_behind
  plan : t "least_plan" = some fn_least_plan
structure Lst (t : Str → Option Fn) : Prop where
  ends : t "ends" = some fn_ends
  behind : t "least_behind" = some fn_least_behind
  plan : t "least_plan" = some fn_least_plan
theorem Lst.l0 {t : Str → Option Fn} (L : Lst t) : Lst0 t := ⟨L.behind, L.plan⟩
section
variable {t : Str → Option Fn} {w n : Nat} {m : Mu} {bs : List Bool} {kb : List Bool} {rss : List (List Int)}
theorem EndR.stop {side : Bool} {d : D} (h : EndR kb rss side bs d) : stopB kb rss side bs = true := by
  rcases h with ⟨rfl, h, _⟩ | ⟨rfl, k, ls, h1, h2, _⟩
  · exact h
  · show rss.any (goneB kb bs) = true
    rw [List.any_eq_true]
    exact ⟨ls, List.mem_of_getElem? h1, h2⟩
end
end Af
namespace Af
open PySem
section
variable {kb : List Bool} {rss rss' : List (List Int)} {side : Bool} {bs : List Bool} {ls : List Int} {f : Nat}
theorem row_uniq : ∀ {ls : List Int}, (ls.map Int.natAbs).Pairwise (· < ·) → ∀ {a b : Int}, a ∈ ls → b ∈ ls → a.natAbs = b.natAbs → a = b
  | [], _, _, _, h, _, _ => by cases h
  | x :: r, h, a, b, ha, hb, e => by
    rw [List.map_cons, List.pairwise_cons] at h
    rcases List.mem_cons.mp ha with rfl | ha' <;> rcases List.mem_cons.mp hb with rfl | hb'
    · rfl
    · have := h.1 _ (List.mem_map_of_mem hb')
      omega
    · have := h.1 _ (List.mem_map_of_mem ha')
      omega
    · exact row_uniq h.2 ha' hb' e
def mulB (side : Bool) : List Bool → Nat
  | [] => 1
  | k :: r => (if k == side then 1 else 2) * mulB side r
def tg : Nat → List Bool → List Bool
  | _, [] => []
  | 0, b :: r => (!b) :: r
  | j + 1, b :: r => b :: tg j r
end
end Af
namespace Af
open PySem
section
variable {t : Str → Option Fn} {w n : Nat} {m : Mu} {r : Nat}
theorem sortA_le (ls : List Int) : (sortA ls).Pairwise fun a b => a.natAbs ≤ b.natAbs := by
  unfold sortA
  have e : PySem.W.dataLe false absD = fun a b : Int => decide ((a.natAbs : Int) ≤ b.natAbs) := PySem.W.dataLe_int fun i : Int => (i.natAbs : Int)
  rw [e]
  have := List.pairwise_mergeSort (le := fun a b : Int => decide ((a.natAbs : Int) ≤ b.natAbs)) (fun a b c h1 h2 => by
    have h1 := of_decide_eq_true h1
    have h2 := of_decide_eq_true h2
    exact decide_eq_true (by omega)) (fun a b => by
    by_cases c : (a.natAbs : Int) ≤ b.natAbs
    · rw [decide_eq_true c]; rfl
    · rw [decide_eq_true (show (b.natAbs : Int) ≤ a.natAbs by omega), Bool.or_true]) ls
  exact this.imp fun h => by have := of_decide_eq_true h; omega
theorem sortA_perm (ls : List Int) : (sortA ls).Perm ls := List.mergeSort_perm _ _
theorem sortA_mem {ls : List Int} {l : Int} : l ∈ sortA ls ↔ l ∈ ls := (sortA_perm ls).mem_iff
theorem row_fewer {many : Int} {ls ls' : List Int} (h : RowL many ls) (hs : ls'.Sublist ls) : RowL many ls' :=
  ⟨h.1.sublist (hs.map _), fun l hl => h.2 l (hs.subset hl)⟩
theorem cut_map {α β : Type} {f : α → β} {xs : List α} {lo hi : Option Int} : cut (xs.map f) lo hi = (cut xs lo hi).map f := by
  unfold cut
  rw [List.length_map, List.map_take, List.map_drop]
end
end Af
namespace Af
open PySem
section
variable {m : Mu} {Q : D → Mu → Prop}
theorem wp_hasK {k : Int} {a : Nat} {kvs : List (Int × D)} (h : m[a]? = some (.mp kvs)) : wp (hasM (.int k) (.ref a)) m Q ↔ Q (.bl (lookI kvs k).isSome) m := by
  have e0 : hasM (.int k) (.ref a) m = .ok (.bl (lookI kvs k).isSome) m := by
    unfold hasM
    dsimp only
    rw [h]
  rw [wp_fun e0]
  exact ok_iff
theorem wp_ixK {k : Int} {a : Nat} {v : D} {kvs : List (Int × D)} (h : m[a]? = some (.mp kvs)) (hl : lookI kvs k = some v) : wp (ixKM (.ref a) (.int k)) m Q ↔ Q v m := by
  have e0 : ixKM (.ref a) (.int k) m = .ok v m := by
    unfold ixKM
    dsimp only
    rw [h]
    dsimp only
    rw [hl]
    rfl
  rw [wp_fun e0]
  exact ok_iff
end
section
variable {t : Str → Option Fn} {w n : Nat} {m : Mu} {r : Nat}
end
end Af
namespace Af
open PySem
def kL (ls : List Int) : NestedKey := .tup (ls.map .num)
theorem mapO_kl {f : Nat} : ∀ p : List Int, mapO (keyD f) (p.map D.int) = some (p.map .num)
  | [] => rfl
  | b :: r => by
    have e : keyD f (.int b) = some (.num b) := by cases f <;> rfl
    rw [List.map_cons, mapO, e]
    dsimp only
    rw [mapO_kl r]
    rfl
theorem kd_ls {p : List Int} : kd (lsD p) = some (kL p) := by
  show (mapO (keyD 6) (p.map D.int)).map NestedKey.tup = _
  rw [mapO_kl]
  rfl
theorem kL_inj {p q : List Int} (h : kL p = kL q) : p = q := by
  unfold kL at h
  replace h := NestedKey.tup.inj h
  exact (List.map_inj_right fun a b h => NestedKey.num.inj h).mp h
theorem look_kL {k : List Int} : ∀ {kvs : List (D × D)} {ps : List (List Int)}, kvs.map (·.1) = ps.map lsD → k ∉ ps → dLook kvs (kL k) = none
  | [], _, _, _ => rfl
  | (a, v) :: r, [], h, _ => by cases h
  | (a, v) :: r, p :: ps, h, hn => by
    rw [List.map_cons, List.map_cons] at h
    obtain ⟨h1, h2⟩ := List.cons.inj h
    dsimp only at h1
    rw [look_cons, h1, kd_ls, if_neg (fun z => hn (by rw [kL_inj (Option.some.inj z)]; exact List.mem_cons_self))]
    exact look_kL (ps := ps) h2 fun z => hn (List.mem_cons_of_mem _ z)
theorem store_kL {p : List Int} {v : D} {kvs : List (D × D)} {ps : List (List Int)} (h : kvs.map (·.1) = ps.map lsD) (hn : ps.Nodup) : ∃ ps' : List (List Int), (dStore kvs (lsD p) v (kL p)).map (·.1) = ps'.map lsD ∧ ps'.Nodup ∧ (∀ x, x ∈ ps' ↔ x ∈ ps ∨ x = p) ∧ ps'.length ≤ ps.length + 1 := by
  unfold dStore
  by_cases c : p ∈ ps
  · refine ⟨ps, ?_, hn, fun x => ⟨.inl, fun z => z.elim id fun z => z ▸ c⟩, Nat.le_succ _⟩
    split
    · rw [List.map_map, ← h]
      refine List.map_congr_left fun q _ => ?_
      show (if kd q.1 = some (kL p) then (q.1, v) else q).1 = q.1
      split <;> rfl
    · rename_i z
      exfalso
      refine z ?_
      have hm : lsD p ∈ kvs.map (·.1) := by rw [h]; exact List.mem_map_of_mem c
      obtain ⟨q, hq, e⟩ := List.mem_map.mp hm
      unfold dLook
      rw [Option.isSome_map, List.find?_isSome]
      exact ⟨q, hq, by rw [e, kd_ls]; exact beq_self_eq_true _⟩
  · rw [look_kL (ps := ps) h c, if_neg (by decide), List.map_append, h]
    refine ⟨ps ++ [p], by rw [List.map_append]; rfl, ?_, fun x => by simp, by simp⟩
    unfold List.Nodup
    rw [List.pairwise_append]
    exact ⟨hn, List.pairwise_singleton _ _, fun a ha b hb e => c (by rw [List.mem_singleton.mp hb] at e; exact e ▸ ha)⟩
theorem alike_ints : ∀ (p q : List Int), PySem.W.alikeAll (p.map PyData.int) (q.map PyData.int) = true
  | [], _ => by rw [List.map_nil, PySem.W.alikeAll]
  | _ :: _, [] => by rw [List.map_nil, List.map_cons, PySem.W.alikeAll]
  | a :: p, b :: q => by
    rw [List.map_cons, List.map_cons, PySem.W.alikeAll, alike_ints p q, PySem.W.alike]
    rfl
theorem mapO_lsD {m : Mu} {f : Nat} : ∀ rss : List (List Int), mapO (pd m (f + 2)) (rss.map lsD) = some (rss.map fun ls => PyData.tuple (ls.map PyData.int))
  | [] => rfl
  | ls :: r => by
    rw [List.map_cons, mapO, pd_t, mapO_int]
    dsimp only [Option.map_some]
    rw [mapO_lsD r]
    rfl
def joinR (ls os : List Int) (k : Int) : Option (List Int) :=
  if k ∉ ls ∨ -k ∉ os then none
  else if ((os.filter fun x => decide (x ≠ -k) && decide (x ∉ ls.filter fun y => decide (y ≠ k))).any fun x => decide (-x ∈ ls.filter fun y => decide (y ≠ k))) then none
  else some (sortA ((ls.filter fun y => decide (y ≠ k)) ++ os.filter fun x => decide (x ≠ -k) && decide (x ∉ ls.filter fun y => decide (y ≠ k))))
theorem join_mem {ls os x : List Int} {k : Int} (h : joinR ls os k = some x) : k ∈ ls ∧ -k ∈ os ∧ (∀ l, l ∈ x ↔ (l ∈ ls ∧ l ≠ k) ∨ (l ∈ os ∧ l ≠ -k)) := by
  unfold joinR at h
  split at h
  · cases h
  · rename_i c
    split at h
    · cases h
    · cases h
      rw [not_or, Classical.not_not, Classical.not_not] at c
      refine ⟨c.1, c.2, fun l => ?_⟩
      rw [sortA_mem, List.mem_append, List.mem_filter, List.mem_filter, Bool.and_eq_true]
      simp only [decide_eq_true_eq, List.mem_filter]
      constructor
      · rintro (h | h)
        · exact .inl h
        · exact .inr ⟨h.1, h.2.1⟩
      · rintro (h | h)
        · exact .inl h
        · by_cases z : l ∈ ls ∧ l ≠ k
          · exact .inl z
          · exact .inr ⟨h.1, h.2, z⟩
theorem join_row {n : Nat} {ls os x : List Int} (hl : RowL (n + 1 : Nat) ls) (ho : RowL (n + 1 : Nat) os) (h : joinR ls os ((n + 1 : Nat) : Int) = some x) : RowL n x := by
  have hm := (join_mem h).2.2
  have h0 := join_mem h
  unfold joinR at h
  split at h
  · cases h
  · split at h
    · cases h
    · rename_i c2
      cases h
      have c2 := (Bool.not_eq_true _).mp c2
      have c2 := List.any_eq_false.mp c2
      generalize hA : ls.filter (fun y => decide (y ≠ ((n + 1 : Nat) : Int))) = A at *
      generalize hB : os.filter (fun x => decide (x ≠ -((n + 1 : Nat) : Int)) && decide (x ∉ A)) = B at *
      have mA : ∀ l ∈ A, l ∈ ls ∧ l ≠ ((n + 1 : Nat) : Int) := fun l h => by
        rw [← hA, List.mem_filter, decide_eq_true_eq] at h
        exact h
      have mB : ∀ l ∈ B, l ∈ os ∧ l ≠ -((n + 1 : Nat) : Int) ∧ l ∉ A := fun l h => by
        rw [← hB, List.mem_filter, Bool.and_eq_true, decide_eq_true_eq, decide_eq_true_eq] at h
        exact h
      have bd : ∀ l ∈ A ++ B, 1 ≤ l.natAbs ∧ (l.natAbs : Int) ≤ n := fun l h => by
        rcases List.mem_append.mp h with h | h
        · obtain ⟨h1, h2⟩ := mA l h
          have h3 := hl.2 l h1
          refine ⟨h3.1, ?_⟩
          have : l.natAbs ≠ n + 1 := fun z => h2 (row_uniq hl.1 h1 h0.1 (by omega))
          omega
        · obtain ⟨h1, h2, _⟩ := mB l h
          have h3 := ho.2 l h1
          refine ⟨h3.1, ?_⟩
          have : l.natAbs ≠ n + 1 := fun z => h2 (row_uniq ho.1 h1 h0.2.1 (by omega))
          omega
      refine ⟨?_, fun l hl' => bd l (sortA_mem.mp hl')⟩
      have nd : ((A ++ B).map Int.natAbs).Pairwise (· ≠ ·) := by
        rw [List.map_append, List.pairwise_append]
        have r1 : (A.map Int.natAbs).Pairwise (· < ·) := (row_fewer hl (hA ▸ List.filter_sublist)).1
        have r2 : (B.map Int.natAbs).Pairwise (· < ·) := (row_fewer ho (hB ▸ List.filter_sublist)).1
        refine ⟨r1.imp fun h => by omega, r2.imp fun h => by omega, fun a ha b hb e => ?_⟩
        obtain ⟨i, hi, rfl⟩ := List.mem_map.mp ha
        obtain ⟨j, hj, rfl⟩ := List.mem_map.mp hb
        have h1 := (mB j hj).2.2
        have h2 := c2 j hj
        rw [decide_eq_true_eq] at h2
        rcases Int.natAbs_eq_natAbs_iff.mp e with z | z
        · exact h1 (z ▸ hi)
        · exact h2 (z ▸ hi)
      have nd2 : ((sortA (A ++ B)).map Int.natAbs).Pairwise (· ≠ ·) :=
        (((sortA_perm (A ++ B)).map Int.natAbs).pairwise_iff (fun h => Ne.symm h)).mpr nd
      have le := sortA_le (A ++ B)
      rw [List.pairwise_map] at nd2 ⊢
      exact le.imp₂ (fun a b h1 h2 => by have h2 : a.natAbs ≠ b.natAbs := h2; omega) nd2
section
variable {t : Str → Option Fn} {w n : Nat} {m m' : Mu}
def joinD (o : Option (List Int)) : D := match o with
  | some x => lsD x
  | none => .non
def KeyR (m : Mu) (a : Nat) (keys : List (List Int)) : Prop := ∃ kvs : List (D × D), m[a]? = some (.dct false kvs) ∧ kvs.map (·.1) = keys.map lsD ∧ keys.Nodup
theorem KeyR.len {keys : List (List Int)} {kvs : List (D × D)} (h : kvs.map (·.1) = keys.map lsD) : kvs.length = keys.length := by
  have := congrArg List.length h
  simpa using this
theorem key_store {a : Nat} {keys : List (List Int)} {ls : List Int} {v : D} {Q : Unit → Mu → Prop} (h : KeyR m a keys) (hl : keys.length < sizeLine) (hq : ∀ keys' m', KeyR m' a keys' → Gr a m m' → (∀ x, x ∈ keys' ↔ x ∈ keys ∨ x = ls) → keys'.length ≤ keys.length + 1 → Q () m') : wp (dSet (.ref a) (lsD ls) v) m Q := by
  obtain ⟨kvs, h1, h2, h3⟩ := h
  rw [wp_dset h1 kd_ls]
  obtain ⟨ps, p1, p2, p3, p4⟩ := store_kL (p := ls) (v := v) h2 h3
  exact ⟨by rw [KeyR.len h2]; exact hl, hq ps _ ⟨_, getSS h1, p1, p2⟩ Gr.set p3 p4⟩
theorem KeyR.ge {a : Nat} {keys : List (List Int)} (h : KeyR m a keys) (g : Ge m m') : KeyR m' a keys := by
  obtain ⟨kvs, q1, q2⟩ := h
  exact ⟨kvs, g.get q1, q2⟩
def LeftS (rss : List (List Int)) (k : Int) (x : List Int) : Prop := (x ∈ rss ∧ k ∉ x ∧ -k ∉ x) ∨ ∃ ls ∈ rss, ∃ os ∈ rss, joinR ls os k = some x
theorem LeftS.row {k : Nat} {rss : List (List Int)} {x : List Int} (hr : ∀ ls ∈ rss, RowL (k + 1 : Nat) ls) (h : LeftS rss ((k + 1 : Nat) : Int) x) : RowL k x := by
  rcases h with ⟨h1, h2, h3⟩ | ⟨ls, h1, os, h2, h3⟩
  · refine ⟨(hr x h1).1, fun l hl => ?_⟩
    have := (hr x h1).2 l hl
    refine ⟨this.1, ?_⟩
    have n1 : l ≠ ((k + 1 : Nat) : Int) := fun z => h2 (z ▸ hl)
    have n2 : l ≠ -((k + 1 : Nat) : Int) := fun z => h3 (z ▸ hl)
    omega
  · exact join_row (hr ls h1) (hr os h2) h3
end
end Af
namespace Af
open PySem
def rLt : List Int → List Int → Bool
  | [], [] => false
  | [], _ :: _ => true
  | _ :: _, [] => false
  | x :: xs, y :: ys => if x = y then rLt xs ys else decide (x < y)
theorem rLt_list : ∀ a b : List Int, PySem.W.listLt a b = rLt a b
  | [], [] => rfl
  | [], _ :: _ => rfl
  | _ :: _, [] => rfl
  | x :: xs, y :: ys => by
    unfold PySem.W.listLt rLt
    by_cases h : x = y
    · rw [if_pos h, if_pos h, rLt_list xs ys]
    · rw [if_neg h, if_neg h]
      rfl
theorem rLt_anti : ∀ {a b : List Int}, rLt a b = false → rLt b a = false → a = b
  | [], [], _, _ => rfl
  | [], _ :: _, h, _ => by cases h
  | _ :: _, [], _, h => by cases h
  | x :: xs, y :: ys, h1, h2 => by
    unfold rLt at h1 h2
    by_cases h : x = y
    · subst h
      rw [if_pos rfl] at h1 h2
      rw [rLt_anti h1 h2]
    · rw [if_neg h] at h1
      rw [if_neg (Ne.symm h)] at h2
      have h1 := of_decide_eq_false h1
      have h2 := of_decide_eq_false h2
      omega
theorem rLt_tot : ∀ {a b : List Int}, rLt a b = true → rLt b a = false
  | [], [], h => by cases h
  | [], _ :: _, _ => rfl
  | _ :: _, [], h => by cases h
  | x :: xs, y :: ys, h1 => by
    unfold rLt at h1 ⊢
    by_cases h : x = y
    · subst h
      rw [if_pos rfl] at h1 ⊢
      exact rLt_tot h1
    · rw [if_neg h] at h1
      rw [if_neg (Ne.symm h)]
      have h1 := of_decide_eq_true h1
      exact decide_eq_false (by omega)
theorem rLt_trans : ∀ {a b c : List Int}, rLt b a = false → rLt c b = false → rLt c a = false
  | [], b, [], _, _ => rfl
  | [], b, _ :: _, _, _ => rfl
  | _ :: _, [], _, h, _ => by cases h
  | _ :: _, _ :: _, [], _, h => by cases h
  | x :: xs, y :: ys, z :: zs, h1, h2 => by
    unfold rLt at h1 h2 ⊢
    by_cases e1 : y = x
    · subst e1
      rw [if_pos rfl] at h1
      by_cases e2 : z = y
      · subst e2
        rw [if_pos rfl] at h2 ⊢
        exact rLt_trans h1 h2
      · rw [if_neg e2] at h2 ⊢
        exact h2
    · rw [if_neg e1] at h1
      have h1 := of_decide_eq_false h1
      by_cases e2 : z = y
      · subst e2
        rw [if_neg e1]
        exact decide_eq_false h1
      · rw [if_neg e2] at h2
        have h2 := of_decide_eq_false h2
        rw [if_neg (by omega)]
        exact decide_eq_false (by omega)
def leR (a b : List Int) : Bool := !rLt b a
def srtR (l : List (List Int)) : List (List Int) := l.mergeSort leR
theorem srtR_perm (l : List (List Int)) : (srtR l).Perm l := List.mergeSort_perm _ _
theorem srtR_sorted (l : List (List Int)) : (srtR l).Pairwise fun a b => leR a b = true := by
  refine List.pairwise_mergeSort (fun a b c h1 h2 => ?_) (fun a b => ?_) l
  · unfold leR at *
    simp only [Bool.not_eq_true'] at *
    exact rLt_trans h1 h2
  · unfold leR
    cases h : rLt b a with
    | false => rfl
    | true => rw [rLt_tot h]; rfl
theorem sorted_one : ∀ {a b : List (List Int)}, a.Perm b → a.Pairwise (fun x y => leR x y = true) → b.Pairwise (fun x y => leR x y = true) → a = b
  | [], b, p, _, _ => (List.nil_perm.mp p).symm
  | x :: xs, [], p, _, _ => (by cases List.perm_nil.mp p)
  | x :: xs, y :: ys, p, s1, s2 => by
    obtain ⟨h1, t1⟩ := List.pairwise_cons.mp s1
    obtain ⟨h2, t2⟩ := List.pairwise_cons.mp s2
    have e : x = y := by
      by_cases e : x = y
      · exact e
      · have m1 : x ∈ ys := by
          rcases List.mem_cons.mp (p.mem_iff.mp List.mem_cons_self) with h | h
          · exact absurd h e
          · exact h
        have m2 : y ∈ xs := by
          rcases List.mem_cons.mp (p.mem_iff.mpr List.mem_cons_self) with h | h
          · exact absurd h.symm e
          · exact h
        have a1 := h1 y m2
        have a2 := h2 x m1
        unfold leR at a1 a2
        simp only [Bool.not_eq_true'] at a1 a2
        exact rLt_anti a2 a1
    subst e
    rw [sorted_one ((List.perm_cons x).mp p) t1 t2]
theorem srtR_one {a b : List (List Int)} (p : a.Perm b) : srtR a = srtR b :=
  sorted_one ((srtR_perm a).trans (p.trans (srtR_perm b).symm)) (srtR_sorted a) (srtR_sorted b)
theorem srtR_same {a b : List (List Int)} (ha : a.Nodup) (hb : b.Nodup) (h : ∀ x, x ∈ a ↔ x ∈ b) : srtR a = srtR b := srtR_one ((List.perm_ext_iff_of_nodup ha hb).mpr h)
theorem sort_rowsX {m : Mu} (rss : List (List Int)) : dSort m (rss.map lsD) = some ((srtR rss).map lsD) := by
  have ok : sortOk (rss.map fun ls => PyData.tuple (ls.map PyData.int)) = true := by
    unfold sortOk
    rw [Bool.and_eq_true, Bool.or_eq_true, List.all_eq_true, List.all_eq_true]
    refine ⟨fun x hx => ?_, .inl fun x hx => ?_⟩
    · obtain ⟨p, _, rfl⟩ := List.mem_map.mp hx
      rw [List.all_eq_true]
      intro y hy
      obtain ⟨q, _, rfl⟩ := List.mem_map.mp hy
      simp [PySem.W.alike, PySem.W.alike_ints]
    · obtain ⟨p, _, rfl⟩ := List.mem_map.mp hx
      rfl
  unfold dSort
  rw [mapO_lsD]
  dsimp only
  rw [if_pos ok]
  unfold srtR
  rw [List.map_mergeSort (r := leR) (s := PySem.W.dataLe false (encD m)) (f := lsD)]
  intro a _ b _
  have ed : ∀ ls : List Int, encD m (lsD ls) = PySem.W.Datum.toD (PySem.W.Tup.mk ls) := fun ls => by
    unfold encD
    rw [pd_t, mapO_int]
    rfl
  rw [PySem.W.dataLe_eq]
  show leR a b = !PySem.W.dataLt (encD m (lsD b)) (encD m (lsD a))
  rw [ed, ed, PySem.W.DatumOrd.lt_eq]
  show leR a b = !PySem.W.listLt b a
  rw [rLt_list]
  rfl
end Af
namespace Af
open PySem
abbrev Prt := Nat × List Bool
def ahN (kb : List Bool) (k : Nat) : Nat := (kb.take k).countP fun b => !b
theorem ahN_succ {kb : List Bool} {k : Nat} (h : k < kb.length) : ahN kb (k + 1) = ahN kb k + if kAt kb k then 0 else 1 := by
  unfold ahN kAt
  rw [List.take_add_one, List.getElem?_eq_getElem h, List.getD_eq_getElem?_getD, List.getElem?_eq_getElem h, List.countP_append]
  cases e : kb[k] <;> simp
theorem ahN_mono {kb : List Bool} {j k : Nat} (h : j ≤ k) : ahN kb j ≤ ahN kb k := by
  unfold ahN
  have : kb.take j = (kb.take k).take j := by rw [List.take_take, Nat.min_eq_left h]
  rw [this]
  exact (List.take_sublist _ _).countP_le
def partsL (kb : List Bool) : List Prt := (List.range kb.length).flatMap fun k => if kAt kb k then (lev (ahN kb k)).map fun c => (k + 1, c) else []
theorem mem_parts {kb : List Bool} {p : Prt} : p ∈ partsL kb ↔ ∃ k, k < kb.length ∧ kAt kb k = true ∧ p.1 = k + 1 ∧ p.2.length = ahN kb k := by
  unfold partsL
  rw [List.mem_flatMap]
  constructor
  · rintro ⟨k, h1, h2⟩
    have h1 := List.mem_range.mp h1
    split at h2
    · rename_i c
      obtain ⟨q, hq, rfl⟩ := List.mem_map.mp h2
      exact ⟨k, h1, c, rfl, lev_mem.mp hq⟩
    · cases h2
  · rintro ⟨k, h1, h2, h3, h4⟩
    refine ⟨k, List.mem_range.mpr h1, ?_⟩
    rw [if_pos h2]
    exact List.mem_map.mpr ⟨p.2, lev_mem.mpr h4, by rw [← h3]⟩
theorem parts_nodup {kb : List Bool} : (partsL kb).Nodup := by
  unfold partsL
  have : ∀ l : List Nat, l.Nodup → (l.flatMap fun k => if kAt kb k then (lev (ahN kb k)).map fun c => ((k + 1, c) : Prt) else []).Nodup := fun l => by
    induction l with
    | nil => exact fun _ => .nil
    | cons k r ih =>
      intro h
      obtain ⟨h1, h2⟩ := List.nodup_cons.mp h
      rw [List.flatMap_cons, List.nodup_append]
      refine ⟨?_, ih h2, fun a ha b hb e => ?_⟩
      · split
        · exact List.Pairwise.map _ (fun a b (ne : a ≠ b) e => ne (by injection e)) (lev_nodup _)
        · exact .nil
      · subst e
        split at ha
        · obtain ⟨q, _, rfl⟩ := List.mem_map.mp ha
          obtain ⟨j, hj, hb⟩ := List.mem_flatMap.mp hb
          split at hb
          · obtain ⟨q', _, e⟩ := List.mem_map.mp hb
            injection e with e1 e2
            exact h1 (by rw [show k = j by omega]; exact hj)
          · cases hb
        · cases ha
  exact this _ List.nodup_range
def upd (σ : Prt → Bool) (x : Prt) (b : Bool) : Prt → Bool := fun p => if p = x then b else σ p
def Only (P : List Prt) (q : (Prt → Bool) → Bool) : Prop := ∀ σ σ', (∀ p ∈ P, σ p = σ' p) → q σ = q σ'
theorem Only.upd {P : List Prt} {q : (Prt → Bool) → Bool} (h : Only P q) {x : Prt} (hx : x ∉ P) {b : Bool} (σ : Prt → Bool) : q (upd σ x b) = q σ :=
  h _ _ fun p hp => by
    show (if p = x then b else σ p) = σ p
    rw [if_neg fun e : p = x => hx (e ▸ hp)]
def allP (kb : List Bool) (bs : List Bool) : List Bool := (List.range bs.length).filterMap fun i => if kAt kb i then none else bs[i]?
end Af
namespace Af
open PySem
def numP (kb : List Bool) (p : Prt) : Int := ((partsL kb).idxOf p + 1 : Nat)
def spR (kb : List Bool) (a : List Bool) : List Int → Option (List Int)
  | [] => some []
  | l :: r => if kAt kb (l.natAbs - 1) then (spR kb a r).map ((if 0 < l then numP kb (l.natAbs, a.take (ahN kb (l.natAbs - 1))) else -(numP kb (l.natAbs, a.take (ahN kb (l.natAbs - 1))))) :: ·)
    else if a.getD (ahN kb (l.natAbs - 1)) false == decide (0 < l) then none else spR kb a r
theorem spR_cons {kb a : List Bool} {l : Int} {r : List Int} : spR kb a (l :: r) = if kAt kb (l.natAbs - 1) then (spR kb a r).map ((if 0 < l then numP kb (l.natAbs, a.take (ahN kb (l.natAbs - 1))) else -(numP kb (l.natAbs, a.take (ahN kb (l.natAbs - 1))))) :: ·)
    else if a.getD (ahN kb (l.natAbs - 1)) false == decide (0 < l) then none else spR kb a r := rfl
def fin (kb : List Bool) (σ : Prt → Bool) : Nat → List Bool → List Bool → List Bool
  | 0, bs, _ => bs
  | f + 1, bs, a => if kAt kb bs.length then fin kb σ f (bs ++ [σ (bs.length + 1, allP kb bs)]) a else fin kb σ f (bs ++ [a.headD false]) a.tail
theorem part_in {kb a : List Bool} {k : Nat} (hk : k < kb.length) (c : kAt kb k = true) (ha : a.length = ahN kb kb.length) : (k + 1, a.take (ahN kb k)) ∈ partsL kb := by
  refine mem_parts.mpr ⟨k, hk, c, rfl, ?_⟩
  rw [List.length_take, ha]
  exact Nat.min_eq_left (ahN_mono (by omega))
end Af
namespace Af
open PySem
def ss_choices_1b_1b_0 : Ss := .cons (.ex (.me .extend (.var 3) (.cons (.lst (.cons (.bin .add (.var 4) (.tup (.cons (.k (.bl false)) .nil))) (.cons (.bin .add (.var 4) (.tup (.cons (.k (.bl true)) .nil))) .nil))) .nil))) .nil
def ss_choices_1b_2 : Ss := .cons (.set 1 (.var 3)) .nil
def ss_choices_1b_1 : Ss := .cons (.for (.one 4) (.exp (.var 1)) ss_choices_1b_1b_0) ss_choices_1b_2
def ss_choices_1b_0 : Ss := .cons (.set 3 (.lst .nil)) ss_choices_1b_1
def ss_choices_2 : Ss := .cons (.rt (.var 1)) .nil
def ss_choices_1 : Ss := .cons (.for (.one 2) (.rng1 (.var 0)) ss_choices_1b_0) ss_choices_2
def ss_choices_0 : Ss := .cons (.set 1 (.lst (.cons (.tup .nil) .nil))) ss_choices_1
def fn_choices : Fn := ⟨1, 5, ss_choices_0⟩
def ss_ahead_of_1b_0 : Ss := .cons (.ex (.me .append (.var 1) (.cons (.bin .add (.ix (.var 1) (.neg (.k (.int 1)))) (.bi .int (.cons (.cmp .eq (.var 2) (.k (.str "all"))) .nil))) .nil))) .nil
def ss_ahead_of_2 : Ss := .cons (.rt (.var 1)) .nil
def ss_ahead_of_1 : Ss := .cons (.for (.one 2) (.exp (.var 0)) ss_ahead_of_1b_0) ss_ahead_of_2
def ss_ahead_of_0 : Ss := .cons (.set 1 (.lst (.cons (.k (.int 0)) .nil))) ss_ahead_of_1
def fn_ahead_of : Fn := ⟨1, 3, ss_ahead_of_0⟩
def ss_parts_of_2b_0 : Ss := .cons (.ite (.cmp .eq (.ix (.var 0) (.var 3)) (.k (.str "some"))) (.cons (.ex (.me .extend (.var 2) (.cons (.comp [4] (.one 4) (.exp (.call "choices" (.cons (.ix (.var 1) (.var 3)) .nil))) (.tup (.cons (.bin .add (.var 3) (.k (.int 1))) (.cons (.var 4) .nil)))) .nil))) .nil) .nil) .nil
def ss_parts_of_3 : Ss := .cons (.rt (.var 2)) .nil
def ss_parts_of_2 : Ss := .cons (.for (.one 3) (.rng1 (.bi .len (.cons (.var 0) .nil))) ss_parts_of_2b_0) ss_parts_of_3
def ss_parts_of_1 : Ss := .cons (.set 2 (.lst .nil)) ss_parts_of_2
def ss_parts_of_0 : Ss := .cons (.set 1 (.call "ahead_of" (.cons (.var 0) .nil))) ss_parts_of_1
def fn_parts_of : Fn := ⟨1, 5, ss_parts_of_0⟩
def ss_spread_row_1b_1 : Ss := .cons (.ite (.cmp .eq (.ix (.var 0) (.var 7)) (.k (.str "some"))) (.cons (.set 8 (.ix (.var 2) (.tup (.cons (.bin .add (.var 7) (.k (.int 1))) (.cons (.slU (.var 4) (.ix (.var 1) (.var 7))) .nil))))) (.cons (.ex (.me .append (.var 5) (.cons (.ite (.cmp .gt (.var 6) (.k (.int 0))) (.var 8) (.neg (.var 8))) .nil))) .nil)) (.cons (.ite (.cmp .eq (.ix (.var 4) (.ix (.var 1) (.var 7))) (.cmp .gt (.var 6) (.k (.int 0)))) (.cons (.rt (.k .non)) .nil) .nil) .nil)) .nil
def ss_spread_row_1b_0 : Ss := .cons (.set 7 (.bin .sub (.bi .abs (.cons (.var 6) .nil)) (.k (.int 1)))) ss_spread_row_1b_1
def ss_spread_row_2 : Ss := .cons (.rt (.bi .tuple (.cons (.var 5) .nil))) .nil
def ss_spread_row_1 : Ss := .cons (.for (.one 6) (.exp (.var 3)) ss_spread_row_1b_0) ss_spread_row_2
def ss_spread_row_0 : Ss := .cons (.set 5 (.lst .nil)) ss_spread_row_1
def fn_spread_row : Fn := ⟨5, 9, ss_spread_row_0⟩
def ss_spread_4b_0 : Ss := .cons (.setI (.var 5) (.var 6) (.bin .add (.bi .len (.cons (.var 5) .nil)) (.k (.int 1)))) .nil
def ss_spread_6b_0b_1 : Ss := .cons (.ite (.cmp .isn (.var 10) (.k .non)) (.cons (.setI (.var 7) (.var 10) (.k (.bl true))) .nil) .nil) .nil
def ss_spread_6b_0b_0 : Ss := .cons (.set 10 (.call "spread_row" (.cons (.var 1) (.cons (.var 4) (.cons (.var 5) (.cons (.var 9) (.cons (.var 8) .nil))))))) ss_spread_6b_0b_1
def ss_spread_6b_0 : Ss := .cons (.for (.one 9) (.exp (.var 2)) ss_spread_6b_0b_0) .nil
def ss_spread_7 : Ss := .cons (.rt (.tup (.cons (.bi .tuple (.cons (.var 3) .nil)) (.cons (.bi .tuple (.cons (.bi .sortK (.cons (.var 7) .nil)) .nil)) .nil)))) .nil
def ss_spread_6 : Ss := .cons (.for (.one 8) (.exp (.call "choices" (.cons (.ix (.var 4) (.neg (.k (.int 1)))) .nil))) ss_spread_6b_0) ss_spread_7
def ss_spread_5 : Ss := .cons (.set 7 .dct) ss_spread_6
def ss_spread_4 : Ss := .cons (.for (.one 6) (.exp (.var 3)) ss_spread_4b_0) ss_spread_5
def ss_spread_3 : Ss := .cons (.set 5 .dct) ss_spread_4
def ss_spread_2 : Ss := .cons (.set 4 (.call "ahead_of" (.cons (.var 1) .nil))) ss_spread_3
def ss_spread_1 : Ss := .cons (.set 3 (.call "parts_of" (.cons (.var 1) .nil))) ss_spread_2
def ss_spread_0 : Ss := .cons (.setT [1, 2] (.var 0)) ss_spread_1
def fn_spread : Fn := ⟨1, 11, ss_spread_0⟩
section
variable {t : Str → Option Fn} {w n : Nat} {m m' : Mu} {kb : List Bool} {rss : List (List Int)}
theorem wp_extend {a b : Nat} {xs ys : List D} {Q : D → Mu → Prop} (h : m[a]? = some (.lst xs)) (h2 : m[b]? = some (.lst ys)) (hl : xs.length + ys.length ≤ sizeLine) (q : Q .non (m.set a (.lst (xs ++ ys)))) : wp (meF .extend (.ref a) [.ref b]) m Q := by
  have e0 : meF .extend (.ref a) [.ref b] m = .ok .non (m.set a (.lst (xs ++ ys))) := by
    show (match m[a]?, m[b]? with
      | some (.lst xs), some (.lst ys) => if xs.length + ys.length ≤ sizeLine then Res.ok D.non (m.set a (.lst (xs ++ ys))) else .bad
      | _, _ => .bad) = _
    rw [h, h2]
    exact if_pos hl
  rw [wp_fun e0]
  exact ok_iff.mpr q
theorem choices_ok (h : t "choices" = some fn_choices) {many : Nat} (hm : many ≤ 8) : wp (run t w (n + 1) "choices" [.int many]) m fun v m' => ∃ a, v = .ref a ∧ m'[a]? = some (.lst ((lev many).map bsD)) ∧ Ge m m' ∧ m.length ≤ a := by
  have big : (2000 : Nat) < sizeLine := by decide
  have p2 : ∀ k, k ≤ 8 → 2 ^ k ≤ 256 := fun k h => Nat.le_trans (Nat.pow_le_pow_right (n := 2) (by decide) h) (by decide)
  refine wp_run h rfl ?_
  show wpF (exes _ _ fn_choices.body [some (.int many), none, none, none, none]) m _
  simp only [fn_choices, ss_choices_0, wp_bd, wp_ret, wp_nope, wp_chk, wp_some, wp_ite, wp_tru, wpF_bs, wpF_nx, wpF_rt, wpF_bk, wpF_ct, wpF_ite, thenF_nx, thenF_rt, thenF_bk, thenF_ct, wpF_nil, wpF_cons, endF_nx, endF_rt, exe, ev, evs, evI, varM, List.getElem?_cons_zero, List.getElem?_cons_succ, List.set_cons_zero, List.set_cons_succ, Bool.false_eq_true, if_true, if_false, ite_true, ite_false, reduceIte, Option.some.injEq, exists_eq_left', exists_eq_left, wp_ixR, ixW_l, ixW_f, wp_ixT, wp_lenR, lenW_l, lenW_f, wp_lenT, wp_tupR, lsW_l, lsW_f, wp_tupT, wp_listT, wp_cmp, cmp_lt, cmp_le, cmp_gt, cmp_ge, cmp_eq, cmp_ne, eqD_int, eqD_bl, cmp_is, cmp_isn, dIs_bl, dIs_tn, dIs_nn, opt_map, decide_eq_true_eq, wp_mod, wp_fdiv, wp_pow, wp_add, wp_sub, wp_mul, wp_mulTI, wp_addT, wp_neg, wp_slT, wp_slR, slW, wp_isLst, lW_l, wp_app, wp_popAt, wp_setR, setW_l, partO, Bool.not_true, Bool.not_false, wp_minI, wp_maxI, wp_intI, wp_intB, wp_absI, wp_srcT, wp_r2, wp_isi, asg_one, asg_two, wp_srcST, isTy_bb, wipe_nil, wipe_cons, at0, at1, ix0, ix1, List.length_nil, List.length_cons]
  refine ⟨by omega, by omega, wp_new fun s0 m1 g1 e1 a1 b1 c1 => ?_⟩
  simp only [ss_choices_1, wp_bd, wp_ret, wp_nope, wp_chk, wp_some, wp_ite, wp_tru, wpF_bs, wpF_nx, wpF_rt, wpF_bk, wpF_ct, wpF_ite, thenF_nx, thenF_rt, thenF_bk, thenF_ct, wpF_nil, wpF_cons, endF_nx, endF_rt, exe, ev, evs, evI, varM, List.getElem?_cons_zero, List.getElem?_cons_succ, List.set_cons_zero, List.set_cons_succ, Bool.false_eq_true, if_true, if_false, ite_true, ite_false, reduceIte, Option.some.injEq, exists_eq_left', exists_eq_left, wp_ixR, ixW_l, ixW_f, wp_ixT, wp_lenR, lenW_l, lenW_f, wp_lenT, wp_tupR, lsW_l, lsW_f, wp_tupT, wp_listT, wp_cmp, cmp_lt, cmp_le, cmp_gt, cmp_ge, cmp_eq, cmp_ne, eqD_int, eqD_bl, cmp_is, cmp_isn, dIs_bl, dIs_tn, dIs_nn, opt_map, decide_eq_true_eq, wp_mod, wp_fdiv, wp_pow, wp_add, wp_sub, wp_mul, wp_mulTI, wp_addT, wp_neg, wp_slT, wp_slR, slW, wp_isLst, lW_l, wp_app, wp_popAt, wp_setR, setW_l, partO, Bool.not_true, Bool.not_false, wp_minI, wp_maxI, wp_intI, wp_intB, wp_absI, wp_srcT, wp_r2, wp_isi, asg_one, asg_two, wp_srcST, isTy_bb, wipe_nil, wipe_cons, at0, at1, ix0, ix1]
  refine ⟨⟨by decide, ⟨by omega, by omega⟩⟩, ?_⟩
  rw [show ((many : Int) - 0).toNat = many by omega]
  refine wpF_loop (a := []) (J := fun xs ρ m' => ∃ (k s : Nat) (x y z : Option D), k + xs.length = many ∧ ρ = [some (.int many), some (.ref s), x, y, z] ∧ m'[s]? = some (.lst ((lev k).map bsD)) ∧ Ge m m' ∧ m.length ≤ s) (fun _ _ _ _ => trivial) (fun x xs ρ m' hJ => ?_) (fun ρ m' hJ => ?_) _ _ _
    ⟨0, s0, _, _, _, by rw [rngI_len]; omega, rfl, e1, g1, a1⟩
  · obtain ⟨k, s, x1, y1, z1, h1, rfl, h2, g, hs⟩ := hJ
    rw [List.length_cons] at h1
    simp only [ss_choices_1b_0, wp_bd, wp_ret, wp_nope, wp_chk, wp_some, wp_ite, wp_tru, wpF_bs, wpF_nx, wpF_rt, wpF_bk, wpF_ct, wpF_ite, thenF_nx, thenF_rt, thenF_bk, thenF_ct, wpF_nil, wpF_cons, endF_nx, endF_rt, exe, ev, evs, evI, varM, List.getElem?_cons_zero, List.getElem?_cons_succ, List.set_cons_zero, List.set_cons_succ, Bool.false_eq_true, if_true, if_false, ite_true, ite_false, reduceIte, Option.some.injEq, exists_eq_left', exists_eq_left, wp_ixR, ixW_l, ixW_f, wp_ixT, wp_lenR, lenW_l, lenW_f, wp_lenT, wp_tupR, lsW_l, lsW_f, wp_tupT, wp_listT, wp_cmp, cmp_lt, cmp_le, cmp_gt, cmp_ge, cmp_eq, cmp_ne, eqD_int, eqD_bl, cmp_is, cmp_isn, dIs_bl, dIs_tn, dIs_nn, opt_map, decide_eq_true_eq, wp_mod, wp_fdiv, wp_pow, wp_add, wp_sub, wp_mul, wp_mulTI, wp_addT, wp_neg, wp_slT, wp_slR, slW, wp_isLst, lW_l, wp_app, wp_popAt, wp_setR, setW_l, partO, Bool.not_true, Bool.not_false, wp_minI, wp_maxI, wp_intI, wp_intB, wp_absI, wp_srcT, wp_r2, wp_isi, asg_one, asg_two, wp_srcST, isTy_bb, wipe_nil, wipe_cons, at0, at1, ix0, ix1, List.length_nil]
    refine ⟨by omega, wp_new fun sl m3 g3 e3 a3 b3 c3 => ?_⟩
    simp only [ss_choices_1b_1, wp_bd, wp_ret, wp_nope, wp_chk, wp_some, wp_ite, wp_tru, wpF_bs, wpF_nx, wpF_rt, wpF_bk, wpF_ct, wpF_ite, thenF_nx, thenF_rt, thenF_bk, thenF_ct, wpF_nil, wpF_cons, endF_nx, endF_rt, exe, ev, evs, evI, varM, List.getElem?_cons_zero, List.getElem?_cons_succ, List.set_cons_zero, List.set_cons_succ, Bool.false_eq_true, if_true, if_false, ite_true, ite_false, reduceIte, Option.some.injEq, exists_eq_left', exists_eq_left, wp_ixR, ixW_l, ixW_f, wp_ixT, wp_lenR, lenW_l, lenW_f, wp_lenT, wp_tupR, lsW_l, lsW_f, wp_tupT, wp_listT, wp_cmp, cmp_lt, cmp_le, cmp_gt, cmp_ge, cmp_eq, cmp_ne, eqD_int, eqD_bl, cmp_is, cmp_isn, dIs_bl, dIs_tn, dIs_nn, opt_map, decide_eq_true_eq, wp_mod, wp_fdiv, wp_pow, wp_add, wp_sub, wp_mul, wp_mulTI, wp_addT, wp_neg, wp_slT, wp_slR, slW, wp_isLst, lW_l, wp_app, wp_popAt, wp_setR, setW_l, partO, Bool.not_true, Bool.not_false, wp_minI, wp_maxI, wp_intI, wp_intB, wp_absI, wp_srcT, wp_r2, wp_isi, asg_one, asg_two, wp_srcST, isTy_bb, wipe_nil, wipe_cons, at0, at1, ix0, ix1]
    have hs3 := g3.get h2
    rw [wp_srcR hs3]
    have hl2 := lev_len k
    have hp2 := p2 k (by omega)
    refine wpF_loop (a := [(s, _)]) (J := fun ys ρ m'' => ∃ (done rest : List (List Bool)) (sl : Nat) (z : Option D), lev k = done ++ rest ∧ ys = rest.map bsD ∧ ρ = [some (.int many), some (.ref s), some x, some (.ref sl), z] ∧ m''[sl]? = some (.lst ((done.flatMap fun p => [p ++ [false], p ++ [true]]).map bsD)) ∧ m'.length ≤ sl ∧ Gr sl m3 m'') (fun _ _ _ ⟨_, _, _, _, _, _, _, _, q4, h⟩ => h.get (by have := lt_of_get h2; omega) hs3) (fun p ys ρ m'' hJ => ?_) (fun ρ m'' hJ => ?_) _ _ _
      ⟨[], _, sl, _, rfl, rfl, rfl, e3, by omega, .refl⟩
    · obtain ⟨done, rest, sl', z, q1, q2, rfl, q3, q4, q5⟩ := hJ
      cases rest with
      | nil => cases q2
      | cons p rest =>
        cases q2
        have lp : p.length = k := lev_mem.mp (by rw [q1]; simp)
        have ld : done.length ≤ 512 := by
          have := congrArg List.length q1
          rw [List.length_append] at this
          omega
        have ea : ∀ b, p.map D.bl ++ [D.bl b] = (p ++ [b]).map D.bl := fun b => by rw [List.map_append]; rfl
        simp only [ss_choices_1b_1b_0, wp_bd, wp_ret, wp_nope, wp_chk, wp_some, wp_ite, wp_tru, wpF_bs, wpF_nx, wpF_rt, wpF_bk, wpF_ct, wpF_ite, thenF_nx, thenF_rt, thenF_bk, thenF_ct, wpF_nil, wpF_cons, endF_nx, endF_rt, exe, ev, evs, evI, varM, List.getElem?_cons_zero, List.getElem?_cons_succ, List.set_cons_zero, List.set_cons_succ, Bool.false_eq_true, if_true, if_false, ite_true, ite_false, reduceIte, Option.some.injEq, exists_eq_left', exists_eq_left, wp_ixR, ixW_l, ixW_f, wp_ixT, wp_lenR, lenW_l, lenW_f, wp_lenT, wp_tupR, lsW_l, lsW_f, wp_tupT, wp_listT, wp_cmp, cmp_lt, cmp_le, cmp_gt, cmp_ge, cmp_eq, cmp_ne, eqD_int, eqD_bl, cmp_is, cmp_isn, dIs_bl, dIs_tn, dIs_nn, opt_map, decide_eq_true_eq, wp_mod, wp_fdiv, wp_pow, wp_add, wp_sub, wp_mul, wp_mulTI, wp_addT, wp_neg, wp_slT, wp_slR, slW, wp_isLst, lW_l, wp_app, wp_popAt, wp_setR, setW_l, partO, Bool.not_true, Bool.not_false, wp_minI, wp_maxI, wp_intI, wp_intB, wp_absI, wp_srcT, wp_r2, wp_isi, asg_one, asg_two, wp_srcST, isTy_bb, wipe_nil, wipe_cons, at0, at1, ix0, ix1, q3, List.length_map, List.length_cons, List.length_nil, ea]
        refine ⟨by decide, by omega, by decide, by omega, by decide, wp_new fun st m4 g4 e4 a4 b4 c4 => ?_⟩
        have hfl := two_len done
        have q6 := g4.get q3
        refine wp_extend q6 e4 (by rw [List.length_map]; simp only [List.length_cons, List.length_nil]; omega) ?_
        refine ⟨done ++ [p], rest, sl', _, by rw [q1]; simp, rfl, rfl, ?_, q4, (q5.trans g4.gr).trans Gr.set⟩
        rw [getSS q6]
        simp only [List.flatMap_append, List.map_append, List.flatMap_cons, List.flatMap_nil, List.append_nil, List.map_cons, List.map_nil, List.cons_append, List.nil_append, bsD]
    · obtain ⟨done, rest, sl', z, q1, q2, rfl, q3, q4, q5⟩ := hJ
      have q2 : rest = [] := by
        cases rest with
        | nil => rfl
        | cons _ _ => cases q2
      subst q2
      rw [List.append_nil] at q1
      simp only [ss_choices_1b_2, wp_bd, wp_ret, wp_nope, wp_chk, wp_some, wp_ite, wp_tru, wpF_bs, wpF_nx, wpF_rt, wpF_bk, wpF_ct, wpF_ite, thenF_nx, thenF_rt, thenF_bk, thenF_ct, wpF_nil, wpF_cons, endF_nx, endF_rt, exe, ev, evs, evI, varM, List.getElem?_cons_zero, List.getElem?_cons_succ, List.set_cons_zero, List.set_cons_succ, Bool.false_eq_true, if_true, if_false, ite_true, ite_false, reduceIte, Option.some.injEq, exists_eq_left', exists_eq_left, wp_ixR, ixW_l, ixW_f, wp_ixT, wp_lenR, lenW_l, lenW_f, wp_lenT, wp_tupR, lsW_l, lsW_f, wp_tupT, wp_listT, wp_cmp, cmp_lt, cmp_le, cmp_gt, cmp_ge, cmp_eq, cmp_ne, eqD_int, eqD_bl, cmp_is, cmp_isn, dIs_bl, dIs_tn, dIs_nn, opt_map, decide_eq_true_eq, wp_mod, wp_fdiv, wp_pow, wp_add, wp_sub, wp_mul, wp_mulTI, wp_addT, wp_neg, wp_slT, wp_slR, slW, wp_isLst, lW_l, wp_app, wp_popAt, wp_setR, setW_l, partO, Bool.not_true, Bool.not_false, wp_minI, wp_maxI, wp_intI, wp_intB, wp_absI, wp_srcT, wp_r2, wp_isi, asg_one, asg_two, wp_srcST, isTy_bb, wipe_nil, wipe_cons, at0, at1, ix0, ix1]
      exact ⟨k + 1, sl', _, _, _, by omega, rfl, by rw [q3, ← q1]; rfl, ((g.trans g3).gr (r := sl')).trans q5 |>.ge .refl (by have := g.1; omega), by have := g.1; omega⟩
  · obtain ⟨k, s, x1, y1, z1, h1, rfl, h2, g, hs⟩ := hJ
    simp only [ss_choices_2, wp_bd, wp_ret, wp_nope, wp_chk, wp_some, wp_ite, wp_tru, wpF_bs, wpF_nx, wpF_rt, wpF_bk, wpF_ct, wpF_ite, thenF_nx, thenF_rt, thenF_bk, thenF_ct, wpF_nil, wpF_cons, endF_nx, endF_rt, exe, ev, evs, evI, varM, List.getElem?_cons_zero, List.getElem?_cons_succ, List.set_cons_zero, List.set_cons_succ, Bool.false_eq_true, if_true, if_false, ite_true, ite_false, reduceIte, Option.some.injEq, exists_eq_left', exists_eq_left, wp_ixR, ixW_l, ixW_f, wp_ixT, wp_lenR, lenW_l, lenW_f, wp_lenT, wp_tupR, lsW_l, lsW_f, wp_tupT, wp_listT, wp_cmp, cmp_lt, cmp_le, cmp_gt, cmp_ge, cmp_eq, cmp_ne, eqD_int, eqD_bl, cmp_is, cmp_isn, dIs_bl, dIs_tn, dIs_nn, opt_map, decide_eq_true_eq, wp_mod, wp_fdiv, wp_pow, wp_add, wp_sub, wp_mul, wp_mulTI, wp_addT, wp_neg, wp_slT, wp_slR, slW, wp_isLst, lW_l, wp_app, wp_popAt, wp_setR, setW_l, partO, Bool.not_true, Bool.not_false, wp_minI, wp_maxI, wp_intI, wp_intB, wp_absI, wp_srcT, wp_r2, wp_isi, asg_one, asg_two, wp_srcST, isTy_bb, wipe_nil, wipe_cons, at0, at1, ix0, ix1]
    rw [List.length_nil] at h1
    exact ⟨s, rfl, by rw [h2, show k = many by omega], g, hs⟩
theorem ahead_of_ok (h : t "ahead_of" = some fn_ahead_of) (hk : kb.length ≤ 8) : wp (run t w (n + 1) "ahead_of" [.tup (kb.map kD)]) m fun v m' => ∃ a, v = .ref a ∧ m'[a]? = some (.lst ((List.range (kb.length + 1)).map fun k => D.int (ahN kb k))) ∧ Ge m m' ∧ m.length ≤ a := by
  have big : (2000 : Nat) < sizeLine := by decide
  refine wp_run h rfl ?_
  show wpF (exes _ _ fn_ahead_of.body [some (.tup (kb.map kD)), none, none]) m _
  simp only [fn_ahead_of, ss_ahead_of_0, wp_bd, wp_ret, wp_nope, wp_chk, wp_some, wp_ite, wp_tru, wpF_bs, wpF_nx, wpF_rt, wpF_bk, wpF_ct, wpF_ite, thenF_nx, thenF_rt, thenF_bk, thenF_ct, wpF_nil, wpF_cons, endF_nx, endF_rt, exe, ev, evs, evI, varM, List.getElem?_cons_zero, List.getElem?_cons_succ, List.set_cons_zero, List.set_cons_succ, Bool.false_eq_true, if_true, if_false, ite_true, ite_false, reduceIte, Option.some.injEq, exists_eq_left', exists_eq_left, wp_ixR, ixW_l, ixW_f, wp_ixT, wp_lenR, lenW_l, lenW_f, wp_lenT, wp_tupR, lsW_l, lsW_f, wp_tupT, wp_listT, wp_cmp, cmp_lt, cmp_le, cmp_gt, cmp_ge, cmp_eq, cmp_ne, eqD_int, eqD_bl, cmp_is, cmp_isn, dIs_bl, dIs_tn, dIs_nn, opt_map, decide_eq_true_eq, wp_mod, wp_fdiv, wp_pow, wp_add, wp_sub, wp_mul, wp_mulTI, wp_addT, wp_neg, wp_slT, wp_slR, slW, wp_isLst, lW_l, wp_app, wp_popAt, wp_setR, setW_l, partO, Bool.not_true, Bool.not_false, wp_minI, wp_maxI, wp_intI, wp_intB, wp_absI, wp_srcT, wp_r2, wp_isi, asg_one, asg_two, wp_srcST, isTy_bb, wipe_nil, wipe_cons, at0, at1, ix0, ix1, List.length_nil, List.length_cons]
  refine ⟨by omega, wp_new fun f m1 g1 e1 a1 b1 c1 => ?_⟩
  simp only [ss_ahead_of_1, wp_bd, wp_ret, wp_nope, wp_chk, wp_some, wp_ite, wp_tru, wpF_bs, wpF_nx, wpF_rt, wpF_bk, wpF_ct, wpF_ite, thenF_nx, thenF_rt, thenF_bk, thenF_ct, wpF_nil, wpF_cons, endF_nx, endF_rt, exe, ev, evs, evI, varM, List.getElem?_cons_zero, List.getElem?_cons_succ, List.set_cons_zero, List.set_cons_succ, Bool.false_eq_true, if_true, if_false, ite_true, ite_false, reduceIte, Option.some.injEq, exists_eq_left', exists_eq_left, wp_ixR, ixW_l, ixW_f, wp_ixT, wp_lenR, lenW_l, lenW_f, wp_lenT, wp_tupR, lsW_l, lsW_f, wp_tupT, wp_listT, wp_cmp, cmp_lt, cmp_le, cmp_gt, cmp_ge, cmp_eq, cmp_ne, eqD_int, eqD_bl, cmp_is, cmp_isn, dIs_bl, dIs_tn, dIs_nn, opt_map, decide_eq_true_eq, wp_mod, wp_fdiv, wp_pow, wp_add, wp_sub, wp_mul, wp_mulTI, wp_addT, wp_neg, wp_slT, wp_slR, slW, wp_isLst, lW_l, wp_app, wp_popAt, wp_setR, setW_l, partO, Bool.not_true, Bool.not_false, wp_minI, wp_maxI, wp_intI, wp_intB, wp_absI, wp_srcT, wp_r2, wp_isi, asg_one, asg_two, wp_srcST, isTy_bb, wipe_nil, wipe_cons, at0, at1, ix0, ix1]
  refine wpF_loop (a := []) (J := fun xs ρ m' => ∃ (k : Nat) (b2 : Option D), xs = (kb.drop k).map kD ∧ k ≤ kb.length ∧ ρ = [some (.tup (kb.map kD)), some (.ref f), b2] ∧ m'[f]? = some (.lst ((List.range (k + 1)).map fun k => D.int (ahN kb k))) ∧ Gr f m1 m') (fun _ _ _ _ => trivial) (fun x xs ρ m' hJ => ?_) (fun ρ m' hJ => ?_) _ _ _
    ⟨0, _, rfl, by omega, rfl, e1, .refl⟩
  · obtain ⟨k, b2, ex, hkk, rfl, ef, g⟩ := hJ
    have klt : k < kb.length := by
      refine Nat.lt_of_not_le fun z => ?_
      rw [List.drop_eq_nil_of_le z] at ex
      cases ex
    rw [List.drop_eq_getElem_cons klt, List.map_cons] at ex
    cases ex
    have el : L2.atI ((List.range (k + 1)).map fun k => D.int (ahN kb k)) (-1) = some (.int (ahN kb k)) := atI_last (by rw [List.range_succ, List.map_append]; simp)
    simp only [ss_ahead_of_1b_0, wp_bd, wp_ret, wp_nope, wp_chk, wp_some, wp_ite, wp_tru, wpF_bs, wpF_nx, wpF_rt, wpF_bk, wpF_ct, wpF_ite, thenF_nx, thenF_rt, thenF_bk, thenF_ct, wpF_nil, wpF_cons, endF_nx, endF_rt, exe, ev, evs, evI, varM, List.getElem?_cons_zero, List.getElem?_cons_succ, List.set_cons_zero, List.set_cons_succ, Bool.false_eq_true, if_true, if_false, ite_true, ite_false, reduceIte, Option.some.injEq, exists_eq_left', exists_eq_left, wp_ixR, ixW_l, ixW_f, wp_ixT, wp_lenR, lenW_l, lenW_f, wp_lenT, wp_tupR, lsW_l, lsW_f, wp_tupT, wp_listT, wp_cmp, cmp_lt, cmp_le, cmp_gt, cmp_ge, cmp_eq, cmp_ne, eqD_int, eqD_bl, cmp_is, cmp_isn, dIs_bl, dIs_tn, dIs_nn, opt_map, decide_eq_true_eq, wp_mod, wp_fdiv, wp_pow, wp_add, wp_sub, wp_mul, wp_mulTI, wp_addT, wp_neg, wp_slT, wp_slR, slW, wp_isLst, lW_l, wp_app, wp_popAt, wp_setR, setW_l, partO, Bool.not_true, Bool.not_false, wp_minI, wp_maxI, wp_intI, wp_intB, wp_absI, wp_srcT, wp_r2, wp_isi, asg_one, asg_two, wp_srcST, isTy_bb, wipe_nil, wipe_cons, at0, at1, ix0, ix1, ef]
    refine ⟨_, el, ?_⟩
    simp only [wp_bd, wp_ret, wp_nope, wp_chk, wp_some, wp_ite, wp_tru, wpF_bs, wpF_nx, wpF_rt, wpF_bk, wpF_ct, wpF_ite, thenF_nx, thenF_rt, thenF_bk, thenF_ct, wpF_nil, wpF_cons, endF_nx, endF_rt, exe, ev, evs, evI, varM, List.getElem?_cons_zero, List.getElem?_cons_succ, List.set_cons_zero, List.set_cons_succ, Bool.false_eq_true, if_true, if_false, ite_true, ite_false, reduceIte, Option.some.injEq, exists_eq_left', exists_eq_left, wp_ixR, ixW_l, ixW_f, wp_ixT, wp_lenR, lenW_l, lenW_f, wp_lenT, wp_tupR, lsW_l, lsW_f, wp_tupT, wp_listT, wp_cmp, cmp_lt, cmp_le, cmp_gt, cmp_ge, cmp_eq, cmp_ne, eqD_int, eqD_bl, cmp_is, cmp_isn, dIs_bl, dIs_tn, dIs_nn, opt_map, decide_eq_true_eq, wp_mod, wp_fdiv, wp_pow, wp_add, wp_sub, wp_mul, wp_mulTI, wp_addT, wp_neg, wp_slT, wp_slR, slW, wp_isLst, lW_l, wp_app, wp_popAt, wp_setR, setW_l, partO, Bool.not_true, Bool.not_false, wp_minI, wp_maxI, wp_intI, wp_intB, wp_absI, wp_srcT, wp_r2, wp_isi, asg_one, asg_two, wp_srcST, isTy_bb, wipe_nil, wipe_cons, at0, at1, ix0, ix1, eqD_str, kS_all, ef, List.length_map, List.length_range]
    have e2 : (ahN kb k : Int) + (if (!kb[k]) = true then 1 else 0) = ahN kb (k + 1) := by
      rw [ahN_succ klt]
      have : kAt kb k = kb[k] := by
        unfold kAt
        rw [List.getD_eq_getElem?_getD, List.getElem?_eq_getElem klt]
        rfl
      rw [this]
      cases kb[k] <;> simp
    rw [e2]
    refine ⟨by omega, k + 1, _, rfl, by omega, rfl, ?_, g.trans Gr.set⟩
    rw [getSS ef, List.range_succ (n := k + 1), List.map_append]
    rfl
  · obtain ⟨k, b2, ex, hkk, rfl, ef, g⟩ := hJ
    have : k = kb.length := by
      have := congrArg List.length ex
      rw [List.length_nil, List.length_map, List.length_drop] at this
      omega
    subst this
    simp only [ss_ahead_of_2, wp_bd, wp_ret, wp_nope, wp_chk, wp_some, wp_ite, wp_tru, wpF_bs, wpF_nx, wpF_rt, wpF_bk, wpF_ct, wpF_ite, thenF_nx, thenF_rt, thenF_bk, thenF_ct, wpF_nil, wpF_cons, endF_nx, endF_rt, exe, ev, evs, evI, varM, List.getElem?_cons_zero, List.getElem?_cons_succ, List.set_cons_zero, List.set_cons_succ, Bool.false_eq_true, if_true, if_false, ite_true, ite_false, reduceIte, Option.some.injEq, exists_eq_left', exists_eq_left, wp_ixR, ixW_l, ixW_f, wp_ixT, wp_lenR, lenW_l, lenW_f, wp_lenT, wp_tupR, lsW_l, lsW_f, wp_tupT, wp_listT, wp_cmp, cmp_lt, cmp_le, cmp_gt, cmp_ge, cmp_eq, cmp_ne, eqD_int, eqD_bl, cmp_is, cmp_isn, dIs_bl, dIs_tn, dIs_nn, opt_map, decide_eq_true_eq, wp_mod, wp_fdiv, wp_pow, wp_add, wp_sub, wp_mul, wp_mulTI, wp_addT, wp_neg, wp_slT, wp_slR, slW, wp_isLst, lW_l, wp_app, wp_popAt, wp_setR, setW_l, partO, Bool.not_true, Bool.not_false, wp_minI, wp_maxI, wp_intI, wp_intB, wp_absI, wp_srcT, wp_r2, wp_isi, asg_one, asg_two, wp_srcST, isTy_bb, wipe_nil, wipe_cons, at0, at1, ix0, ix1]
    exact ⟨f, rfl, ef, (g1.gr.trans g).ge .refl (by omega), by omega⟩
abbrev ptD (p : Prt) : D := .tup [.int (p.1 : Nat), bsD p.2]
def partsT (kb : List Bool) (k : Nat) : List Prt := (List.range k).flatMap fun k => if kAt kb k then (lev (ahN kb k)).map fun c => (k + 1, c) else []
theorem partsT_succ {k : Nat} : partsT kb (k + 1) = partsT kb k ++ if kAt kb k then (lev (ahN kb k)).map fun c => (k + 1, c) else [] := by
  unfold partsT
  rw [List.range_succ, List.flatMap_append, List.flatMap_cons, List.flatMap_nil, List.append_nil]
theorem ahN_le : ∀ k, ahN kb k ≤ k := fun k => by
  unfold ahN
  exact Nat.le_trans List.countP_le_length (by rw [List.length_take]; omega)
theorem partsT_len : ∀ k, (partsT kb k).length < 2 ^ k
  | 0 => Nat.zero_lt_one
  | k + 1 => by
    have ih := partsT_len k
    rw [partsT_succ, List.length_append, Nat.pow_succ]
    have h1 := lev_len (ahN kb k)
    have h2 := Nat.pow_le_pow_right (n := 2) (by decide) (ahN_le (kb := kb) k)
    split
    · rw [List.length_map]; omega
    · rw [List.length_nil]; omega
theorem lev_small {k : Nat} (hk : k ≤ 8) : (lev k).length ≤ 256 := by
  have h1 := lev_len k
  have h2 := Nat.pow_le_pow_right (n := 2) (by decide) hk
  omega
theorem parts_of_ok (h0 : t "choices" = some fn_choices) (h1 : t "ahead_of" = some fn_ahead_of) (h : t "parts_of" = some fn_parts_of) (hk : kb.length ≤ 8) : wp (run t w (n + 2) "parts_of" [.tup (kb.map kD)]) m fun v m' => ∃ a, v = .ref a ∧ m'[a]? = some (.lst ((partsL kb).map ptD)) ∧ Ge m m' ∧ m.length ≤ a := by
  have big : (2000 : Nat) < sizeLine := by decide
  refine wp_run h rfl ?_
  show wpF (exes _ _ fn_parts_of.body [some (.tup (kb.map kD)), none, none, none, none]) m _
  simp only [fn_parts_of, ss_parts_of_0, wp_bd, wp_ret, wp_nope, wp_chk, wp_some, wp_ite, wp_tru, wpF_bs, wpF_nx, wpF_rt, wpF_bk, wpF_ct, wpF_ite, thenF_nx, thenF_rt, thenF_bk, thenF_ct, wpF_nil, wpF_cons, endF_nx, endF_rt, exe, ev, evs, evI, varM, List.getElem?_cons_zero, List.getElem?_cons_succ, List.set_cons_zero, List.set_cons_succ, Bool.false_eq_true, if_true, if_false, ite_true, ite_false, reduceIte, Option.some.injEq, exists_eq_left', exists_eq_left, wp_ixR, ixW_l, ixW_f, wp_ixT, wp_lenR, lenW_l, lenW_f, wp_lenT, wp_tupR, lsW_l, lsW_f, wp_tupT, wp_listT, wp_cmp, cmp_lt, cmp_le, cmp_gt, cmp_ge, cmp_eq, cmp_ne, eqD_int, eqD_bl, cmp_is, cmp_isn, dIs_bl, dIs_tn, dIs_nn, opt_map, decide_eq_true_eq, wp_mod, wp_fdiv, wp_pow, wp_add, wp_sub, wp_mul, wp_mulTI, wp_addT, wp_neg, wp_slT, wp_slR, slW, wp_isLst, lW_l, wp_app, wp_popAt, wp_setR, setW_l, partO, Bool.not_true, Bool.not_false, wp_minI, wp_maxI, wp_intI, wp_intB, wp_absI, wp_srcT, wp_r2, wp_isi, asg_one, asg_two, wp_srcST, isTy_bb, wipe_nil, wipe_cons, at0, at1, ix0, ix1]
  refine wp_mono (ahead_of_ok (n := n) h1 hk) fun v m1 ⟨ra, e, e1, g1, a1⟩ => ?_
  subst e
  simp only [ss_parts_of_1, wp_bd, wp_ret, wp_nope, wp_chk, wp_some, wp_ite, wp_tru, wpF_bs, wpF_nx, wpF_rt, wpF_bk, wpF_ct, wpF_ite, thenF_nx, thenF_rt, thenF_bk, thenF_ct, wpF_nil, wpF_cons, endF_nx, endF_rt, exe, ev, evs, evI, varM, List.getElem?_cons_zero, List.getElem?_cons_succ, List.set_cons_zero, List.set_cons_succ, Bool.false_eq_true, if_true, if_false, ite_true, ite_false, reduceIte, Option.some.injEq, exists_eq_left', exists_eq_left, wp_ixR, ixW_l, ixW_f, wp_ixT, wp_lenR, lenW_l, lenW_f, wp_lenT, wp_tupR, lsW_l, lsW_f, wp_tupT, wp_listT, wp_cmp, cmp_lt, cmp_le, cmp_gt, cmp_ge, cmp_eq, cmp_ne, eqD_int, eqD_bl, cmp_is, cmp_isn, dIs_bl, dIs_tn, dIs_nn, opt_map, decide_eq_true_eq, wp_mod, wp_fdiv, wp_pow, wp_add, wp_sub, wp_mul, wp_mulTI, wp_addT, wp_neg, wp_slT, wp_slR, slW, wp_isLst, lW_l, wp_app, wp_popAt, wp_setR, setW_l, partO, Bool.not_true, Bool.not_false, wp_minI, wp_maxI, wp_intI, wp_intB, wp_absI, wp_srcT, wp_r2, wp_isi, asg_one, asg_two, wp_srcST, isTy_bb, wipe_nil, wipe_cons, at0, at1, ix0, ix1, List.length_nil]
  refine ⟨by omega, wp_new fun f m2 g2 e2 a2 b2 c2 => ?_⟩
  simp only [ss_parts_of_2, wp_bd, wp_ret, wp_nope, wp_chk, wp_some, wp_ite, wp_tru, wpF_bs, wpF_nx, wpF_rt, wpF_bk, wpF_ct, wpF_ite, thenF_nx, thenF_rt, thenF_bk, thenF_ct, wpF_nil, wpF_cons, endF_nx, endF_rt, exe, ev, evs, evI, varM, List.getElem?_cons_zero, List.getElem?_cons_succ, List.set_cons_zero, List.set_cons_succ, Bool.false_eq_true, if_true, if_false, ite_true, ite_false, reduceIte, Option.some.injEq, exists_eq_left', exists_eq_left, wp_ixR, ixW_l, ixW_f, wp_ixT, wp_lenR, lenW_l, lenW_f, wp_lenT, wp_tupR, lsW_l, lsW_f, wp_tupT, wp_listT, wp_cmp, cmp_lt, cmp_le, cmp_gt, cmp_ge, cmp_eq, cmp_ne, eqD_int, eqD_bl, cmp_is, cmp_isn, dIs_bl, dIs_tn, dIs_nn, opt_map, decide_eq_true_eq, wp_mod, wp_fdiv, wp_pow, wp_add, wp_sub, wp_mul, wp_mulTI, wp_addT, wp_neg, wp_slT, wp_slR, slW, wp_isLst, lW_l, wp_app, wp_popAt, wp_setR, setW_l, partO, Bool.not_true, Bool.not_false, wp_minI, wp_maxI, wp_intI, wp_intB, wp_absI, wp_srcT, wp_r2, wp_isi, asg_one, asg_two, wp_srcST, isTy_bb, wipe_nil, wipe_cons, at0, at1, ix0, ix1, List.length_map]
  refine ⟨⟨by decide, ⟨by omega, by omega⟩⟩, ?_⟩
  rw [show ((kb.length : Int) - 0).toNat = kb.length by omega, rg_start]
  have e1' := g2.get e1
  have nrf : ra ≠ f := by have := lt_of_get e1; omega
  refine wpF_loop (a := []) (J := fun xs ρ m' => ∃ (k : Nat) (b3 b4 : Option D), xs = ((List.range kb.length).drop k).map rgD ∧ k ≤ kb.length ∧ ρ = [some (.tup (kb.map kD)), some (.ref ra), some (.ref f), b3, b4] ∧ m'[f]? = some (.lst ((partsT kb k).map ptD)) ∧ Gr f m2 m') (fun _ _ _ _ => trivial) (fun x xs ρ m' hJ => ?_) (fun ρ m' hJ => ?_) _ _ _
    ⟨0, _, _, rfl, by omega, rfl, e2, .refl⟩
  · obtain ⟨k, b3, b4, ex, hkk, rfl, ef, g⟩ := hJ
    obtain ⟨klt, rfl, rfl⟩ := rg_drop ex
    have em : rgD k = D.int ((k : Nat) : Int) := by
      show D.int _ = D.int _
      congr 1
      omega
    rw [em]
    have ki := kAt_ix (kb := kb) (i := (k : Int)) (by omega) (by omega)
    rw [Int.toNat_natCast] at ki
    simp only [ss_parts_of_2b_0, wp_bd, wp_ret, wp_nope, wp_chk, wp_some, wp_ite, wp_tru, wpF_bs, wpF_nx, wpF_rt, wpF_bk, wpF_ct, wpF_ite, thenF_nx, thenF_rt, thenF_bk, thenF_ct, wpF_nil, wpF_cons, endF_nx, endF_rt, exe, ev, evs, evI, varM, List.getElem?_cons_zero, List.getElem?_cons_succ, List.set_cons_zero, List.set_cons_succ, Bool.false_eq_true, if_true, if_false, ite_true, ite_false, reduceIte, Option.some.injEq, exists_eq_left', exists_eq_left, wp_ixR, ixW_l, ixW_f, wp_ixT, wp_lenR, lenW_l, lenW_f, wp_lenT, wp_tupR, lsW_l, lsW_f, wp_tupT, wp_listT, wp_cmp, cmp_lt, cmp_le, cmp_gt, cmp_ge, cmp_eq, cmp_ne, eqD_int, eqD_bl, cmp_is, cmp_isn, dIs_bl, dIs_tn, dIs_nn, opt_map, decide_eq_true_eq, wp_mod, wp_fdiv, wp_pow, wp_add, wp_sub, wp_mul, wp_mulTI, wp_addT, wp_neg, wp_slT, wp_slR, slW, wp_isLst, lW_l, wp_app, wp_popAt, wp_setR, setW_l, partO, Bool.not_true, Bool.not_false, wp_minI, wp_maxI, wp_intI, wp_intB, wp_absI, wp_srcT, wp_r2, wp_isi, asg_one, asg_two, wp_srcST, isTy_bb, wipe_nil, wipe_cons, at0, at1, ix0, ix1]
    refine ⟨_, ki, ?_⟩
    simp only [wp_bd, wp_ret, wp_nope, wp_chk, wp_some, wp_ite, wp_tru, wpF_bs, wpF_nx, wpF_rt, wpF_bk, wpF_ct, wpF_ite, thenF_nx, thenF_rt, thenF_bk, thenF_ct, wpF_nil, wpF_cons, endF_nx, endF_rt, exe, ev, evs, evI, varM, List.getElem?_cons_zero, List.getElem?_cons_succ, List.set_cons_zero, List.set_cons_succ, Bool.false_eq_true, if_true, if_false, ite_true, ite_false, reduceIte, Option.some.injEq, exists_eq_left', exists_eq_left, wp_ixR, ixW_l, ixW_f, wp_ixT, wp_lenR, lenW_l, lenW_f, wp_lenT, wp_tupR, lsW_l, lsW_f, wp_tupT, wp_listT, wp_cmp, cmp_lt, cmp_le, cmp_gt, cmp_ge, cmp_eq, cmp_ne, eqD_int, eqD_bl, cmp_is, cmp_isn, dIs_bl, dIs_tn, dIs_nn, opt_map, decide_eq_true_eq, wp_mod, wp_fdiv, wp_pow, wp_add, wp_sub, wp_mul, wp_mulTI, wp_addT, wp_neg, wp_slT, wp_slR, slW, wp_isLst, lW_l, wp_app, wp_popAt, wp_setR, setW_l, partO, Bool.not_true, Bool.not_false, wp_minI, wp_maxI, wp_intI, wp_intB, wp_absI, wp_srcT, wp_r2, wp_isi, asg_one, asg_two, wp_srcST, isTy_bb, wipe_nil, wipe_cons, at0, at1, ix0, ix1, eqD_str, kS_some]
    have hT := partsT_len (kb := kb) k
    have h2k := Nat.pow_le_pow_right (n := 2) (by decide) (show k ≤ 8 by omega)
    cases c : kAt kb k with
    | false =>
      simp only [wp_bd, wp_ret, wp_nope, wp_chk, wp_some, wp_ite, wp_tru, wpF_bs, wpF_nx, wpF_rt, wpF_bk, wpF_ct, wpF_ite, thenF_nx, thenF_rt, thenF_bk, thenF_ct, wpF_nil, wpF_cons, endF_nx, endF_rt, exe, ev, evs, evI, varM, List.getElem?_cons_zero, List.getElem?_cons_succ, List.set_cons_zero, List.set_cons_succ, Bool.false_eq_true, if_true, if_false, ite_true, ite_false, reduceIte, Option.some.injEq, exists_eq_left', exists_eq_left, wp_ixR, ixW_l, ixW_f, wp_ixT, wp_lenR, lenW_l, lenW_f, wp_lenT, wp_tupR, lsW_l, lsW_f, wp_tupT, wp_listT, wp_cmp, cmp_lt, cmp_le, cmp_gt, cmp_ge, cmp_eq, cmp_ne, eqD_int, eqD_bl, cmp_is, cmp_isn, dIs_bl, dIs_tn, dIs_nn, opt_map, decide_eq_true_eq, wp_mod, wp_fdiv, wp_pow, wp_add, wp_sub, wp_mul, wp_mulTI, wp_addT, wp_neg, wp_slT, wp_slR, slW, wp_isLst, lW_l, wp_app, wp_popAt, wp_setR, setW_l, partO, Bool.not_true, Bool.not_false, wp_minI, wp_maxI, wp_intI, wp_intB, wp_absI, wp_srcT, wp_r2, wp_isi, asg_one, asg_two, wp_srcST, isTy_bb, wipe_nil, wipe_cons, at0, at1, ix0, ix1]
      exact ⟨k + 1, _, _, rfl, by omega, rfl, by rw [ef, partsT_succ, c, if_neg (by decide), List.append_nil], g⟩
    | true =>
      have ea := g.get nrf e1'
      simp only [wp_bd, wp_ret, wp_nope, wp_chk, wp_some, wp_ite, wp_tru, wpF_bs, wpF_nx, wpF_rt, wpF_bk, wpF_ct, wpF_ite, thenF_nx, thenF_rt, thenF_bk, thenF_ct, wpF_nil, wpF_cons, endF_nx, endF_rt, exe, ev, evs, evI, varM, List.getElem?_cons_zero, List.getElem?_cons_succ, List.set_cons_zero, List.set_cons_succ, Bool.false_eq_true, if_true, if_false, ite_true, ite_false, reduceIte, Option.some.injEq, exists_eq_left', exists_eq_left, wp_ixR, ixW_l, ixW_f, wp_ixT, wp_lenR, lenW_l, lenW_f, wp_lenT, wp_tupR, lsW_l, lsW_f, wp_tupT, wp_listT, wp_cmp, cmp_lt, cmp_le, cmp_gt, cmp_ge, cmp_eq, cmp_ne, eqD_int, eqD_bl, cmp_is, cmp_isn, dIs_bl, dIs_tn, dIs_nn, opt_map, decide_eq_true_eq, wp_mod, wp_fdiv, wp_pow, wp_add, wp_sub, wp_mul, wp_mulTI, wp_addT, wp_neg, wp_slT, wp_slR, slW, wp_isLst, lW_l, wp_app, wp_popAt, wp_setR, setW_l, partO, Bool.not_true, Bool.not_false, wp_minI, wp_maxI, wp_intI, wp_intB, wp_absI, wp_srcT, wp_r2, wp_isi, asg_one, asg_two, wp_srcST, isTy_bb, wipe_nil, wipe_cons, at0, at1, ix0, ix1, ea, ef]
      obtain ⟨y, y1, y2⟩ := atI_nat (xs := (List.range (kb.length + 1)).map fun k => D.int (ahN kb k)) (i := (k : Int)) (by omega) (by rw [List.length_map, List.length_range]; omega)
      rw [Int.toNat_natCast, List.getElem?_map, List.getElem?_range (by omega)] at y2
      cases y2
      refine ⟨_, y1, ?_⟩
      have h8 : ahN kb k ≤ 8 := Nat.le_trans (ahN_le k) (by omega)
      refine wp_mono (choices_ok (n := n) h0 h8) fun v m3 ⟨rc, e, e3, g3, a3⟩ => ?_
      subst e
      rw [wp_srcR e3]
      refine wp_loopG (a := [(rc, _)]) (f := bsD) (g := fun cs => some (ptD (k + 1, cs))) (fun _ g => g.get e3) _ (fun cs _ m4 g4 => ?_) (fun m4 g4 => ?_)
      · simp only [wp_bd, wp_ret, wp_nope, wp_chk, wp_some, wp_ite, wp_tru, wpF_bs, wpF_nx, wpF_rt, wpF_bk, wpF_ct, wpF_ite, thenF_nx, thenF_rt, thenF_bk, thenF_ct, wpF_nil, wpF_cons, endF_nx, endF_rt, exe, ev, evs, evI, varM, List.getElem?_cons_zero, List.getElem?_cons_succ, List.set_cons_zero, List.set_cons_succ, Bool.false_eq_true, if_true, if_false, ite_true, ite_false, reduceIte, Option.some.injEq, exists_eq_left', exists_eq_left, wp_ixR, ixW_l, ixW_f, wp_ixT, wp_lenR, lenW_l, lenW_f, wp_lenT, wp_tupR, lsW_l, lsW_f, wp_tupT, wp_listT, wp_cmp, cmp_lt, cmp_le, cmp_gt, cmp_ge, cmp_eq, cmp_ne, eqD_int, eqD_bl, cmp_is, cmp_isn, dIs_bl, dIs_tn, dIs_nn, opt_map, decide_eq_true_eq, wp_mod, wp_fdiv, wp_pow, wp_add, wp_sub, wp_mul, wp_mulTI, wp_addT, wp_neg, wp_slT, wp_slR, slW, wp_isLst, lW_l, wp_app, wp_popAt, wp_setR, setW_l, partO, Bool.not_true, Bool.not_false, wp_minI, wp_maxI, wp_intI, wp_intB, wp_absI, wp_srcT, wp_r2, wp_isi, asg_one, asg_two, wp_srcST, isTy_bb, wipe_nil, wipe_cons, at0, at1, ix0, ix1, List.length_cons, List.length_nil]
        exact ⟨by decide, rfl, .refl⟩
      · rw [fmS]
        refine wp_new fun rl m5 g5 e5 a5 b5 c5 => ?_
        have ef5 := (g3.trans (g4.trans g5)).get ef
        have hls := lev_small h8
        refine wp_extend ef5 e5 (by rw [List.length_map, List.length_map]; omega) ?_
        refine ⟨k + 1, _, _, rfl, by omega, rfl, ?_, (g.trans (g3.trans (g4.trans g5)).gr).trans Gr.set⟩
        rw [getSS ef5, partsT_succ, c, if_pos rfl, List.map_append, List.map_map]
        rfl
  · obtain ⟨k, b3, b4, ex, hkk, rfl, ef, g⟩ := hJ
    have : k = kb.length := by
      have := rg_end ex
      omega
    subst this
    simp only [ss_parts_of_3, wp_bd, wp_ret, wp_nope, wp_chk, wp_some, wp_ite, wp_tru, wpF_bs, wpF_nx, wpF_rt, wpF_bk, wpF_ct, wpF_ite, thenF_nx, thenF_rt, thenF_bk, thenF_ct, wpF_nil, wpF_cons, endF_nx, endF_rt, exe, ev, evs, evI, varM, List.getElem?_cons_zero, List.getElem?_cons_succ, List.set_cons_zero, List.set_cons_succ, Bool.false_eq_true, if_true, if_false, ite_true, ite_false, reduceIte, Option.some.injEq, exists_eq_left', exists_eq_left, wp_ixR, ixW_l, ixW_f, wp_ixT, wp_lenR, lenW_l, lenW_f, wp_lenT, wp_tupR, lsW_l, lsW_f, wp_tupT, wp_listT, wp_cmp, cmp_lt, cmp_le, cmp_gt, cmp_ge, cmp_eq, cmp_ne, eqD_int, eqD_bl, cmp_is, cmp_isn, dIs_bl, dIs_tn, dIs_nn, opt_map, decide_eq_true_eq, wp_mod, wp_fdiv, wp_pow, wp_add, wp_sub, wp_mul, wp_mulTI, wp_addT, wp_neg, wp_slT, wp_slR, slW, wp_isLst, lW_l, wp_app, wp_popAt, wp_setR, setW_l, partO, Bool.not_true, Bool.not_false, wp_minI, wp_maxI, wp_intI, wp_intB, wp_absI, wp_srcT, wp_r2, wp_isi, asg_one, asg_two, wp_srcST, isTy_bb, wipe_nil, wipe_cons, at0, at1, ix0, ix1]
    exact ⟨f, rfl, ef, ((g1.trans g2).gr.trans g).ge .refl (by have := g1.1; omega), by have := g1.1; omega⟩
def kP (p : Prt) : NestedKey := .tup [.num (p.1 : Nat), kB p.2]
theorem kd_pt {p : Prt} : kd (ptD p) = some (kP p) := by
  show (mapO (keyD 6) [.int (p.1 : Nat), bsD p.2]).map NestedKey.tup = _
  have e : keyD 6 (bsD p.2) = some (kB p.2) := by
    show (mapO (keyD 5) (p.2.map D.bl)).map NestedKey.tup = _
    rw [mapO_kb]
    rfl
  have e1 : keyD 6 (.int (p.1 : Nat)) = some (.num (p.1 : Nat)) := rfl
  rw [mapO, e1]
  dsimp only
  rw [mapO, e]
  rfl
theorem kP_inj {p q : Prt} (h : kP p = kP q) : p = q := by
  unfold kP at h
  replace h := NestedKey.tup.inj h
  obtain ⟨h1, h2⟩ := List.cons.inj h
  have h1 := NestedKey.num.inj h1
  have h2 := kB_inj (List.cons.inj h2).1
  obtain ⟨a, b⟩ := p
  obtain ⟨c, d⟩ := q
  dsimp only at h1 h2
  rw [h2, show a = c by omega]
def NumD (kb : List Bool) (m : Mu) (r : Nat) : Prop := ∃ kvs : List (D × D), m[r]? = some (.dct false kvs) ∧ ∀ p ∈ partsL kb, dLook kvs (kP p) = some (.int (numP kb p))
theorem NumD.ge {r : Nat} (h : NumD kb m r) (g : Ge m m') : NumD kb m' r := by
  obtain ⟨kvs, h1, h2⟩ := h
  exact ⟨kvs, g.get h1, h2⟩
theorem spread_row_ok (h : t "spread_row" = some fn_spread_row) (hk : kb.length ≤ 8) {ra rn : Nat} {row : List Int} {a : List Bool} (ha : m[ra]? = some (.lst ((List.range (kb.length + 1)).map fun k => D.int (ahN kb k)))) (hn : NumD kb m rn) (hrow : RowL kb.length row) (hal : a.length = ahN kb kb.length) : wp (run t w (n + 1) "spread_row" [.tup (kb.map kD), .ref ra, .ref rn, lsD row, bsD a]) m fun v m' => v = joinD (spR kb a row) ∧ Ge m m' := by
  have big : (2000 : Nat) < sizeLine := by decide
  refine wp_run h rfl ?_
  show wpF (exes _ _ fn_spread_row.body [some (.tup (kb.map kD)), some (.ref ra), some (.ref rn), some (lsD row), some (bsD a), none, none, none, none]) m _
  simp only [fn_spread_row, ss_spread_row_0, wp_bd, wp_ret, wp_nope, wp_chk, wp_some, wp_ite, wp_tru, wpF_bs, wpF_nx, wpF_rt, wpF_bk, wpF_ct, wpF_ite, thenF_nx, thenF_rt, thenF_bk, thenF_ct, wpF_nil, wpF_cons, endF_nx, endF_rt, exe, ev, evs, evI, varM, List.getElem?_cons_zero, List.getElem?_cons_succ, List.set_cons_zero, List.set_cons_succ, Bool.false_eq_true, if_true, if_false, ite_true, ite_false, reduceIte, Option.some.injEq, exists_eq_left', exists_eq_left, wp_ixR, ixW_l, ixW_f, wp_ixT, wp_lenR, lenW_l, lenW_f, wp_lenT, wp_tupR, lsW_l, lsW_f, wp_tupT, wp_listT, wp_cmp, cmp_lt, cmp_le, cmp_gt, cmp_ge, cmp_eq, cmp_ne, eqD_int, eqD_bl, cmp_is, cmp_isn, dIs_bl, dIs_tn, dIs_nn, opt_map, decide_eq_true_eq, wp_mod, wp_fdiv, wp_pow, wp_add, wp_sub, wp_mul, wp_mulTI, wp_addT, wp_neg, wp_slT, wp_slR, slW, wp_isLst, lW_l, wp_app, wp_popAt, wp_setR, setW_l, partO, Bool.not_true, Bool.not_false, wp_minI, wp_maxI, wp_intI, wp_intB, wp_absI, wp_srcT, wp_r2, wp_isi, asg_one, asg_two, wp_srcST, isTy_bb, wipe_nil, wipe_cons, at0, at1, ix0, ix1, List.length_nil]
  refine ⟨by omega, wp_new fun f m1 g1 e1 a1 b1 c1 => ?_⟩
  simp only [ss_spread_row_1, wp_bd, wp_ret, wp_nope, wp_chk, wp_some, wp_ite, wp_tru, wpF_bs, wpF_nx, wpF_rt, wpF_bk, wpF_ct, wpF_ite, thenF_nx, thenF_rt, thenF_bk, thenF_ct, wpF_nil, wpF_cons, endF_nx, endF_rt, exe, ev, evs, evI, varM, List.getElem?_cons_zero, List.getElem?_cons_succ, List.set_cons_zero, List.set_cons_succ, Bool.false_eq_true, if_true, if_false, ite_true, ite_false, reduceIte, Option.some.injEq, exists_eq_left', exists_eq_left, wp_ixR, ixW_l, ixW_f, wp_ixT, wp_lenR, lenW_l, lenW_f, wp_lenT, wp_tupR, lsW_l, lsW_f, wp_tupT, wp_listT, wp_cmp, cmp_lt, cmp_le, cmp_gt, cmp_ge, cmp_eq, cmp_ne, eqD_int, eqD_bl, cmp_is, cmp_isn, dIs_bl, dIs_tn, dIs_nn, opt_map, decide_eq_true_eq, wp_mod, wp_fdiv, wp_pow, wp_add, wp_sub, wp_mul, wp_mulTI, wp_addT, wp_neg, wp_slT, wp_slR, slW, wp_isLst, lW_l, wp_app, wp_popAt, wp_setR, setW_l, partO, Bool.not_true, Bool.not_false, wp_minI, wp_maxI, wp_intI, wp_intB, wp_absI, wp_srcT, wp_r2, wp_isi, asg_one, asg_two, wp_srcST, isTy_bb, wipe_nil, wipe_cons, at0, at1, ix0, ix1]
  have rl : row.length ≤ kb.length := by have := hrow.len; omega
  have fra : ra ≠ f := by have := lt_of_get ha; omega
  have frn : rn ≠ f := by obtain ⟨kvs, q, _⟩ := hn; have := lt_of_get q; omega
  refine wpF_loop (a := []) (J := fun xs ρ m' => ∃ (done rest acc : List Int) (b6 b7 b8 : Option D), row = done ++ rest ∧ xs = rest.map D.int ∧ ρ = [some (.tup (kb.map kD)), some (.ref ra), some (.ref rn), some (lsD row), some (bsD a), some (.ref f), b6, b7, b8] ∧ m'[f]? = some (.lst (acc.map D.int)) ∧ acc.length ≤ done.length ∧ spR kb a row = (spR kb a rest).map (acc ++ ·) ∧ Gr f m1 m') (fun _ _ _ _ => trivial) (fun x xs ρ m' hJ => ?_) (fun ρ m' hJ => ?_) _ _ _
    ⟨[], row, [], _, _, _, rfl, rfl, rfl, e1, Nat.le_refl _, by cases spR kb a row <;> rfl, .refl⟩
  · obtain ⟨done, rest, acc, b6, b7, b8, er, ex, rfl, ef, hl, hs, g⟩ := hJ
    cases rest with
    | nil => cases ex
    | cons l rest =>
      cases ex
      have lr : l ∈ row := by rw [er]; simp
      have hln : done.length + (rest.length + 1) = row.length := by rw [er, List.length_append, List.length_cons]
      obtain ⟨l1, l2⟩ := hrow.2 l lr
      have ki := kAt_ix (kb := kb) (i := ((l.natAbs : Nat) : Int) - 1) (by omega) (by omega)
      rw [show (((l.natAbs : Nat) : Int) - 1).toNat = l.natAbs - 1 by omega] at ki
      simp only [ss_spread_row_1b_0, wp_bd, wp_ret, wp_nope, wp_chk, wp_some, wp_ite, wp_tru, wpF_bs, wpF_nx, wpF_rt, wpF_bk, wpF_ct, wpF_ite, thenF_nx, thenF_rt, thenF_bk, thenF_ct, wpF_nil, wpF_cons, endF_nx, endF_rt, exe, ev, evs, evI, varM, List.getElem?_cons_zero, List.getElem?_cons_succ, List.set_cons_zero, List.set_cons_succ, Bool.false_eq_true, if_true, if_false, ite_true, ite_false, reduceIte, Option.some.injEq, exists_eq_left', exists_eq_left, wp_ixR, ixW_l, ixW_f, wp_ixT, wp_lenR, lenW_l, lenW_f, wp_lenT, wp_tupR, lsW_l, lsW_f, wp_tupT, wp_listT, wp_cmp, cmp_lt, cmp_le, cmp_gt, cmp_ge, cmp_eq, cmp_ne, eqD_int, eqD_bl, cmp_is, cmp_isn, dIs_bl, dIs_tn, dIs_nn, opt_map, decide_eq_true_eq, wp_mod, wp_fdiv, wp_pow, wp_add, wp_sub, wp_mul, wp_mulTI, wp_addT, wp_neg, wp_slT, wp_slR, slW, wp_isLst, lW_l, wp_app, wp_popAt, wp_setR, setW_l, partO, Bool.not_true, Bool.not_false, wp_minI, wp_maxI, wp_intI, wp_intB, wp_absI, wp_srcT, wp_r2, wp_isi, asg_one, asg_two, wp_srcST, isTy_bb, wipe_nil, wipe_cons, at0, at1, ix0, ix1]
      simp only [ss_spread_row_1b_1, wp_bd, wp_ret, wp_nope, wp_chk, wp_some, wp_ite, wp_tru, wpF_bs, wpF_nx, wpF_rt, wpF_bk, wpF_ct, wpF_ite, thenF_nx, thenF_rt, thenF_bk, thenF_ct, wpF_nil, wpF_cons, endF_nx, endF_rt, exe, ev, evs, evI, varM, List.getElem?_cons_zero, List.getElem?_cons_succ, List.set_cons_zero, List.set_cons_succ, Bool.false_eq_true, if_true, if_false, ite_true, ite_false, reduceIte, Option.some.injEq, exists_eq_left', exists_eq_left, wp_ixR, ixW_l, ixW_f, wp_ixT, wp_lenR, lenW_l, lenW_f, wp_lenT, wp_tupR, lsW_l, lsW_f, wp_tupT, wp_listT, wp_cmp, cmp_lt, cmp_le, cmp_gt, cmp_ge, cmp_eq, cmp_ne, eqD_int, eqD_bl, cmp_is, cmp_isn, dIs_bl, dIs_tn, dIs_nn, opt_map, decide_eq_true_eq, wp_mod, wp_fdiv, wp_pow, wp_add, wp_sub, wp_mul, wp_mulTI, wp_addT, wp_neg, wp_slT, wp_slR, slW, wp_isLst, lW_l, wp_app, wp_popAt, wp_setR, setW_l, partO, Bool.not_true, Bool.not_false, wp_minI, wp_maxI, wp_intI, wp_intB, wp_absI, wp_srcT, wp_r2, wp_isi, asg_one, asg_two, wp_srcST, isTy_bb, wipe_nil, wipe_cons, at0, at1, ix0, ix1]
      refine ⟨_, ki, ?_⟩
      simp only [wp_bd, wp_ret, wp_nope, wp_chk, wp_some, wp_ite, wp_tru, wpF_bs, wpF_nx, wpF_rt, wpF_bk, wpF_ct, wpF_ite, thenF_nx, thenF_rt, thenF_bk, thenF_ct, wpF_nil, wpF_cons, endF_nx, endF_rt, exe, ev, evs, evI, varM, List.getElem?_cons_zero, List.getElem?_cons_succ, List.set_cons_zero, List.set_cons_succ, Bool.false_eq_true, if_true, if_false, ite_true, ite_false, reduceIte, Option.some.injEq, exists_eq_left', exists_eq_left, wp_ixR, ixW_l, ixW_f, wp_ixT, wp_lenR, lenW_l, lenW_f, wp_lenT, wp_tupR, lsW_l, lsW_f, wp_tupT, wp_listT, wp_cmp, cmp_lt, cmp_le, cmp_gt, cmp_ge, cmp_eq, cmp_ne, eqD_int, eqD_bl, cmp_is, cmp_isn, dIs_bl, dIs_tn, dIs_nn, opt_map, decide_eq_true_eq, wp_mod, wp_fdiv, wp_pow, wp_add, wp_sub, wp_mul, wp_mulTI, wp_addT, wp_neg, wp_slT, wp_slR, slW, wp_isLst, lW_l, wp_app, wp_popAt, wp_setR, setW_l, partO, Bool.not_true, Bool.not_false, wp_minI, wp_maxI, wp_intI, wp_intB, wp_absI, wp_srcT, wp_r2, wp_isi, asg_one, asg_two, wp_srcST, isTy_bb, wipe_nil, wipe_cons, at0, at1, ix0, ix1, eqD_str, kS_some]
      have ga := g.get fra (g1.get ha)
      obtain ⟨y, y1, y2⟩ := atI_nat (xs := (List.range (kb.length + 1)).map fun k => D.int (ahN kb k)) (i := ((l.natAbs : Nat) : Int) - 1) (by omega) (by rw [List.length_map, List.length_range]; omega)
      rw [show (((l.natAbs : Nat) : Int) - 1).toNat = l.natAbs - 1 by omega, List.getElem?_map, List.getElem?_range (by omega)] at y2
      cases y2
      rw [spR_cons] at hs
      cases c : kAt kb (l.natAbs - 1) with
      | true =>
        rw [c, if_pos rfl] at hs
        simp only [wp_bd, wp_ret, wp_nope, wp_chk, wp_some, wp_ite, wp_tru, wpF_bs, wpF_nx, wpF_rt, wpF_bk, wpF_ct, wpF_ite, thenF_nx, thenF_rt, thenF_bk, thenF_ct, wpF_nil, wpF_cons, endF_nx, endF_rt, exe, ev, evs, evI, varM, List.getElem?_cons_zero, List.getElem?_cons_succ, List.set_cons_zero, List.set_cons_succ, Bool.false_eq_true, if_true, if_false, ite_true, ite_false, reduceIte, Option.some.injEq, exists_eq_left', exists_eq_left, wp_ixR, ixW_l, ixW_f, wp_ixT, wp_lenR, lenW_l, lenW_f, wp_lenT, wp_tupR, lsW_l, lsW_f, wp_tupT, wp_listT, wp_cmp, cmp_lt, cmp_le, cmp_gt, cmp_ge, cmp_eq, cmp_ne, eqD_int, eqD_bl, cmp_is, cmp_isn, dIs_bl, dIs_tn, dIs_nn, opt_map, decide_eq_true_eq, wp_mod, wp_fdiv, wp_pow, wp_add, wp_sub, wp_mul, wp_mulTI, wp_addT, wp_neg, wp_slT, wp_slR, slW, wp_isLst, lW_l, wp_app, wp_popAt, wp_setR, setW_l, partO, Bool.not_true, Bool.not_false, wp_minI, wp_maxI, wp_intI, wp_intB, wp_absI, wp_srcT, wp_r2, wp_isi, asg_one, asg_two, wp_srcST, isTy_bb, wipe_nil, wipe_cons, at0, at1, ix0, ix1, ga]
        refine ⟨_, y1, ?_⟩
        simp only [wp_bd, wp_ret, wp_nope, wp_chk, wp_some, wp_ite, wp_tru, wpF_bs, wpF_nx, wpF_rt, wpF_bk, wpF_ct, wpF_ite, thenF_nx, thenF_rt, thenF_bk, thenF_ct, wpF_nil, wpF_cons, endF_nx, endF_rt, exe, ev, evs, evI, varM, List.getElem?_cons_zero, List.getElem?_cons_succ, List.set_cons_zero, List.set_cons_succ, Bool.false_eq_true, if_true, if_false, ite_true, ite_false, reduceIte, Option.some.injEq, exists_eq_left', exists_eq_left, wp_ixR, ixW_l, ixW_f, wp_ixT, wp_lenR, lenW_l, lenW_f, wp_lenT, wp_tupR, lsW_l, lsW_f, wp_tupT, wp_listT, wp_cmp, cmp_lt, cmp_le, cmp_gt, cmp_ge, cmp_eq, cmp_ne, eqD_int, eqD_bl, cmp_is, cmp_isn, dIs_bl, dIs_tn, dIs_nn, opt_map, decide_eq_true_eq, wp_mod, wp_fdiv, wp_pow, wp_add, wp_sub, wp_mul, wp_mulTI, wp_addT, wp_neg, wp_slT, wp_slR, slW, wp_isLst, lW_l, wp_app, wp_popAt, wp_setR, setW_l, partO, Bool.not_true, Bool.not_false, wp_minI, wp_maxI, wp_intI, wp_intB, wp_absI, wp_srcT, wp_r2, wp_isi, asg_one, asg_two, wp_srcST, isTy_bb, wipe_nil, wipe_cons, at0, at1, ix0, ix1, List.length_cons, List.length_nil]
        rw [cut_U (by omega), Int.toNat_natCast, ← List.map_take]
        refine ⟨by decide, ?_⟩
        obtain ⟨kvs, n1, n2⟩ := hn
        have n1' := g.get frn (g1.get n1)
        have hin := part_in (kb := kb) (a := a) (k := l.natAbs - 1) (by omega) c hal
        rw [show l.natAbs - 1 + 1 = l.natAbs by omega] at hin
        have hlk := n2 _ hin
        have ekey : (D.tup [D.int (((l.natAbs : Nat) : Int) - 1 + 1), bsD (a.take (ahN kb (l.natAbs - 1)))]) = ptD (l.natAbs, a.take (ahN kb (l.natAbs - 1))) := by
          show D.tup _ = D.tup _
          congr 2
          congr 1
          omega
        rw [ekey, wp_dget n1' kd_pt hlk]
        generalize hnum : numP kb (l.natAbs, a.take (ahN kb (l.natAbs - 1))) = num at hs ⊢
        have fin : ∀ z : Int, spR kb a row = (spR kb a rest).map ((acc ++ [z]) ++ ·) → ∃ (done' rest' acc' : List Int) (b6 b7 b8 : Option D), row = done' ++ rest' ∧ rest.map D.int = rest'.map D.int ∧ [some (D.tup (kb.map kD)), some (.ref ra), some (.ref rn), some (lsD row), some (bsD a), some (.ref f), some (.int l), some (.int (((l.natAbs : Nat) : Int) - 1)), some (.int num)] = [some (.tup (kb.map kD)), some (.ref ra), some (.ref rn), some (lsD row), some (bsD a), some (.ref f), b6, b7, b8] ∧ (m'.set f (.lst (acc.map D.int ++ [.int z])))[f]? = some (.lst (acc'.map D.int)) ∧ acc'.length ≤ done'.length ∧ spR kb a row = (spR kb a rest').map (acc' ++ ·) ∧ Gr f m1 (m'.set f (.lst (acc.map D.int ++ [.int z]))) := fun z hz =>
          ⟨done ++ [l], rest, acc ++ [z], _, _, _, by rw [er]; simp, rfl, rfl, by rw [getSS ef, List.map_append]; rfl, by rw [List.length_append, List.length_append]; simp; omega, hz, g.trans Gr.set⟩
        simp only [wp_bd, wp_ret, wp_nope, wp_chk, wp_some, wp_ite, wp_tru, wpF_bs, wpF_nx, wpF_rt, wpF_bk, wpF_ct, wpF_ite, thenF_nx, thenF_rt, thenF_bk, thenF_ct, wpF_nil, wpF_cons, endF_nx, endF_rt, exe, ev, evs, evI, varM, List.getElem?_cons_zero, List.getElem?_cons_succ, List.set_cons_zero, List.set_cons_succ, Bool.false_eq_true, if_true, if_false, ite_true, ite_false, reduceIte, Option.some.injEq, exists_eq_left', exists_eq_left, wp_ixR, ixW_l, ixW_f, wp_ixT, wp_lenR, lenW_l, lenW_f, wp_lenT, wp_tupR, lsW_l, lsW_f, wp_tupT, wp_listT, wp_cmp, cmp_lt, cmp_le, cmp_gt, cmp_ge, cmp_eq, cmp_ne, eqD_int, eqD_bl, cmp_is, cmp_isn, dIs_bl, dIs_tn, dIs_nn, opt_map, decide_eq_true_eq, wp_mod, wp_fdiv, wp_pow, wp_add, wp_sub, wp_mul, wp_mulTI, wp_addT, wp_neg, wp_slT, wp_slR, slW, wp_isLst, lW_l, wp_app, wp_popAt, wp_setR, setW_l, partO, Bool.not_true, Bool.not_false, wp_minI, wp_maxI, wp_intI, wp_intB, wp_absI, wp_srcT, wp_r2, wp_isi, asg_one, asg_two, wp_srcST, isTy_bb, wipe_nil, wipe_cons, at0, at1, ix0, ix1, ef, List.length_map]
        by_cases p : l > 0
        · rw [if_pos p] at hs
          simp only [if_pos p, wp_bd, wp_ret, wp_nope, wp_chk, wp_some, wp_ite, wp_tru, wpF_bs, wpF_nx, wpF_rt, wpF_bk, wpF_ct, wpF_ite, thenF_nx, thenF_rt, thenF_bk, thenF_ct, wpF_nil, wpF_cons, endF_nx, endF_rt, exe, ev, evs, evI, varM, List.getElem?_cons_zero, List.getElem?_cons_succ, List.set_cons_zero, List.set_cons_succ, Bool.false_eq_true, if_true, if_false, ite_true, ite_false, reduceIte, Option.some.injEq, exists_eq_left', exists_eq_left, wp_ixR, ixW_l, ixW_f, wp_ixT, wp_lenR, lenW_l, lenW_f, wp_lenT, wp_tupR, lsW_l, lsW_f, wp_tupT, wp_listT, wp_cmp, cmp_lt, cmp_le, cmp_gt, cmp_ge, cmp_eq, cmp_ne, eqD_int, eqD_bl, cmp_is, cmp_isn, dIs_bl, dIs_tn, dIs_nn, opt_map, decide_eq_true_eq, wp_mod, wp_fdiv, wp_pow, wp_add, wp_sub, wp_mul, wp_mulTI, wp_addT, wp_neg, wp_slT, wp_slR, slW, wp_isLst, lW_l, wp_app, wp_popAt, wp_setR, setW_l, partO, Bool.not_true, Bool.not_false, wp_minI, wp_maxI, wp_intI, wp_intB, wp_absI, wp_srcT, wp_r2, wp_isi, asg_one, asg_two, wp_srcST, isTy_bb, wipe_nil, wipe_cons, at0, at1, ix0, ix1, ef, List.length_map]
          refine ⟨by omega, fin num ?_⟩
          rw [hs]
          cases spR kb a rest <;> simp
        · rw [if_neg p] at hs
          simp only [if_neg p, wp_bd, wp_ret, wp_nope, wp_chk, wp_some, wp_ite, wp_tru, wpF_bs, wpF_nx, wpF_rt, wpF_bk, wpF_ct, wpF_ite, thenF_nx, thenF_rt, thenF_bk, thenF_ct, wpF_nil, wpF_cons, endF_nx, endF_rt, exe, ev, evs, evI, varM, List.getElem?_cons_zero, List.getElem?_cons_succ, List.set_cons_zero, List.set_cons_succ, Bool.false_eq_true, if_true, if_false, ite_true, ite_false, reduceIte, Option.some.injEq, exists_eq_left', exists_eq_left, wp_ixR, ixW_l, ixW_f, wp_ixT, wp_lenR, lenW_l, lenW_f, wp_lenT, wp_tupR, lsW_l, lsW_f, wp_tupT, wp_listT, wp_cmp, cmp_lt, cmp_le, cmp_gt, cmp_ge, cmp_eq, cmp_ne, eqD_int, eqD_bl, cmp_is, cmp_isn, dIs_bl, dIs_tn, dIs_nn, opt_map, decide_eq_true_eq, wp_mod, wp_fdiv, wp_pow, wp_add, wp_sub, wp_mul, wp_mulTI, wp_addT, wp_neg, wp_slT, wp_slR, slW, wp_isLst, lW_l, wp_app, wp_popAt, wp_setR, setW_l, partO, Bool.not_true, Bool.not_false, wp_minI, wp_maxI, wp_intI, wp_intB, wp_absI, wp_srcT, wp_r2, wp_isi, asg_one, asg_two, wp_srcST, isTy_bb, wipe_nil, wipe_cons, at0, at1, ix0, ix1, ef, List.length_map]
          refine ⟨by omega, fin (-num) ?_⟩
          rw [hs]
          cases spR kb a rest <;> simp
      | false =>
        rw [c, if_neg (by decide)] at hs
        simp only [wp_bd, wp_ret, wp_nope, wp_chk, wp_some, wp_ite, wp_tru, wpF_bs, wpF_nx, wpF_rt, wpF_bk, wpF_ct, wpF_ite, thenF_nx, thenF_rt, thenF_bk, thenF_ct, wpF_nil, wpF_cons, endF_nx, endF_rt, exe, ev, evs, evI, varM, List.getElem?_cons_zero, List.getElem?_cons_succ, List.set_cons_zero, List.set_cons_succ, Bool.false_eq_true, if_true, if_false, ite_true, ite_false, reduceIte, Option.some.injEq, exists_eq_left', exists_eq_left, wp_ixR, ixW_l, ixW_f, wp_ixT, wp_lenR, lenW_l, lenW_f, wp_lenT, wp_tupR, lsW_l, lsW_f, wp_tupT, wp_listT, wp_cmp, cmp_lt, cmp_le, cmp_gt, cmp_ge, cmp_eq, cmp_ne, eqD_int, eqD_bl, cmp_is, cmp_isn, dIs_bl, dIs_tn, dIs_nn, opt_map, decide_eq_true_eq, wp_mod, wp_fdiv, wp_pow, wp_add, wp_sub, wp_mul, wp_mulTI, wp_addT, wp_neg, wp_slT, wp_slR, slW, wp_isLst, lW_l, wp_app, wp_popAt, wp_setR, setW_l, partO, Bool.not_true, Bool.not_false, wp_minI, wp_maxI, wp_intI, wp_intB, wp_absI, wp_srcT, wp_r2, wp_isi, asg_one, asg_two, wp_srcST, isTy_bb, wipe_nil, wipe_cons, at0, at1, ix0, ix1, ga]
        refine ⟨_, y1, ?_⟩
        have hlt : ahN kb (l.natAbs - 1) < a.length := by
          have := ahN_succ (kb := kb) (k := l.natAbs - 1) (by omega)
          rw [c, if_neg (by decide)] at this
          have := ahN_mono (kb := kb) (show l.natAbs - 1 + 1 ≤ kb.length by omega)
          omega
        obtain ⟨y, z1, z2⟩ := atI_nat (xs := a.map D.bl) (i := ((ahN kb (l.natAbs - 1) : Nat) : Int)) (by omega) (by rw [List.length_map]; omega)
        rw [Int.toNat_natCast, List.getElem?_map, List.getElem?_eq_getElem hlt] at z2
        cases z2
        rw [List.getD_eq_getElem?_getD, List.getElem?_eq_getElem hlt] at hs
        simp only [wp_bd, wp_ret, wp_nope, wp_chk, wp_some, wp_ite, wp_tru, wpF_bs, wpF_nx, wpF_rt, wpF_bk, wpF_ct, wpF_ite, thenF_nx, thenF_rt, thenF_bk, thenF_ct, wpF_nil, wpF_cons, endF_nx, endF_rt, exe, ev, evs, evI, varM, List.getElem?_cons_zero, List.getElem?_cons_succ, List.set_cons_zero, List.set_cons_succ, Bool.false_eq_true, if_true, if_false, ite_true, ite_false, reduceIte, Option.some.injEq, exists_eq_left', exists_eq_left, wp_ixR, ixW_l, ixW_f, wp_ixT, wp_lenR, lenW_l, lenW_f, wp_lenT, wp_tupR, lsW_l, lsW_f, wp_tupT, wp_listT, wp_cmp, cmp_lt, cmp_le, cmp_gt, cmp_ge, cmp_eq, cmp_ne, eqD_int, eqD_bl, cmp_is, cmp_isn, dIs_bl, dIs_tn, dIs_nn, opt_map, decide_eq_true_eq, wp_mod, wp_fdiv, wp_pow, wp_add, wp_sub, wp_mul, wp_mulTI, wp_addT, wp_neg, wp_slT, wp_slR, slW, wp_isLst, lW_l, wp_app, wp_popAt, wp_setR, setW_l, partO, Bool.not_true, Bool.not_false, wp_minI, wp_maxI, wp_intI, wp_intB, wp_absI, wp_srcT, wp_r2, wp_isi, asg_one, asg_two, wp_srcST, isTy_bb, wipe_nil, wipe_cons, at0, at1, ix0, ix1]
        refine ⟨_, z1, ?_⟩
        simp only [wp_bd, wp_ret, wp_nope, wp_chk, wp_some, wp_ite, wp_tru, wpF_bs, wpF_nx, wpF_rt, wpF_bk, wpF_ct, wpF_ite, thenF_nx, thenF_rt, thenF_bk, thenF_ct, wpF_nil, wpF_cons, endF_nx, endF_rt, exe, ev, evs, evI, varM, List.getElem?_cons_zero, List.getElem?_cons_succ, List.set_cons_zero, List.set_cons_succ, Bool.false_eq_true, if_true, if_false, ite_true, ite_false, reduceIte, Option.some.injEq, exists_eq_left', exists_eq_left, wp_ixR, ixW_l, ixW_f, wp_ixT, wp_lenR, lenW_l, lenW_f, wp_lenT, wp_tupR, lsW_l, lsW_f, wp_tupT, wp_listT, wp_cmp, cmp_lt, cmp_le, cmp_gt, cmp_ge, cmp_eq, cmp_ne, eqD_int, eqD_bl, cmp_is, cmp_isn, dIs_bl, dIs_tn, dIs_nn, opt_map, decide_eq_true_eq, wp_mod, wp_fdiv, wp_pow, wp_add, wp_sub, wp_mul, wp_mulTI, wp_addT, wp_neg, wp_slT, wp_slR, slW, wp_isLst, lW_l, wp_app, wp_popAt, wp_setR, setW_l, partO, Bool.not_true, Bool.not_false, wp_minI, wp_maxI, wp_intI, wp_intB, wp_absI, wp_srcT, wp_r2, wp_isi, asg_one, asg_two, wp_srcST, isTy_bb, wipe_nil, wipe_cons, at0, at1, ix0, ix1]
        cases e : a[ahN kb (l.natAbs - 1)] == decide (0 < l) with
        | true =>
          rw [Option.getD_some, e, if_pos rfl] at hs
          rw [if_pos rfl, hs]
          exact ⟨rfl, g.ge g1 (by omega)⟩
        | false =>
          rw [Option.getD_some, e, if_neg (by decide)] at hs
          rw [if_neg (by decide)]
          exact ⟨done ++ [l], rest, acc, _, _, _, by rw [er]; simp, rfl, rfl, ef, by rw [List.length_append]; omega, hs, g⟩
  · obtain ⟨done, rest, acc, b6, b7, b8, er, ex, rfl, ef, hl, hs, g⟩ := hJ
    have : rest = [] := by
      cases rest with
      | nil => rfl
      | cons _ _ => cases ex
    subst this
    simp only [ss_spread_row_2, wp_bd, wp_ret, wp_nope, wp_chk, wp_some, wp_ite, wp_tru, wpF_bs, wpF_nx, wpF_rt, wpF_bk, wpF_ct, wpF_ite, thenF_nx, thenF_rt, thenF_bk, thenF_ct, wpF_nil, wpF_cons, endF_nx, endF_rt, exe, ev, evs, evI, varM, List.getElem?_cons_zero, List.getElem?_cons_succ, List.set_cons_zero, List.set_cons_succ, Bool.false_eq_true, if_true, if_false, ite_true, ite_false, reduceIte, Option.some.injEq, exists_eq_left', exists_eq_left, wp_ixR, ixW_l, ixW_f, wp_ixT, wp_lenR, lenW_l, lenW_f, wp_lenT, wp_tupR, lsW_l, lsW_f, wp_tupT, wp_listT, wp_cmp, cmp_lt, cmp_le, cmp_gt, cmp_ge, cmp_eq, cmp_ne, eqD_int, eqD_bl, cmp_is, cmp_isn, dIs_bl, dIs_tn, dIs_nn, opt_map, decide_eq_true_eq, wp_mod, wp_fdiv, wp_pow, wp_add, wp_sub, wp_mul, wp_mulTI, wp_addT, wp_neg, wp_slT, wp_slR, slW, wp_isLst, lW_l, wp_app, wp_popAt, wp_setR, setW_l, partO, Bool.not_true, Bool.not_false, wp_minI, wp_maxI, wp_intI, wp_intB, wp_absI, wp_srcT, wp_r2, wp_isi, asg_one, asg_two, wp_srcST, isTy_bb, wipe_nil, wipe_cons, at0, at1, ix0, ix1, ef]
    refine ⟨?_, g.ge g1 (by omega)⟩
    rw [hs]
    show _ = lsD (acc ++ [])
    rw [List.append_nil]
structure Spr (t : Str → Option Fn) : Prop where
  choices : t "choices" = some fn_choices
  ahead : t "ahead_of" = some fn_ahead_of
  parts : t "parts_of" = some fn_parts_of
  row : t "spread_row" = some fn_spread_row
  spread : t "spread" = some fn_spread
theorem idxOf_mid {p : Prt} {rest : List Prt} : ∀ {done : List Prt}, p ∉ done → (done ++ p :: rest).idxOf p = done.length
  | [], _ => by rw [List.nil_append, List.idxOf_cons_self]; rfl
  | x :: done, h => by
    have hx : (x == p) = false := beq_eq_false_iff_ne.mpr fun e => h (by rw [e]; exact List.mem_cons_self)
    rw [List.cons_append, List.idxOf_cons, hx, List.length_cons]
    show (done ++ p :: rest).idxOf p + 1 = _
    rw [idxOf_mid fun z => h (List.mem_cons_of_mem _ z)]
theorem parts_idx {done rest : List Prt} {p : Prt} (h : partsL kb = done ++ p :: rest) : numP kb p = done.length + 1 := by
  have hn := parts_nodup (kb := kb)
  rw [h] at hn
  have : p ∉ done := fun z => (List.nodup_append.mp hn).2.2 p z p List.mem_cons_self rfl
  unfold numP
  rw [h, idxOf_mid this]
  omega
theorem spread_ok (S : Spr t) (hk : kb.length ≤ 8) (hr : ∀ ls ∈ rss, RowL kb.length ls) (hn : rss.length ≤ 200) : wp (run t w (n + 3) "spread" [clD (kb.map kD) rss]) m fun v m' => (∃ xs : List (List Int), v = .tup [.tup ((partsL kb).map ptD), .tup (xs.map lsD)] ∧ (∀ x, x ∈ xs ↔ ∃ a ∈ lev (ahN kb kb.length), ∃ row ∈ rss, spR kb a row = some x) ∧ ∃ ks, ks.Nodup ∧ xs = srtR ks) ∧ Ge m m' := by
  have big : (100000 : Nat) < sizeLine := by decide
  refine wp_run S.spread rfl ?_
  show wpF (exes _ _ fn_spread.body [some (clD (kb.map kD) rss), none, none, none, none, none, none, none, none, none, none]) m _
  simp only [fn_spread, ss_spread_0, wp_bd, wp_ret, wp_nope, wp_chk, wp_some, wp_ite, wp_tru, wpF_bs, wpF_nx, wpF_rt, wpF_bk, wpF_ct, wpF_ite, thenF_nx, thenF_rt, thenF_bk, thenF_ct, wpF_nil, wpF_cons, endF_nx, endF_rt, exe, ev, evs, evI, varM, List.getElem?_cons_zero, List.getElem?_cons_succ, List.set_cons_zero, List.set_cons_succ, Bool.false_eq_true, if_true, if_false, ite_true, ite_false, reduceIte, Option.some.injEq, exists_eq_left', exists_eq_left, wp_ixR, ixW_l, ixW_f, wp_ixT, wp_lenR, lenW_l, lenW_f, wp_lenT, wp_tupR, lsW_l, lsW_f, wp_tupT, wp_listT, wp_cmp, cmp_lt, cmp_le, cmp_gt, cmp_ge, cmp_eq, cmp_ne, eqD_int, eqD_bl, cmp_is, cmp_isn, dIs_bl, dIs_tn, dIs_nn, opt_map, decide_eq_true_eq, wp_mod, wp_fdiv, wp_pow, wp_add, wp_sub, wp_mul, wp_mulTI, wp_addT, wp_neg, wp_slT, wp_slR, slW, wp_isLst, lW_l, wp_app, wp_popAt, wp_setR, setW_l, partO, Bool.not_true, Bool.not_false, wp_minI, wp_maxI, wp_intI, wp_intB, wp_absI, wp_srcT, wp_r2, wp_isi, asg_one, asg_two, wp_srcST, isTy_bb, wipe_nil, wipe_cons, at0, at1, ix0, ix1]
  rw [wp_asgT (ρ' := [some (clD (kb.map kD) rss), some (.tup (kb.map kD)), some (.tup (rss.map lsD)), none, none, none, none, none, none, none, none]) rfl]
  simp only [ss_spread_1, wp_bd, wp_ret, wp_nope, wp_chk, wp_some, wp_ite, wp_tru, wpF_bs, wpF_nx, wpF_rt, wpF_bk, wpF_ct, wpF_ite, thenF_nx, thenF_rt, thenF_bk, thenF_ct, wpF_nil, wpF_cons, endF_nx, endF_rt, exe, ev, evs, evI, varM, List.getElem?_cons_zero, List.getElem?_cons_succ, List.set_cons_zero, List.set_cons_succ, Bool.false_eq_true, if_true, if_false, ite_true, ite_false, reduceIte, Option.some.injEq, exists_eq_left', exists_eq_left, wp_ixR, ixW_l, ixW_f, wp_ixT, wp_lenR, lenW_l, lenW_f, wp_lenT, wp_tupR, lsW_l, lsW_f, wp_tupT, wp_listT, wp_cmp, cmp_lt, cmp_le, cmp_gt, cmp_ge, cmp_eq, cmp_ne, eqD_int, eqD_bl, cmp_is, cmp_isn, dIs_bl, dIs_tn, dIs_nn, opt_map, decide_eq_true_eq, wp_mod, wp_fdiv, wp_pow, wp_add, wp_sub, wp_mul, wp_mulTI, wp_addT, wp_neg, wp_slT, wp_slR, slW, wp_isLst, lW_l, wp_app, wp_popAt, wp_setR, setW_l, partO, Bool.not_true, Bool.not_false, wp_minI, wp_maxI, wp_intI, wp_intB, wp_absI, wp_srcT, wp_r2, wp_isi, asg_one, asg_two, wp_srcST, isTy_bb, wipe_nil, wipe_cons, at0, at1, ix0, ix1]
  refine wp_mono (parts_of_ok (n := n) S.choices S.ahead S.parts hk) fun v m1 ⟨rp, e, e1, g1, a1⟩ => ?_
  subst e
  simp only [ss_spread_2, wp_bd, wp_ret, wp_nope, wp_chk, wp_some, wp_ite, wp_tru, wpF_bs, wpF_nx, wpF_rt, wpF_bk, wpF_ct, wpF_ite, thenF_nx, thenF_rt, thenF_bk, thenF_ct, wpF_nil, wpF_cons, endF_nx, endF_rt, exe, ev, evs, evI, varM, List.getElem?_cons_zero, List.getElem?_cons_succ, List.set_cons_zero, List.set_cons_succ, Bool.false_eq_true, if_true, if_false, ite_true, ite_false, reduceIte, Option.some.injEq, exists_eq_left', exists_eq_left, wp_ixR, ixW_l, ixW_f, wp_ixT, wp_lenR, lenW_l, lenW_f, wp_lenT, wp_tupR, lsW_l, lsW_f, wp_tupT, wp_listT, wp_cmp, cmp_lt, cmp_le, cmp_gt, cmp_ge, cmp_eq, cmp_ne, eqD_int, eqD_bl, cmp_is, cmp_isn, dIs_bl, dIs_tn, dIs_nn, opt_map, decide_eq_true_eq, wp_mod, wp_fdiv, wp_pow, wp_add, wp_sub, wp_mul, wp_mulTI, wp_addT, wp_neg, wp_slT, wp_slR, slW, wp_isLst, lW_l, wp_app, wp_popAt, wp_setR, setW_l, partO, Bool.not_true, Bool.not_false, wp_minI, wp_maxI, wp_intI, wp_intB, wp_absI, wp_srcT, wp_r2, wp_isi, asg_one, asg_two, wp_srcST, isTy_bb, wipe_nil, wipe_cons, at0, at1, ix0, ix1]
  refine wp_mono (ahead_of_ok (n := n + 1) S.ahead hk) fun v m2 ⟨ra, e, e2, g2, a2⟩ => ?_
  subst e
  simp only [ss_spread_3, wp_bd, wp_ret, wp_nope, wp_chk, wp_some, wp_ite, wp_tru, wpF_bs, wpF_nx, wpF_rt, wpF_bk, wpF_ct, wpF_ite, thenF_nx, thenF_rt, thenF_bk, thenF_ct, wpF_nil, wpF_cons, endF_nx, endF_rt, exe, ev, evs, evI, varM, List.getElem?_cons_zero, List.getElem?_cons_succ, List.set_cons_zero, List.set_cons_succ, Bool.false_eq_true, if_true, if_false, ite_true, ite_false, reduceIte, Option.some.injEq, exists_eq_left', exists_eq_left, wp_ixR, ixW_l, ixW_f, wp_ixT, wp_lenR, lenW_l, lenW_f, wp_lenT, wp_tupR, lsW_l, lsW_f, wp_tupT, wp_listT, wp_cmp, cmp_lt, cmp_le, cmp_gt, cmp_ge, cmp_eq, cmp_ne, eqD_int, eqD_bl, cmp_is, cmp_isn, dIs_bl, dIs_tn, dIs_nn, opt_map, decide_eq_true_eq, wp_mod, wp_fdiv, wp_pow, wp_add, wp_sub, wp_mul, wp_mulTI, wp_addT, wp_neg, wp_slT, wp_slR, slW, wp_isLst, lW_l, wp_app, wp_popAt, wp_setR, setW_l, partO, Bool.not_true, Bool.not_false, wp_minI, wp_maxI, wp_intI, wp_intB, wp_absI, wp_srcT, wp_r2, wp_isi, asg_one, asg_two, wp_srcST, isTy_bb, wipe_nil, wipe_cons, at0, at1, ix0, ix1]
  refine wp_new fun rn m3 g3 e3 a3 b3 c3 => ?_
  simp only [ss_spread_4, wp_bd, wp_ret, wp_nope, wp_chk, wp_some, wp_ite, wp_tru, wpF_bs, wpF_nx, wpF_rt, wpF_bk, wpF_ct, wpF_ite, thenF_nx, thenF_rt, thenF_bk, thenF_ct, wpF_nil, wpF_cons, endF_nx, endF_rt, exe, ev, evs, evI, varM, List.getElem?_cons_zero, List.getElem?_cons_succ, List.set_cons_zero, List.set_cons_succ, Bool.false_eq_true, if_true, if_false, ite_true, ite_false, reduceIte, Option.some.injEq, exists_eq_left', exists_eq_left, wp_ixR, ixW_l, ixW_f, wp_ixT, wp_lenR, lenW_l, lenW_f, wp_lenT, wp_tupR, lsW_l, lsW_f, wp_tupT, wp_listT, wp_cmp, cmp_lt, cmp_le, cmp_gt, cmp_ge, cmp_eq, cmp_ne, eqD_int, eqD_bl, cmp_is, cmp_isn, dIs_bl, dIs_tn, dIs_nn, opt_map, decide_eq_true_eq, wp_mod, wp_fdiv, wp_pow, wp_add, wp_sub, wp_mul, wp_mulTI, wp_addT, wp_neg, wp_slT, wp_slR, slW, wp_isLst, lW_l, wp_app, wp_popAt, wp_setR, setW_l, partO, Bool.not_true, Bool.not_false, wp_minI, wp_maxI, wp_intI, wp_intB, wp_absI, wp_srcT, wp_r2, wp_isi, asg_one, asg_two, wp_srcST, isTy_bb, wipe_nil, wipe_cons, at0, at1, ix0, ix1]
  have e1' := g3.get (g2.get e1)
  have e2' := g3.get e2
  rw [wp_srcR e1']
  have nrp : rp ≠ rn := by have := lt_of_get e1; have := g2.1; omega
  have nra : ra ≠ rn := by have := lt_of_get e2; omega
  have pl8 : (partsL kb).length ≤ 256 := by
    have := partsT_len (kb := kb) kb.length
    have h2 := Nat.pow_le_pow_right (n := 2) (by decide) hk
    have : (partsL kb).length < 2 ^ kb.length := this
    omega
  refine wpF_loop (a := [(rp, _)]) (J := fun xs ρ m' => ∃ (done rest : List Prt) (kvs : List (D × D)) (b6 : Option D), partsL kb = done ++ rest ∧ xs = rest.map ptD ∧ ρ = [some (clD (kb.map kD) rss), some (.tup (kb.map kD)), some (.tup (rss.map lsD)), some (.ref rp), some (.ref ra), some (.ref rn), b6, none, none, none, none] ∧ m'[rn]? = some (.dct false kvs) ∧ kvs.length = done.length ∧ (∀ p ∈ done, dLook kvs (kP p) = some (.int (numP kb p))) ∧ (∀ p, p ∉ done → dLook kvs (kP p) = none) ∧ Gr rn m3 m') (fun _ _ _ ⟨_, _, _, _, _, _, _, _, _, _, _, h⟩ => h.get nrp e1') (fun x xs ρ m' hJ => ?_) (fun ρ m' hJ => ?_) _ _ _
    ⟨[], partsL kb, [], _, rfl, rfl, rfl, e3, rfl, (fun _ h => by cases h), (fun _ _ => rfl), .refl⟩
  · obtain ⟨done, rest, kvs, b6, er, ex, rfl, hd, hl, h1, h2, g⟩ := hJ
    cases rest with
    | nil => cases ex
    | cons p rest =>
      cases ex
      have hln : done.length + (rest.length + 1) = (partsL kb).length := by rw [er, List.length_append, List.length_cons]
      have nd := parts_nodup (kb := kb)
      rw [er] at nd
      have pn : p ∉ done := fun z => (List.nodup_append.mp nd).2.2 p z p List.mem_cons_self rfl
      simp only [ss_spread_4b_0, wp_bd, wp_ret, wp_nope, wp_chk, wp_some, wp_ite, wp_tru, wpF_bs, wpF_nx, wpF_rt, wpF_bk, wpF_ct, wpF_ite, thenF_nx, thenF_rt, thenF_bk, thenF_ct, wpF_nil, wpF_cons, endF_nx, endF_rt, exe, ev, evs, evI, varM, List.getElem?_cons_zero, List.getElem?_cons_succ, List.set_cons_zero, List.set_cons_succ, Bool.false_eq_true, if_true, if_false, ite_true, ite_false, reduceIte, Option.some.injEq, exists_eq_left', exists_eq_left, wp_ixR, ixW_l, ixW_f, wp_ixT, wp_lenR, lenW_l, lenW_f, wp_lenT, wp_tupR, lsW_l, lsW_f, wp_tupT, wp_listT, wp_cmp, cmp_lt, cmp_le, cmp_gt, cmp_ge, cmp_eq, cmp_ne, eqD_int, eqD_bl, cmp_is, cmp_isn, dIs_bl, dIs_tn, dIs_nn, opt_map, decide_eq_true_eq, wp_mod, wp_fdiv, wp_pow, wp_add, wp_sub, wp_mul, wp_mulTI, wp_addT, wp_neg, wp_slT, wp_slR, slW, wp_isLst, lW_l, wp_app, wp_popAt, wp_setR, setW_l, partO, Bool.not_true, Bool.not_false, wp_minI, wp_maxI, wp_intI, wp_intB, wp_absI, wp_srcT, wp_r2, wp_isi, asg_one, asg_two, wp_srcST, isTy_bb, wipe_nil, wipe_cons, at0, at1, ix0, ix1, hd, lenW]
      have ev : ((kvs.length : Nat) : Int) + 1 = numP kb p := by rw [parts_idx er, hl]
      rw [ev, wp_dset hd kd_pt]
      refine ⟨by omega, done ++ [p], rest, _, _, by rw [er]; simp, rfl, rfl, getSS hd, ?_, fun q hq => ?_, fun q hq => ?_, g.trans Gr.set⟩
      · unfold dStore
        rw [h2 p pn, if_neg (by decide), List.length_append, List.length_append, hl]
        rfl
      · rw [look_store kd_pt]
        by_cases c : q = p
        · subst c
          rw [if_pos rfl]
        · rw [if_neg fun z => c (kP_inj z)]
          exact h1 q ((List.mem_append.mp hq).resolve_right fun z => c (List.mem_singleton.mp z))
      · rw [look_store kd_pt, if_neg fun z => hq (by rw [kP_inj z]; simp)]
        exact h2 q fun z => hq (List.mem_append_left _ z)
  · obtain ⟨done, rest, kvs, b6, er, ex, rfl, hd, hl, h1, h2, g⟩ := hJ
    have : rest = [] := by
      cases rest with
      | nil => rfl
      | cons _ _ => cases ex
    subst this
    rw [List.append_nil] at er
    have N : NumD kb m' rn := ⟨kvs, hd, fun p hp => h1 p (er ▸ hp)⟩
    have G : Ge m m' := (((g1.trans g2).trans g3).gr.trans g).ge .refl (by have := g1.1; have := g2.1; omega)
    have f1 := g.get nrp e1'
    have f2 := g.get nra e2'
    simp only [ss_spread_5, wp_bd, wp_ret, wp_nope, wp_chk, wp_some, wp_ite, wp_tru, wpF_bs, wpF_nx, wpF_rt, wpF_bk, wpF_ct, wpF_ite, thenF_nx, thenF_rt, thenF_bk, thenF_ct, wpF_nil, wpF_cons, endF_nx, endF_rt, exe, ev, evs, evI, varM, List.getElem?_cons_zero, List.getElem?_cons_succ, List.set_cons_zero, List.set_cons_succ, Bool.false_eq_true, if_true, if_false, ite_true, ite_false, reduceIte, Option.some.injEq, exists_eq_left', exists_eq_left, wp_ixR, ixW_l, ixW_f, wp_ixT, wp_lenR, lenW_l, lenW_f, wp_lenT, wp_tupR, lsW_l, lsW_f, wp_tupT, wp_listT, wp_cmp, cmp_lt, cmp_le, cmp_gt, cmp_ge, cmp_eq, cmp_ne, eqD_int, eqD_bl, cmp_is, cmp_isn, dIs_bl, dIs_tn, dIs_nn, opt_map, decide_eq_true_eq, wp_mod, wp_fdiv, wp_pow, wp_add, wp_sub, wp_mul, wp_mulTI, wp_addT, wp_neg, wp_slT, wp_slR, slW, wp_isLst, lW_l, wp_app, wp_popAt, wp_setR, setW_l, partO, Bool.not_true, Bool.not_false, wp_minI, wp_maxI, wp_intI, wp_intB, wp_absI, wp_srcT, wp_r2, wp_isi, asg_one, asg_two, wp_srcST, isTy_bb, wipe_nil, wipe_cons, at0, at1, ix0, ix1]
    refine wp_new fun rf m4 g4 e4 a4 b4 c4 => ?_
    have el : L2.atI ((List.range (kb.length + 1)).map fun k => D.int (ahN kb k)) (-1) = some (.int (ahN kb kb.length)) := atI_last (by rw [List.range_succ, List.map_append]; simp)
    simp only [ss_spread_6, wp_bd, wp_ret, wp_nope, wp_chk, wp_some, wp_ite, wp_tru, wpF_bs, wpF_nx, wpF_rt, wpF_bk, wpF_ct, wpF_ite, thenF_nx, thenF_rt, thenF_bk, thenF_ct, wpF_nil, wpF_cons, endF_nx, endF_rt, exe, ev, evs, evI, varM, List.getElem?_cons_zero, List.getElem?_cons_succ, List.set_cons_zero, List.set_cons_succ, Bool.false_eq_true, if_true, if_false, ite_true, ite_false, reduceIte, Option.some.injEq, exists_eq_left', exists_eq_left, wp_ixR, ixW_l, ixW_f, wp_ixT, wp_lenR, lenW_l, lenW_f, wp_lenT, wp_tupR, lsW_l, lsW_f, wp_tupT, wp_listT, wp_cmp, cmp_lt, cmp_le, cmp_gt, cmp_ge, cmp_eq, cmp_ne, eqD_int, eqD_bl, cmp_is, cmp_isn, dIs_bl, dIs_tn, dIs_nn, opt_map, decide_eq_true_eq, wp_mod, wp_fdiv, wp_pow, wp_add, wp_sub, wp_mul, wp_mulTI, wp_addT, wp_neg, wp_slT, wp_slR, slW, wp_isLst, lW_l, wp_app, wp_popAt, wp_setR, setW_l, partO, Bool.not_true, Bool.not_false, wp_minI, wp_maxI, wp_intI, wp_intB, wp_absI, wp_srcT, wp_r2, wp_isi, asg_one, asg_two, wp_srcST, isTy_bb, wipe_nil, wipe_cons, at0, at1, ix0, ix1, g4.get f2]
    refine ⟨_, el, ?_⟩
    have h8 : ahN kb kb.length ≤ 8 := Nat.le_trans (ahN_le _) hk
    refine wp_mono (choices_ok (n := n + 1) S.choices h8) fun v m5 ⟨rc, e, e5, g5, a5⟩ => ?_
    subst e
    rw [wp_srcR e5]
    have lv := lev_small h8
    have ncf : rc ≠ rf := by have := g5.1; omega
    have nraf : ra ≠ rf := by have := lt_of_get f2; omega
    have nrpf : rp ≠ rf := by have := lt_of_get f1; omega
    have nrnf : rn ≠ rf := by have := lt_of_get hd; omega
    have K5 : KeyR m5 rf [] := ⟨[], g5.get e4, rfl, .nil⟩
    have f1' := g5.get (g4.get f1)
    have f2' := g5.get (g4.get f2)
    have N5 : NumD kb m5 rn := (N.ge g4).ge g5
    refine wpF_loop (a := [(rc, _)]) (J := fun xs ρ m'' => ∃ (dn rest keys : _) (b8 b9 b10 : Option D), lev (ahN kb kb.length) = dn ++ rest ∧ xs = rest.map bsD ∧ ρ = [some (clD (kb.map kD) rss), some (.tup (kb.map kD)), some (.tup (rss.map lsD)), some (.ref rp), some (.ref ra), some (.ref rn), b6, some (.ref rf), b8, b9, b10] ∧ KeyR m'' rf keys ∧ keys.length ≤ dn.length * rss.length ∧ (∀ x, x ∈ keys ↔ ∃ a ∈ dn, ∃ row ∈ rss, spR kb a row = some x) ∧ Gr rf m5 m'') (fun _ _ _ ⟨_, _, _, _, _, _, _, _, _, _, _, _, h⟩ => h.get ncf e5) (fun x xs ρ m'' hJ => ?_) (fun ρ m'' hJ => ?_) _ _ _
      ⟨[], _, [], _, _, _, rfl, rfl, rfl, K5, by simp, fun x => by simp, .refl⟩
    · obtain ⟨dn, rest, keys, b8, b9, b10, er, ex, rfl, K, kl, km, g6⟩ := hJ
      cases rest with
      | nil => cases ex
      | cons a rest =>
        cases ex
        have al : a.length = ahN kb kb.length := lev_mem.mp (by rw [er]; simp)
        have hln : dn.length + (rest.length + 1) = (lev (ahN kb kb.length)).length := by rw [er, List.length_append, List.length_cons]
        have mul1 : dn.length * rss.length + rss.length ≤ 51200 := by
          have h1 : (dn.length + 1) * rss.length ≤ 256 * 200 := Nat.mul_le_mul (by omega) hn
          rw [Nat.succ_mul] at h1
          omega
        simp only [ss_spread_6b_0, wp_bd, wp_ret, wp_nope, wp_chk, wp_some, wp_ite, wp_tru, wpF_bs, wpF_nx, wpF_rt, wpF_bk, wpF_ct, wpF_ite, thenF_nx, thenF_rt, thenF_bk, thenF_ct, wpF_nil, wpF_cons, endF_nx, endF_rt, exe, ev, evs, evI, varM, List.getElem?_cons_zero, List.getElem?_cons_succ, List.set_cons_zero, List.set_cons_succ, Bool.false_eq_true, if_true, if_false, ite_true, ite_false, reduceIte, Option.some.injEq, exists_eq_left', exists_eq_left, wp_ixR, ixW_l, ixW_f, wp_ixT, wp_lenR, lenW_l, lenW_f, wp_lenT, wp_tupR, lsW_l, lsW_f, wp_tupT, wp_listT, wp_cmp, cmp_lt, cmp_le, cmp_gt, cmp_ge, cmp_eq, cmp_ne, eqD_int, eqD_bl, cmp_is, cmp_isn, dIs_bl, dIs_tn, dIs_nn, opt_map, decide_eq_true_eq, wp_mod, wp_fdiv, wp_pow, wp_add, wp_sub, wp_mul, wp_mulTI, wp_addT, wp_neg, wp_slT, wp_slR, slW, wp_isLst, lW_l, wp_app, wp_popAt, wp_setR, setW_l, partO, Bool.not_true, Bool.not_false, wp_minI, wp_maxI, wp_intI, wp_intB, wp_absI, wp_srcT, wp_r2, wp_isi, asg_one, asg_two, wp_srcST, isTy_bb, wipe_nil, wipe_cons, at0, at1, ix0, ix1]
        refine wpF_loop (a := []) (J := fun xs ρ m7 => ∃ (dm rest' keys : List (List Int)) (b9 b10 : Option D), rss = dm ++ rest' ∧ xs = rest'.map lsD ∧ ρ = [some (clD (kb.map kD) rss), some (.tup (kb.map kD)), some (.tup (rss.map lsD)), some (.ref rp), some (.ref ra), some (.ref rn), b6, some (.ref rf), some (bsD a), b9, b10] ∧ KeyR m7 rf keys ∧ keys.length ≤ dn.length * rss.length + dm.length ∧ (∀ x, x ∈ keys ↔ (∃ a ∈ dn, ∃ row ∈ rss, spR kb a row = some x) ∨ ∃ row ∈ dm, spR kb a row = some x) ∧ Gr rf m5 m7) (fun _ _ _ _ => trivial) (fun x xs ρ m7 hJ => ?_) (fun ρ m7 hJ => ?_) _ _ _
          ⟨[], rss, keys, _, _, rfl, rfl, rfl, K, kl, fun x => by rw [km]; simp, g6⟩
        · obtain ⟨dm, rest', keys, b9, b10, er', ex', rfl, K, kl, km, g7⟩ := hJ
          cases rest' with
          | nil => cases ex'
          | cons row rest' =>
            cases ex'
            have hrow : row ∈ rss := by rw [er']; simp
            have hln' : dm.length + (rest'.length + 1) = rss.length := by rw [er', List.length_append, List.length_cons]
            simp only [ss_spread_6b_0b_0, wp_bd, wp_ret, wp_nope, wp_chk, wp_some, wp_ite, wp_tru, wpF_bs, wpF_nx, wpF_rt, wpF_bk, wpF_ct, wpF_ite, thenF_nx, thenF_rt, thenF_bk, thenF_ct, wpF_nil, wpF_cons, endF_nx, endF_rt, exe, ev, evs, evI, varM, List.getElem?_cons_zero, List.getElem?_cons_succ, List.set_cons_zero, List.set_cons_succ, Bool.false_eq_true, if_true, if_false, ite_true, ite_false, reduceIte, Option.some.injEq, exists_eq_left', exists_eq_left, wp_ixR, ixW_l, ixW_f, wp_ixT, wp_lenR, lenW_l, lenW_f, wp_lenT, wp_tupR, lsW_l, lsW_f, wp_tupT, wp_listT, wp_cmp, cmp_lt, cmp_le, cmp_gt, cmp_ge, cmp_eq, cmp_ne, eqD_int, eqD_bl, cmp_is, cmp_isn, dIs_bl, dIs_tn, dIs_nn, opt_map, decide_eq_true_eq, wp_mod, wp_fdiv, wp_pow, wp_add, wp_sub, wp_mul, wp_mulTI, wp_addT, wp_neg, wp_slT, wp_slR, slW, wp_isLst, lW_l, wp_app, wp_popAt, wp_setR, setW_l, partO, Bool.not_true, Bool.not_false, wp_minI, wp_maxI, wp_intI, wp_intB, wp_absI, wp_srcT, wp_r2, wp_isi, asg_one, asg_two, wp_srcST, isTy_bb, wipe_nil, wipe_cons, at0, at1, ix0, ix1]
            have N7 : NumD kb m7 rn := by
              obtain ⟨q, q1, q2⟩ := N5
              exact ⟨q, g7.get nrnf q1, q2⟩
            refine wp_mono (spread_row_ok (n := n + 1) S.row hk (g7.get nraf f2') N7 (hr row hrow) al) fun v m8 ⟨e, g8⟩ => ?_
            subst e
            have K8 := K.ge g8
            cases es : spR kb a row with
            | none =>
              simp only [joinD, ss_spread_6b_0b_1, wp_bd, wp_ret, wp_nope, wp_chk, wp_some, wp_ite, wp_tru, wpF_bs, wpF_nx, wpF_rt, wpF_bk, wpF_ct, wpF_ite, thenF_nx, thenF_rt, thenF_bk, thenF_ct, wpF_nil, wpF_cons, endF_nx, endF_rt, exe, ev, evs, evI, varM, List.getElem?_cons_zero, List.getElem?_cons_succ, List.set_cons_zero, List.set_cons_succ, Bool.false_eq_true, if_true, if_false, ite_true, ite_false, reduceIte, Option.some.injEq, exists_eq_left', exists_eq_left, wp_ixR, ixW_l, ixW_f, wp_ixT, wp_lenR, lenW_l, lenW_f, wp_lenT, wp_tupR, lsW_l, lsW_f, wp_tupT, wp_listT, wp_cmp, cmp_lt, cmp_le, cmp_gt, cmp_ge, cmp_eq, cmp_ne, eqD_int, eqD_bl, cmp_is, cmp_isn, dIs_bl, dIs_tn, dIs_nn, opt_map, decide_eq_true_eq, wp_mod, wp_fdiv, wp_pow, wp_add, wp_sub, wp_mul, wp_mulTI, wp_addT, wp_neg, wp_slT, wp_slR, slW, wp_isLst, lW_l, wp_app, wp_popAt, wp_setR, setW_l, partO, Bool.not_true, Bool.not_false, wp_minI, wp_maxI, wp_intI, wp_intB, wp_absI, wp_srcT, wp_r2, wp_isi, asg_one, asg_two, wp_srcST, isTy_bb, wipe_nil, wipe_cons, at0, at1, ix0, ix1]
              refine ⟨dm ++ [row], rest', keys, _, _, by rw [er']; simp, rfl, rfl, K8, by rw [List.length_append]; omega, fun x => ?_, g7.trans g8.gr⟩
              rw [km]
              constructor
              · rintro (h | ⟨o, h1, h2⟩)
                · exact .inl h
                · exact .inr ⟨o, List.mem_append_left _ h1, h2⟩
              · rintro (h | ⟨o, h1, h2⟩)
                · exact .inl h
                · rcases List.mem_append.mp h1 with h1 | h1
                  · exact .inr ⟨o, h1, h2⟩
                  · rw [List.mem_singleton.mp h1, es] at h2
                    cases h2
            | some y =>
              simp only [joinD, ss_spread_6b_0b_1, wp_bd, wp_ret, wp_nope, wp_chk, wp_some, wp_ite, wp_tru, wpF_bs, wpF_nx, wpF_rt, wpF_bk, wpF_ct, wpF_ite, thenF_nx, thenF_rt, thenF_bk, thenF_ct, wpF_nil, wpF_cons, endF_nx, endF_rt, exe, ev, evs, evI, varM, List.getElem?_cons_zero, List.getElem?_cons_succ, List.set_cons_zero, List.set_cons_succ, Bool.false_eq_true, if_true, if_false, ite_true, ite_false, reduceIte, Option.some.injEq, exists_eq_left', exists_eq_left, wp_ixR, ixW_l, ixW_f, wp_ixT, wp_lenR, lenW_l, lenW_f, wp_lenT, wp_tupR, lsW_l, lsW_f, wp_tupT, wp_listT, wp_cmp, cmp_lt, cmp_le, cmp_gt, cmp_ge, cmp_eq, cmp_ne, eqD_int, eqD_bl, cmp_is, cmp_isn, dIs_bl, dIs_tn, dIs_nn, opt_map, decide_eq_true_eq, wp_mod, wp_fdiv, wp_pow, wp_add, wp_sub, wp_mul, wp_mulTI, wp_addT, wp_neg, wp_slT, wp_slR, slW, wp_isLst, lW_l, wp_app, wp_popAt, wp_setR, setW_l, partO, Bool.not_true, Bool.not_false, wp_minI, wp_maxI, wp_intI, wp_intB, wp_absI, wp_srcT, wp_r2, wp_isi, asg_one, asg_two, wp_srcST, isTy_bb, wipe_nil, wipe_cons, at0, at1, ix0, ix1]
              refine key_store K8 (by omega) fun keys' m9 K9 g9 p3 p4 => ?_
              refine ⟨dm ++ [row], rest', keys', _, _, by rw [er']; simp, rfl, rfl, K9, by rw [List.length_append]; simp; omega, fun x => ?_, (g7.trans g8.gr).trans g9⟩
              rw [p3, km]
              constructor
              · rintro ((h | ⟨o, h1, h2⟩) | rfl)
                · exact .inl h
                · exact .inr ⟨o, List.mem_append_left _ h1, h2⟩
                · exact .inr ⟨row, by simp, es⟩
              · rintro (h | ⟨o, h1, h2⟩)
                · exact .inl (.inl h)
                · rcases List.mem_append.mp h1 with h1 | h1
                  · exact .inl (.inr ⟨o, h1, h2⟩)
                  · rw [List.mem_singleton.mp h1, es] at h2
                    exact .inr (Option.some.inj h2).symm
        · obtain ⟨dm, rest', keys, b9, b10, er', ex', rfl, K, kl, km, g7⟩ := hJ
          have : rest' = [] := by
            cases rest' with
            | nil => rfl
            | cons _ _ => cases ex'
          subst this
          rw [List.append_nil] at er'
          simp only [wp_bd, wp_ret, wp_nope, wp_chk, wp_some, wp_ite, wp_tru, wpF_bs, wpF_nx, wpF_rt, wpF_bk, wpF_ct, wpF_ite, thenF_nx, thenF_rt, thenF_bk, thenF_ct, wpF_nil, wpF_cons, endF_nx, endF_rt, exe, ev, evs, evI, varM, List.getElem?_cons_zero, List.getElem?_cons_succ, List.set_cons_zero, List.set_cons_succ, Bool.false_eq_true, if_true, if_false, ite_true, ite_false, reduceIte, Option.some.injEq, exists_eq_left', exists_eq_left, wp_ixR, ixW_l, ixW_f, wp_ixT, wp_lenR, lenW_l, lenW_f, wp_lenT, wp_tupR, lsW_l, lsW_f, wp_tupT, wp_listT, wp_cmp, cmp_lt, cmp_le, cmp_gt, cmp_ge, cmp_eq, cmp_ne, eqD_int, eqD_bl, cmp_is, cmp_isn, dIs_bl, dIs_tn, dIs_nn, opt_map, decide_eq_true_eq, wp_mod, wp_fdiv, wp_pow, wp_add, wp_sub, wp_mul, wp_mulTI, wp_addT, wp_neg, wp_slT, wp_slR, slW, wp_isLst, lW_l, wp_app, wp_popAt, wp_setR, setW_l, partO, Bool.not_true, Bool.not_false, wp_minI, wp_maxI, wp_intI, wp_intB, wp_absI, wp_srcT, wp_r2, wp_isi, asg_one, asg_two, wp_srcST, isTy_bb, wipe_nil, wipe_cons, at0, at1, ix0, ix1]
          refine ⟨dn ++ [a], rest, keys, _, _, _, by rw [er]; simp, rfl, rfl, K, by rw [List.length_append, List.length_singleton, Nat.succ_mul, er']; rw [er'] at kl; omega, fun x => ?_, g7⟩
          rw [km, ← er']
          constructor
          · rintro (⟨b, h1, h2⟩ | h)
            · exact ⟨b, List.mem_append_left _ h1, h2⟩
            · exact ⟨a, by simp, h⟩
          · rintro ⟨b, h1, h2⟩
            rcases List.mem_append.mp h1 with h1 | h1
            · exact .inl ⟨b, h1, h2⟩
            · rw [List.mem_singleton.mp h1] at h2
              exact .inr h2
    · obtain ⟨dn, rest, keys, b8, b9, b10, er, ex, rfl, ⟨kvs', q1, q2, q3⟩, kl, km, g6⟩ := hJ
      have : rest = [] := by
        cases rest with
        | nil => rfl
        | cons _ _ => cases ex
      subst this
      rw [List.append_nil] at er
      have es := sort_rowsX (m := m'') keys
      have ps := srtR_perm keys
      simp only [ss_spread_7, wp_bd, wp_ret, wp_nope, wp_chk, wp_some, wp_ite, wp_tru, wpF_bs, wpF_nx, wpF_rt, wpF_bk, wpF_ct, wpF_ite, thenF_nx, thenF_rt, thenF_bk, thenF_ct, wpF_nil, wpF_cons, endF_nx, endF_rt, exe, ev, evs, evI, varM, List.getElem?_cons_zero, List.getElem?_cons_succ, List.set_cons_zero, List.set_cons_succ, Bool.false_eq_true, if_true, if_false, ite_true, ite_false, reduceIte, Option.some.injEq, exists_eq_left', exists_eq_left, wp_ixR, ixW_l, ixW_f, wp_ixT, wp_lenR, lenW_l, lenW_f, wp_lenT, wp_tupR, lsW_l, lsW_f, wp_tupT, wp_listT, wp_cmp, cmp_lt, cmp_le, cmp_gt, cmp_ge, cmp_eq, cmp_ne, eqD_int, eqD_bl, cmp_is, cmp_isn, dIs_bl, dIs_tn, dIs_nn, opt_map, decide_eq_true_eq, wp_mod, wp_fdiv, wp_pow, wp_add, wp_sub, wp_mul, wp_mulTI, wp_addT, wp_neg, wp_slT, wp_slR, slW, wp_isLst, lW_l, wp_app, wp_popAt, wp_setR, setW_l, partO, Bool.not_true, Bool.not_false, wp_minI, wp_maxI, wp_intI, wp_intB, wp_absI, wp_srcT, wp_r2, wp_isi, asg_one, asg_two, wp_srcST, isTy_bb, wipe_nil, wipe_cons, at0, at1, ix0, ix1, g6.get nrpf f1']
      rw [wp_sortK q1 (by rw [q2]; exact es)]
      refine wp_new fun rs m9 g9 e9 a9 b9 c9 => ?_
      simp only [wp_bd, wp_ret, wp_nope, wp_chk, wp_some, wp_ite, wp_tru, wpF_bs, wpF_nx, wpF_rt, wpF_bk, wpF_ct, wpF_ite, thenF_nx, thenF_rt, thenF_bk, thenF_ct, wpF_nil, wpF_cons, endF_nx, endF_rt, exe, ev, evs, evI, varM, List.getElem?_cons_zero, List.getElem?_cons_succ, List.set_cons_zero, List.set_cons_succ, Bool.false_eq_true, if_true, if_false, ite_true, ite_false, reduceIte, Option.some.injEq, exists_eq_left', exists_eq_left, wp_ixR, ixW_l, ixW_f, wp_ixT, wp_lenR, lenW_l, lenW_f, wp_lenT, wp_tupR, lsW_l, lsW_f, wp_tupT, wp_listT, wp_cmp, cmp_lt, cmp_le, cmp_gt, cmp_ge, cmp_eq, cmp_ne, eqD_int, eqD_bl, cmp_is, cmp_isn, dIs_bl, dIs_tn, dIs_nn, opt_map, decide_eq_true_eq, wp_mod, wp_fdiv, wp_pow, wp_add, wp_sub, wp_mul, wp_mulTI, wp_addT, wp_neg, wp_slT, wp_slR, slW, wp_isLst, lW_l, wp_app, wp_popAt, wp_setR, setW_l, partO, Bool.not_true, Bool.not_false, wp_minI, wp_maxI, wp_intI, wp_intB, wp_absI, wp_srcT, wp_r2, wp_isi, asg_one, asg_two, wp_srcST, isTy_bb, wipe_nil, wipe_cons, at0, at1, ix0, ix1, e9, List.length_cons, List.length_nil]
      refine ⟨by decide, ⟨srtR keys, rfl, fun x => by rw [ps.mem_iff, km, er], keys, q3, rfl⟩, ?_⟩
      exact G.trans ((((g4.trans g5).gr.trans g6).trans g9.gr).ge .refl a4)
end
end Af
namespace Af
open PySem
def ss_plans_behind_4 : Ss := .cons (.rt (.bin .mulB (.var 3) (.var 4))) .nil
def ss_plans_behind_3 : Ss := .cons (.ite (.cmp .eq (.ix (.ix (.var 0) (.k (.int 0))) (.bi .len (.cons (.var 2) .nil))) (.var 1)) (.cons (.rt (.bin .add (.var 3) (.var 4))) .nil) .nil) ss_plans_behind_4
def ss_plans_behind_2 : Ss := .cons (.set 4 (.call "plans_behind" (.cons (.var 0) (.cons (.var 1) (.cons (.bin .add (.var 2) (.tup (.cons (.k (.bl true)) .nil))) .nil))))) ss_plans_behind_3
def ss_plans_behind_1 : Ss := .cons (.set 3 (.call "plans_behind" (.cons (.var 0) (.cons (.var 1) (.cons (.bin .add (.var 2) (.tup (.cons (.k (.bl false)) .nil))) .nil))))) ss_plans_behind_2
def ss_plans_behind_0 : Ss := .cons (.ite (.cmp .eq (.bi .len (.cons (.var 2) .nil)) (.bi .len (.cons (.ix (.var 0) (.k (.int 0))) .nil))) (.cons (.rt (.bi .int (.cons (.cmp .eq (.call "all_kept" (.cons (.var 0) (.cons (.var 2) .nil))) (.cmp .eq (.var 1) (.k (.str "some")))) .nil))) .nil) .nil) ss_plans_behind_1
def fn_plans_behind : Fn := ⟨3, 5, ss_plans_behind_0⟩
def ss_how_many_plans_0 : Ss := .cons (.rt (.call "plans_behind" (.cons (.var 0) (.cons (.var 1) (.cons (.tup .nil) .nil))))) .nil
def fn_how_many_plans : Fn := ⟨2, 2, ss_how_many_plans_0⟩
structure Cn4 (t : Str → Option Fn) : Prop where
  right : t "is_right" = some fn_is_right
  kept : t "is_kept" = some fn_is_kept
  allk : t "all_kept" = some fn_all_kept
  pb : t "plans_behind" = some fn_plans_behind
  hm : t "how_many_plans" = some fn_how_many_plans
section
variable {kb : List Bool} {rss : List (List Int)} {side : Bool}
end
section
variable {t : Str → Option Fn} {w n : Nat} {m m' : Mu} {kb : List Bool} {rss : List (List Int)} {side : Bool}
end
end Af
namespace Af
open PySem
def ss_lk_ahead_0 : Ss := .cons (.rt (.compIf [3] (.one 3) (.rng2 (.k (.int 1)) (.var 1)) (.cmp .eq (.ix (.var 0) (.bin .sub (.var 3) (.k (.int 1)))) (.var 2)) (.var 3))) .nil
def fn_lk_ahead : Fn := ⟨3, 4, ss_lk_ahead_0⟩
def ss_lk_parts_2b_0b_0 : Ss := .cons (.ex (.me .append (.var 3) (.cons (.tup (.cons (.var 4) (.cons (.var 5) .nil))) .nil))) .nil
def ss_lk_parts_2b_0 : Ss := .cons (.ite (.cmp .eq (.ix (.var 0) (.bin .sub (.var 4) (.k (.int 1)))) (.var 1)) (.cons (.for (.one 5) (.exp (.call "_law_choices" (.cons (.bi .len (.cons (.call "_law_ahead" (.cons (.var 0) (.cons (.var 4) (.cons (.var 2) .nil)))) .nil)) .nil))) ss_lk_parts_2b_0b_0) .nil) .nil) .nil
def ss_lk_parts_3 : Ss := .cons (.rt (.var 3)) .nil
def ss_lk_parts_2 : Ss := .cons (.for (.one 4) (.rng2 (.k (.int 1)) (.bin .add (.bi .len (.cons (.var 0) .nil)) (.k (.int 1)))) ss_lk_parts_2b_0) ss_lk_parts_3
def ss_lk_parts_1 : Ss := .cons (.set 3 (.lst .nil)) ss_lk_parts_2
def ss_lk_parts_0 : Ss := .cons (.set 2 (.ix (.lst (.cons (.k (.str "all")) (.cons (.k (.str "some")) .nil))) (.bi .int (.cons (.cmp .eq (.var 1) (.k (.str "all"))) .nil)))) ss_lk_parts_1
def fn_lk_parts : Fn := ⟨2, 6, ss_lk_parts_0⟩
section
variable {kb : List Bool} {sw : Bool}
def kx (kb : List Bool) (sw : Bool) : List Bool := kb.map fun b => b != sw
theorem kx_len : (kx kb sw).length = kb.length := List.length_map _
theorem kx_false : kx kb false = kb := by
  unfold kx
  conv => rhs; rw [← List.map_id kb]
  exact List.map_congr_left fun b _ => by cases b <;> rfl
theorem kx_at {i : Nat} (h : i < kb.length) : kAt (kx kb sw) i = (kAt kb i != sw) := by
  unfold kAt kx
  rw [List.getD_eq_getElem?_getD, List.getD_eq_getElem?_getD, List.getElem?_map, List.getElem?_eq_getElem h]
  rfl
theorem ah_kx : ∀ {k : Nat}, k ≤ kb.length → ((List.range k).filter fun i => kAt (kx kb sw) i == sw).length = ahN kb k
  | 0, _ => rfl
  | k + 1, h => by
    rw [List.range_succ, List.filter_append, List.length_append, ah_kx (by omega), ahN_succ h, List.filter_cons, List.filter_nil, kx_at h]
    cases kAt kb k <;> cases sw <;> rfl
end
section
variable {t : Str → Option Fn} {w n : Nat} {m m' : Mu} {kb : List Bool} {s sw : Bool}
theorem lk_ahead_ok (L : t "_law_ahead" = some fn_lk_ahead) {k : Nat} (hk : k ≤ kb.length) (h8 : kb.length ≤ 1000) : wp (run t w (n + 1) "_law_ahead" [.tup (kb.map kD), .int ((k : Nat) + 1 : Int), kD s]) m fun v m' => ∃ a, v = .ref a ∧ m'[a]? = some (.lst (((List.range k).filter fun i => kAt kb i == s).map fun i => D.int ((i + 1 : Nat) : Int))) ∧ Ge m m' ∧ m.length ≤ a := by
  have big : (2000 : Nat) < sizeLine := by decide
  refine wp_run L rfl ?_
  show wpF (exes _ _ fn_lk_ahead.body [some (.tup (kb.map kD)), some (.int _), some (kD s), none]) m _
  simp only [fn_lk_ahead, ss_lk_ahead_0, wp_bd, wp_ret, wp_nope, wp_chk, wp_some, wp_ite, wp_tru, wpF_bs, wpF_nx, wpF_rt, wpF_bk, wpF_ct, wpF_ite, thenF_nx, thenF_rt, thenF_bk, thenF_ct, wpF_nil, wpF_cons, endF_nx, endF_rt, exe, ev, evs, evI, varM, List.getElem?_cons_zero, List.getElem?_cons_succ, List.set_cons_zero, List.set_cons_succ, Bool.false_eq_true, if_true, if_false, ite_true, ite_false, reduceIte, Option.some.injEq, exists_eq_left', exists_eq_left, wp_ixR, ixW_l, ixW_f, wp_ixT, wp_lenR, lenW_l, lenW_f, wp_lenT, wp_tupR, lsW_l, lsW_f, wp_tupT, wp_listT, wp_cmp, cmp_lt, cmp_le, cmp_gt, cmp_ge, cmp_eq, cmp_ne, eqD_int, eqD_bl, cmp_is, cmp_isn, dIs_bl, dIs_tn, dIs_nn, opt_map, decide_eq_true_eq, wp_mod, wp_fdiv, wp_pow, wp_add, wp_sub, wp_mul, wp_mulTI, wp_addT, wp_neg, wp_slT, wp_slR, slW, wp_isLst, lW_l, wp_app, wp_popAt, wp_setR, setW_l, partO, Bool.not_true, Bool.not_false, wp_minI, wp_maxI, wp_intI, wp_intB, wp_absI, wp_srcT, wp_r2, wp_isi, asg_one, asg_two, wp_srcST, isTy_bb, wipe_nil, wipe_cons, at0, at1, ix0, ix1]
  refine ⟨⟨by decide, ⟨by omega, by omega⟩⟩, ?_⟩
  have er : rngL 1 ((k : Int) + 1 - 1).toNat 1 = (List.range k).map fun i => D.int ((i + 1 : Nat) : Int) := by
    unfold rngL
    rw [show ((k : Int) + 1 - 1).toNat = k by omega]
    exact List.map_congr_left fun i _ => by congr 1; omega
  rw [er]
  refine wp_loopG (a := []) (f := fun i : Nat => D.int ((i + 1 : Nat) : Int)) (g := fun i => if kAt kb i == s then some (D.int ((i + 1 : Nat) : Int)) else none) (fun _ _ => trivial) (List.range k) (fun i hi m2 g2 => ?_) (fun m2 g2 => ?_)
  · have hi := List.mem_range.mp hi
    simp only [wp_bd, wp_ret, wp_nope, wp_chk, wp_some, wp_ite, wp_tru, wpF_bs, wpF_nx, wpF_rt, wpF_bk, wpF_ct, wpF_ite, thenF_nx, thenF_rt, thenF_bk, thenF_ct, wpF_nil, wpF_cons, endF_nx, endF_rt, exe, ev, evs, evI, varM, List.getElem?_cons_zero, List.getElem?_cons_succ, List.set_cons_zero, List.set_cons_succ, Bool.false_eq_true, if_true, if_false, ite_true, ite_false, reduceIte, Option.some.injEq, exists_eq_left', exists_eq_left, wp_ixR, ixW_l, ixW_f, wp_ixT, wp_lenR, lenW_l, lenW_f, wp_lenT, wp_tupR, lsW_l, lsW_f, wp_tupT, wp_listT, wp_cmp, cmp_lt, cmp_le, cmp_gt, cmp_ge, cmp_eq, cmp_ne, eqD_int, eqD_bl, cmp_is, cmp_isn, dIs_bl, dIs_tn, dIs_nn, opt_map, decide_eq_true_eq, wp_mod, wp_fdiv, wp_pow, wp_add, wp_sub, wp_mul, wp_mulTI, wp_addT, wp_neg, wp_slT, wp_slR, slW, wp_isLst, lW_l, wp_app, wp_popAt, wp_setR, setW_l, partO, Bool.not_true, Bool.not_false, wp_minI, wp_maxI, wp_intI, wp_intB, wp_absI, wp_srcT, wp_r2, wp_isi, asg_one, asg_two, wp_srcST, isTy_bb, wipe_nil, wipe_cons, at0, at1, ix0, ix1]
    refine ⟨_, kAt_ix (by omega) (by omega), ?_⟩
    rw [eqD_str, kS_beq, show (((i + 1 : Nat) : Int) - 1).toNat = i by omega]
    cases kAt kb i == s <;> simp only [wp_bd, wp_ret, wp_nope, wp_chk, wp_some, wp_ite, wp_tru, wpF_bs, wpF_nx, wpF_rt, wpF_bk, wpF_ct, wpF_ite, thenF_nx, thenF_rt, thenF_bk, thenF_ct, wpF_nil, wpF_cons, endF_nx, endF_rt, exe, ev, evs, evI, varM, List.getElem?_cons_zero, List.getElem?_cons_succ, List.set_cons_zero, List.set_cons_succ, Bool.false_eq_true, if_true, if_false, ite_true, ite_false, reduceIte, Option.some.injEq, exists_eq_left', exists_eq_left, wp_ixR, ixW_l, ixW_f, wp_ixT, wp_lenR, lenW_l, lenW_f, wp_lenT, wp_tupR, lsW_l, lsW_f, wp_tupT, wp_listT, wp_cmp, cmp_lt, cmp_le, cmp_gt, cmp_ge, cmp_eq, cmp_ne, eqD_int, eqD_bl, cmp_is, cmp_isn, dIs_bl, dIs_tn, dIs_nn, opt_map, decide_eq_true_eq, wp_mod, wp_fdiv, wp_pow, wp_add, wp_sub, wp_mul, wp_mulTI, wp_addT, wp_neg, wp_slT, wp_slR, slW, wp_isLst, lW_l, wp_app, wp_popAt, wp_setR, setW_l, partO, Bool.not_true, Bool.not_false, wp_minI, wp_maxI, wp_intI, wp_intB, wp_absI, wp_srcT, wp_r2, wp_isi, asg_one, asg_two, wp_srcST, isTy_bb, wipe_nil, wipe_cons, at0, at1, ix0, ix1] <;> exact ⟨trivial, .refl⟩
  · rw [fmIf]
    exact wp_new fun a m3 g3 e3 a3 b3 c3 => ⟨a, rfl, e3, g2.trans g3, by have := g2.1; omega⟩
theorem lk_parts_ok (LA : t "_law_ahead" = some fn_lk_ahead) (LC : t "_law_choices" = some fn_lk_plays) (L : t "_law_parts" = some fn_lk_parts) (hk : kb.length ≤ 8) : wp (run t w (n + 2) "_law_parts" [.tup ((kx kb sw).map kD), kD (!sw)]) m fun v m' => ∃ a, v = .ref a ∧ m'[a]? = some (.lst ((partsL kb).map ptD)) ∧ Ge m m' ∧ m.length ≤ a := by
  have big : (2000 : Nat) < sizeLine := by decide
  refine wp_run L rfl ?_
  show wpF (exes _ _ fn_lk_parts.body [some (.tup ((kx kb sw).map kD)), some (kD (!sw)), none, none, none, none]) m _
  simp only [fn_lk_parts, ss_lk_parts_0, wp_bd, wp_ret, wp_nope, wp_chk, wp_some, wp_ite, wp_tru, wpF_bs, wpF_nx, wpF_rt, wpF_bk, wpF_ct, wpF_ite, thenF_nx, thenF_rt, thenF_bk, thenF_ct, wpF_nil, wpF_cons, endF_nx, endF_rt, exe, ev, evs, evI, varM, List.getElem?_cons_zero, List.getElem?_cons_succ, List.set_cons_zero, List.set_cons_succ, Bool.false_eq_true, if_true, if_false, ite_true, ite_false, reduceIte, Option.some.injEq, exists_eq_left', exists_eq_left, wp_ixR, ixW_l, ixW_f, wp_ixT, wp_lenR, lenW_l, lenW_f, wp_lenT, wp_tupR, lsW_l, lsW_f, wp_tupT, wp_listT, wp_cmp, cmp_lt, cmp_le, cmp_gt, cmp_ge, cmp_eq, cmp_ne, eqD_int, eqD_bl, cmp_is, cmp_isn, dIs_bl, dIs_tn, dIs_nn, opt_map, decide_eq_true_eq, wp_mod, wp_fdiv, wp_pow, wp_add, wp_sub, wp_mul, wp_mulTI, wp_addT, wp_neg, wp_slT, wp_slR, slW, wp_isLst, lW_l, wp_app, wp_popAt, wp_setR, setW_l, partO, Bool.not_true, Bool.not_false, wp_minI, wp_maxI, wp_intI, wp_intB, wp_absI, wp_srcT, wp_r2, wp_isi, asg_one, asg_two, wp_srcST, isTy_bb, wipe_nil, wipe_cons, at0, at1, ix0, ix1, List.length_cons, List.length_nil]
  refine ⟨by omega, wp_new fun o m1 g1 e1 a1 b1 c1 => ?_⟩
  simp only [wp_bd, wp_ret, wp_nope, wp_chk, wp_some, wp_ite, wp_tru, wpF_bs, wpF_nx, wpF_rt, wpF_bk, wpF_ct, wpF_ite, thenF_nx, thenF_rt, thenF_bk, thenF_ct, wpF_nil, wpF_cons, endF_nx, endF_rt, exe, ev, evs, evI, varM, List.getElem?_cons_zero, List.getElem?_cons_succ, List.set_cons_zero, List.set_cons_succ, Bool.false_eq_true, if_true, if_false, ite_true, ite_false, reduceIte, Option.some.injEq, exists_eq_left', exists_eq_left, wp_ixR, ixW_l, ixW_f, wp_ixT, wp_lenR, lenW_l, lenW_f, wp_lenT, wp_tupR, lsW_l, lsW_f, wp_tupT, wp_listT, wp_cmp, cmp_lt, cmp_le, cmp_gt, cmp_ge, cmp_eq, cmp_ne, eqD_int, eqD_bl, cmp_is, cmp_isn, dIs_bl, dIs_tn, dIs_nn, opt_map, decide_eq_true_eq, wp_mod, wp_fdiv, wp_pow, wp_add, wp_sub, wp_mul, wp_mulTI, wp_addT, wp_neg, wp_slT, wp_slR, slW, wp_isLst, lW_l, wp_app, wp_popAt, wp_setR, setW_l, partO, Bool.not_true, Bool.not_false, wp_minI, wp_maxI, wp_intI, wp_intB, wp_absI, wp_srcT, wp_r2, wp_isi, asg_one, asg_two, wp_srcST, isTy_bb, wipe_nil, wipe_cons, at0, at1, ix0, ix1, eqD_str, e1]
  have ey : L2.atI [D.str "all", D.str "some"] (if ((kS !sw) == ("all" : Str)) = true then (1 : Int) else 0) = some (kD sw) := by cases sw <;> rfl
  refine ⟨_, ey, ?_⟩
  simp only [ss_lk_parts_1, wp_bd, wp_ret, wp_nope, wp_chk, wp_some, wp_ite, wp_tru, wpF_bs, wpF_nx, wpF_rt, wpF_bk, wpF_ct, wpF_ite, thenF_nx, thenF_rt, thenF_bk, thenF_ct, wpF_nil, wpF_cons, endF_nx, endF_rt, exe, ev, evs, evI, varM, List.getElem?_cons_zero, List.getElem?_cons_succ, List.set_cons_zero, List.set_cons_succ, Bool.false_eq_true, if_true, if_false, ite_true, ite_false, reduceIte, Option.some.injEq, exists_eq_left', exists_eq_left, wp_ixR, ixW_l, ixW_f, wp_ixT, wp_lenR, lenW_l, lenW_f, wp_lenT, wp_tupR, lsW_l, lsW_f, wp_tupT, wp_listT, wp_cmp, cmp_lt, cmp_le, cmp_gt, cmp_ge, cmp_eq, cmp_ne, eqD_int, eqD_bl, cmp_is, cmp_isn, dIs_bl, dIs_tn, dIs_nn, opt_map, decide_eq_true_eq, wp_mod, wp_fdiv, wp_pow, wp_add, wp_sub, wp_mul, wp_mulTI, wp_addT, wp_neg, wp_slT, wp_slR, slW, wp_isLst, lW_l, wp_app, wp_popAt, wp_setR, setW_l, partO, Bool.not_true, Bool.not_false, wp_minI, wp_maxI, wp_intI, wp_intB, wp_absI, wp_srcT, wp_r2, wp_isi, asg_one, asg_two, wp_srcST, isTy_bb, wipe_nil, wipe_cons, at0, at1, ix0, ix1, List.length_nil]
  refine ⟨by omega, wp_new fun f m2 g2 e2 a2 b2 c2 => ?_⟩
  simp only [ss_lk_parts_2, wp_bd, wp_ret, wp_nope, wp_chk, wp_some, wp_ite, wp_tru, wpF_bs, wpF_nx, wpF_rt, wpF_bk, wpF_ct, wpF_ite, thenF_nx, thenF_rt, thenF_bk, thenF_ct, wpF_nil, wpF_cons, endF_nx, endF_rt, exe, ev, evs, evI, varM, List.getElem?_cons_zero, List.getElem?_cons_succ, List.set_cons_zero, List.set_cons_succ, Bool.false_eq_true, if_true, if_false, ite_true, ite_false, reduceIte, Option.some.injEq, exists_eq_left', exists_eq_left, wp_ixR, ixW_l, ixW_f, wp_ixT, wp_lenR, lenW_l, lenW_f, wp_lenT, wp_tupR, lsW_l, lsW_f, wp_tupT, wp_listT, wp_cmp, cmp_lt, cmp_le, cmp_gt, cmp_ge, cmp_eq, cmp_ne, eqD_int, eqD_bl, cmp_is, cmp_isn, dIs_bl, dIs_tn, dIs_nn, opt_map, decide_eq_true_eq, wp_mod, wp_fdiv, wp_pow, wp_add, wp_sub, wp_mul, wp_mulTI, wp_addT, wp_neg, wp_slT, wp_slR, slW, wp_isLst, lW_l, wp_app, wp_popAt, wp_setR, setW_l, partO, Bool.not_true, Bool.not_false, wp_minI, wp_maxI, wp_intI, wp_intB, wp_absI, wp_srcT, wp_r2, wp_isi, asg_one, asg_two, wp_srcST, isTy_bb, wipe_nil, wipe_cons, at0, at1, ix0, ix1, List.length_map, kx_len]
  refine ⟨⟨by decide, ⟨by omega, by omega⟩⟩, ?_⟩
  have er : rngL 1 ((kb.length : Int) + 1 - 1).toNat 1 = ((List.range kb.length).drop 0).map fun i => D.int ((i + 1 : Nat) : Int) := by
    unfold rngL
    rw [show ((kb.length : Int) + 1 - 1).toNat = kb.length by omega, List.drop_zero]
    exact List.map_congr_left fun i _ => by congr 1; omega
  rw [er]
  refine wpF_loop (a := []) (J := fun xs ρ m' => ∃ (k : Nat) (b4 b5 : Option D), xs = ((List.range kb.length).drop k).map (fun i => D.int ((i + 1 : Nat) : Int)) ∧ k ≤ kb.length ∧ ρ = [some (.tup ((kx kb sw).map kD)), some (kD (!sw)), some (kD sw), some (.ref f), b4, b5] ∧ m'[f]? = some (.lst ((partsT kb k).map ptD)) ∧ Gr f m2 m') (fun _ _ _ _ => trivial) (fun x xs ρ m' hJ => ?_) (fun ρ m' hJ => ?_) _ _ _
    ⟨0, _, _, rfl, by omega, rfl, e2, .refl⟩
  · obtain ⟨k, b4, b5, ex, hkk, rfl, ef, g⟩ := hJ
    have klt : k < kb.length := by
      by_cases klt : k < kb.length
      · exact klt
      · rw [List.drop_eq_nil_of_le (by rw [List.length_range]; omega)] at ex
        cases ex
    rw [List.drop_eq_getElem_cons (by rw [List.length_range]; exact klt), List.map_cons, List.getElem_range] at ex
    obtain ⟨rfl, rfl⟩ := List.cons.inj ex
    have ki := kAt_ix (kb := kx kb sw) (i := ((k + 1 : Nat) : Int) - 1) (by omega) (by rw [kx_len]; omega)
    rw [show (((k + 1 : Nat) : Int) - 1).toNat = k by omega, kx_at klt] at ki
    simp only [ss_lk_parts_2b_0, wp_bd, wp_ret, wp_nope, wp_chk, wp_some, wp_ite, wp_tru, wpF_bs, wpF_nx, wpF_rt, wpF_bk, wpF_ct, wpF_ite, thenF_nx, thenF_rt, thenF_bk, thenF_ct, wpF_nil, wpF_cons, endF_nx, endF_rt, exe, ev, evs, evI, varM, List.getElem?_cons_zero, List.getElem?_cons_succ, List.set_cons_zero, List.set_cons_succ, Bool.false_eq_true, if_true, if_false, ite_true, ite_false, reduceIte, Option.some.injEq, exists_eq_left', exists_eq_left, wp_ixR, ixW_l, ixW_f, wp_ixT, wp_lenR, lenW_l, lenW_f, wp_lenT, wp_tupR, lsW_l, lsW_f, wp_tupT, wp_listT, wp_cmp, cmp_lt, cmp_le, cmp_gt, cmp_ge, cmp_eq, cmp_ne, eqD_int, eqD_bl, cmp_is, cmp_isn, dIs_bl, dIs_tn, dIs_nn, opt_map, decide_eq_true_eq, wp_mod, wp_fdiv, wp_pow, wp_add, wp_sub, wp_mul, wp_mulTI, wp_addT, wp_neg, wp_slT, wp_slR, slW, wp_isLst, lW_l, wp_app, wp_popAt, wp_setR, setW_l, partO, Bool.not_true, Bool.not_false, wp_minI, wp_maxI, wp_intI, wp_intB, wp_absI, wp_srcT, wp_r2, wp_isi, asg_one, asg_two, wp_srcST, isTy_bb, wipe_nil, wipe_cons, at0, at1, ix0, ix1]
    refine ⟨_, ki, ?_⟩
    rw [eqD_str, kS_beq]
    have hT := partsT_len (kb := kb) k
    have h2k := Nat.pow_le_pow_right (n := 2) (by decide) (show k ≤ 8 by omega)
    have ec : ((kAt kb k != sw) == !sw) = kAt kb k := by cases kAt kb k <;> cases sw <;> rfl
    rw [ec]
    simp only [wp_bd, wp_ret, wp_nope, wp_chk, wp_some, wp_ite, wp_tru, wpF_bs, wpF_nx, wpF_rt, wpF_bk, wpF_ct, wpF_ite, thenF_nx, thenF_rt, thenF_bk, thenF_ct, wpF_nil, wpF_cons, endF_nx, endF_rt, exe, ev, evs, evI, varM, List.getElem?_cons_zero, List.getElem?_cons_succ, List.set_cons_zero, List.set_cons_succ, Bool.false_eq_true, if_true, if_false, ite_true, ite_false, reduceIte, Option.some.injEq, exists_eq_left', exists_eq_left, wp_ixR, ixW_l, ixW_f, wp_ixT, wp_lenR, lenW_l, lenW_f, wp_lenT, wp_tupR, lsW_l, lsW_f, wp_tupT, wp_listT, wp_cmp, cmp_lt, cmp_le, cmp_gt, cmp_ge, cmp_eq, cmp_ne, eqD_int, eqD_bl, cmp_is, cmp_isn, dIs_bl, dIs_tn, dIs_nn, opt_map, decide_eq_true_eq, wp_mod, wp_fdiv, wp_pow, wp_add, wp_sub, wp_mul, wp_mulTI, wp_addT, wp_neg, wp_slT, wp_slR, slW, wp_isLst, lW_l, wp_app, wp_popAt, wp_setR, setW_l, partO, Bool.not_true, Bool.not_false, wp_minI, wp_maxI, wp_intI, wp_intB, wp_absI, wp_srcT, wp_r2, wp_isi, asg_one, asg_two, wp_srcST, isTy_bb, wipe_nil, wipe_cons, at0, at1, ix0, ix1]
    cases c : kAt kb k with
    | false =>
      simp only [wp_bd, wp_ret, wp_nope, wp_chk, wp_some, wp_ite, wp_tru, wpF_bs, wpF_nx, wpF_rt, wpF_bk, wpF_ct, wpF_ite, thenF_nx, thenF_rt, thenF_bk, thenF_ct, wpF_nil, wpF_cons, endF_nx, endF_rt, exe, ev, evs, evI, varM, List.getElem?_cons_zero, List.getElem?_cons_succ, List.set_cons_zero, List.set_cons_succ, Bool.false_eq_true, if_true, if_false, ite_true, ite_false, reduceIte, Option.some.injEq, exists_eq_left', exists_eq_left, wp_ixR, ixW_l, ixW_f, wp_ixT, wp_lenR, lenW_l, lenW_f, wp_lenT, wp_tupR, lsW_l, lsW_f, wp_tupT, wp_listT, wp_cmp, cmp_lt, cmp_le, cmp_gt, cmp_ge, cmp_eq, cmp_ne, eqD_int, eqD_bl, cmp_is, cmp_isn, dIs_bl, dIs_tn, dIs_nn, opt_map, decide_eq_true_eq, wp_mod, wp_fdiv, wp_pow, wp_add, wp_sub, wp_mul, wp_mulTI, wp_addT, wp_neg, wp_slT, wp_slR, slW, wp_isLst, lW_l, wp_app, wp_popAt, wp_setR, setW_l, partO, Bool.not_true, Bool.not_false, wp_minI, wp_maxI, wp_intI, wp_intB, wp_absI, wp_srcT, wp_r2, wp_isi, asg_one, asg_two, wp_srcST, isTy_bb, wipe_nil, wipe_cons, at0, at1, ix0, ix1]
      exact ⟨k + 1, _, _, rfl, by omega, rfl, by rw [ef, partsT_succ, c, if_neg (by decide), List.append_nil], g⟩
    | true =>
      simp only [wp_bd, wp_ret, wp_nope, wp_chk, wp_some, wp_ite, wp_tru, wpF_bs, wpF_nx, wpF_rt, wpF_bk, wpF_ct, wpF_ite, thenF_nx, thenF_rt, thenF_bk, thenF_ct, wpF_nil, wpF_cons, endF_nx, endF_rt, exe, ev, evs, evI, varM, List.getElem?_cons_zero, List.getElem?_cons_succ, List.set_cons_zero, List.set_cons_succ, Bool.false_eq_true, if_true, if_false, ite_true, ite_false, reduceIte, Option.some.injEq, exists_eq_left', exists_eq_left, wp_ixR, ixW_l, ixW_f, wp_ixT, wp_lenR, lenW_l, lenW_f, wp_lenT, wp_tupR, lsW_l, lsW_f, wp_tupT, wp_listT, wp_cmp, cmp_lt, cmp_le, cmp_gt, cmp_ge, cmp_eq, cmp_ne, eqD_int, eqD_bl, cmp_is, cmp_isn, dIs_bl, dIs_tn, dIs_nn, opt_map, decide_eq_true_eq, wp_mod, wp_fdiv, wp_pow, wp_add, wp_sub, wp_mul, wp_mulTI, wp_addT, wp_neg, wp_slT, wp_slR, slW, wp_isLst, lW_l, wp_app, wp_popAt, wp_setR, setW_l, partO, Bool.not_true, Bool.not_false, wp_minI, wp_maxI, wp_intI, wp_intB, wp_absI, wp_srcT, wp_r2, wp_isi, asg_one, asg_two, wp_srcST, isTy_bb, wipe_nil, wipe_cons, at0, at1, ix0, ix1]
      rw [show (((k + 1 : Nat) : Int)) = ((k : Nat) + 1 : Int) by omega]
      refine wp_mono (lk_ahead_ok (kb := kx kb sw) (s := sw) (n := n) LA (k := k) (by rw [kx_len]; omega) (by rw [kx_len]; omega)) fun v m3 ⟨la, e, e3, g3, a3⟩ => ?_
      subst e
      have h8 : ahN kb k ≤ 8 := Nat.le_trans (ahN_le k) (by omega)
      simp only [wp_bd, wp_ret, wp_nope, wp_chk, wp_some, wp_ite, wp_tru, wpF_bs, wpF_nx, wpF_rt, wpF_bk, wpF_ct, wpF_ite, thenF_nx, thenF_rt, thenF_bk, thenF_ct, wpF_nil, wpF_cons, endF_nx, endF_rt, exe, ev, evs, evI, varM, List.getElem?_cons_zero, List.getElem?_cons_succ, List.set_cons_zero, List.set_cons_succ, Bool.false_eq_true, if_true, if_false, ite_true, ite_false, reduceIte, Option.some.injEq, exists_eq_left', exists_eq_left, wp_ixR, ixW_l, ixW_f, wp_ixT, wp_lenR, lenW_l, lenW_f, wp_lenT, wp_tupR, lsW_l, lsW_f, wp_tupT, wp_listT, wp_cmp, cmp_lt, cmp_le, cmp_gt, cmp_ge, cmp_eq, cmp_ne, eqD_int, eqD_bl, cmp_is, cmp_isn, dIs_bl, dIs_tn, dIs_nn, opt_map, decide_eq_true_eq, wp_mod, wp_fdiv, wp_pow, wp_add, wp_sub, wp_mul, wp_mulTI, wp_addT, wp_neg, wp_slT, wp_slR, slW, wp_isLst, lW_l, wp_app, wp_popAt, wp_setR, setW_l, partO, Bool.not_true, Bool.not_false, wp_minI, wp_maxI, wp_intI, wp_intB, wp_absI, wp_srcT, wp_r2, wp_isi, asg_one, asg_two, wp_srcST, isTy_bb, wipe_nil, wipe_cons, at0, at1, ix0, ix1, e3, List.length_map, ah_kx (kb := kb) (sw := sw) (Nat.le_of_lt klt)]
      refine wp_mono (lk_plays_ok (n := n) LC h8) fun v m4 ⟨lc, e, e4, g4, a4⟩ => ?_
      subst e
      rw [wp_srcR e4]
      have ef4 := (g3.trans g4).get ef
      have hls := lev_small h8
      have ncf : lc ≠ f := by have := lt_of_get (g3.get ef); omega
      refine wpF_loop (a := [(lc, _)]) (J := fun xs ρ m5 => ∃ (done rest : List (List Bool)) (b5 : Option D), lev (ahN kb k) = done ++ rest ∧ xs = rest.map bsD ∧ ρ = [some (.tup ((kx kb sw).map kD)), some (kD (!sw)), some (kD sw), some (.ref f), some (.int ((k : Nat) + 1 : Int)), b5] ∧ m5[f]? = some (.lst ((partsT kb k ++ done.map fun c => (k + 1, c)).map ptD)) ∧ Gr f m4 m5) (fun _ _ _ ⟨_, _, _, _, _, _, _, g⟩ => g.get ncf e4) (fun x xs ρ m5 hJ => ?_) (fun ρ m5 hJ => ?_) _ _ _
        ⟨[], lev (ahN kb k), _, rfl, rfl, rfl, by rw [ef4, List.map_nil, List.append_nil], .refl⟩
      · obtain ⟨done, rest, b5, q1, q2, rfl, q3, g5⟩ := hJ
        cases rest with
        | nil => cases q2
        | cons cs rest =>
          cases q2
          have hd : done.length + (rest.length + 1) = (lev (ahN kb k)).length := by rw [q1, List.length_append, List.length_cons]
          simp only [ss_lk_parts_2b_0b_0, wp_bd, wp_ret, wp_nope, wp_chk, wp_some, wp_ite, wp_tru, wpF_bs, wpF_nx, wpF_rt, wpF_bk, wpF_ct, wpF_ite, thenF_nx, thenF_rt, thenF_bk, thenF_ct, wpF_nil, wpF_cons, endF_nx, endF_rt, exe, ev, evs, evI, varM, List.getElem?_cons_zero, List.getElem?_cons_succ, List.set_cons_zero, List.set_cons_succ, Bool.false_eq_true, if_true, if_false, ite_true, ite_false, reduceIte, Option.some.injEq, exists_eq_left', exists_eq_left, wp_ixR, ixW_l, ixW_f, wp_ixT, wp_lenR, lenW_l, lenW_f, wp_lenT, wp_tupR, lsW_l, lsW_f, wp_tupT, wp_listT, wp_cmp, cmp_lt, cmp_le, cmp_gt, cmp_ge, cmp_eq, cmp_ne, eqD_int, eqD_bl, cmp_is, cmp_isn, dIs_bl, dIs_tn, dIs_nn, opt_map, decide_eq_true_eq, wp_mod, wp_fdiv, wp_pow, wp_add, wp_sub, wp_mul, wp_mulTI, wp_addT, wp_neg, wp_slT, wp_slR, slW, wp_isLst, lW_l, wp_app, wp_popAt, wp_setR, setW_l, partO, Bool.not_true, Bool.not_false, wp_minI, wp_maxI, wp_intI, wp_intB, wp_absI, wp_srcT, wp_r2, wp_isi, asg_one, asg_two, wp_srcST, isTy_bb, wipe_nil, wipe_cons, at0, at1, ix0, ix1, List.length_cons, List.length_nil, q3, List.length_map, List.length_append]
          refine ⟨by decide, by omega, ?_⟩
          refine ⟨done ++ [cs], rest, _, by rw [q1]; simp, rfl, rfl, ?_, g5.trans Gr.set⟩
          rw [getSS q3]
          congr 2
          simp
      · obtain ⟨done, rest, b5, q1, q2, rfl, q3, g5⟩ := hJ
        have : rest = [] := by
          cases rest with
          | nil => rfl
          | cons _ _ => cases q2
        subst this
        rw [List.append_nil] at q1
        subst q1
        simp only [wp_bd, wp_ret, wp_nope, wp_chk, wp_some, wp_ite, wp_tru, wpF_bs, wpF_nx, wpF_rt, wpF_bk, wpF_ct, wpF_ite, thenF_nx, thenF_rt, thenF_bk, thenF_ct, wpF_nil, wpF_cons, endF_nx, endF_rt, exe, ev, evs, evI, varM, List.getElem?_cons_zero, List.getElem?_cons_succ, List.set_cons_zero, List.set_cons_succ, Bool.false_eq_true, if_true, if_false, ite_true, ite_false, reduceIte, Option.some.injEq, exists_eq_left', exists_eq_left, wp_ixR, ixW_l, ixW_f, wp_ixT, wp_lenR, lenW_l, lenW_f, wp_lenT, wp_tupR, lsW_l, lsW_f, wp_tupT, wp_listT, wp_cmp, cmp_lt, cmp_le, cmp_gt, cmp_ge, cmp_eq, cmp_ne, eqD_int, eqD_bl, cmp_is, cmp_isn, dIs_bl, dIs_tn, dIs_nn, opt_map, decide_eq_true_eq, wp_mod, wp_fdiv, wp_pow, wp_add, wp_sub, wp_mul, wp_mulTI, wp_addT, wp_neg, wp_slT, wp_slR, slW, wp_isLst, lW_l, wp_app, wp_popAt, wp_setR, setW_l, partO, Bool.not_true, Bool.not_false, wp_minI, wp_maxI, wp_intI, wp_intB, wp_absI, wp_srcT, wp_r2, wp_isi, asg_one, asg_two, wp_srcST, isTy_bb, wipe_nil, wipe_cons, at0, at1, ix0, ix1]
        exact ⟨k + 1, _, _, rfl, by omega, rfl, by rw [q3, partsT_succ, c, if_pos rfl], g.trans ((g3.trans g4).gr.trans g5)⟩
  · obtain ⟨k, b4, b5, ex, hkk, rfl, ef, g⟩ := hJ
    have ek : k = kb.length := by
      by_cases klt : k < kb.length
      · rw [List.drop_eq_getElem_cons (by rw [List.length_range]; exact klt), List.map_cons] at ex
        cases ex
      · omega
    subst ek
    simp only [ss_lk_parts_3, wp_bd, wp_ret, wp_nope, wp_chk, wp_some, wp_ite, wp_tru, wpF_bs, wpF_nx, wpF_rt, wpF_bk, wpF_ct, wpF_ite, thenF_nx, thenF_rt, thenF_bk, thenF_ct, wpF_nil, wpF_cons, endF_nx, endF_rt, exe, ev, evs, evI, varM, List.getElem?_cons_zero, List.getElem?_cons_succ, List.set_cons_zero, List.set_cons_succ, Bool.false_eq_true, if_true, if_false, ite_true, ite_false, reduceIte, Option.some.injEq, exists_eq_left', exists_eq_left, wp_ixR, ixW_l, ixW_f, wp_ixT, wp_lenR, lenW_l, lenW_f, wp_lenT, wp_tupR, lsW_l, lsW_f, wp_tupT, wp_listT, wp_cmp, cmp_lt, cmp_le, cmp_gt, cmp_ge, cmp_eq, cmp_ne, eqD_int, eqD_bl, cmp_is, cmp_isn, dIs_bl, dIs_tn, dIs_nn, opt_map, decide_eq_true_eq, wp_mod, wp_fdiv, wp_pow, wp_add, wp_sub, wp_mul, wp_mulTI, wp_addT, wp_neg, wp_slT, wp_slR, slW, wp_isLst, lW_l, wp_app, wp_popAt, wp_setR, setW_l, partO, Bool.not_true, Bool.not_false, wp_minI, wp_maxI, wp_intI, wp_intB, wp_absI, wp_srcT, wp_r2, wp_isi, asg_one, asg_two, wp_srcST, isTy_bb, wipe_nil, wipe_cons, at0, at1, ix0, ix1]
    exact ⟨f, rfl, ef, g1.trans (g.ge g2 a2), by have := g1.1; omega⟩
end
end Af
namespace Af
open PySem PySem.Spec PyProof.Rows L2
def top (i : Nat) : Stmt := PySem.Challenge.pw_allsome_k40_claims_spread.main.body.getD i (.Pass ⟨0, 0, 0, 0⟩)
def df_choices : Df := ⟨"choices", ["many"], ["many", "found", "turn", "both", "one"], top 1, fn_choices, "choices", "choices", none⟩
def df_ahead_of : Df := ⟨"ahead_of", ["kinds"], ["kinds", "found", "kind"], top 2, fn_ahead_of, "ahead_of", "ahead_of", none⟩
def df_parts_of : Df := ⟨"parts_of", ["kinds"], ["kinds", "ahead", "found", "k", "choice"], top 3, fn_parts_of, "parts_of", "parts_of", none⟩
def df_spread_row : Df := ⟨"spread_row", ["kinds", "ahead", "numbers", "row", "choice"], ["kinds", "ahead", "numbers", "row", "choice", "found", "literal", "k", "number"], top 4, fn_spread_row, "spread_row", "spread_row", none⟩
def df_spread : Df := ⟨"spread", ["claim"], ["claim", "kinds", "rows", "parts", "ahead", "numbers", "part", "found", "choice", "row", "one"], top 5, fn_spread, "spread", "spread", none⟩
def df_lk_mix : Df := ⟨"_law_mix", ["cell", "k"], ["cell", "k", "prime", "one"], top 7, fn_lk_mix, "_law_mix", "_law_mix", none⟩
def df_lk_digits : Df := ⟨"_law_digits", ["cell", "many"], ["cell", "many", "found", "left_over", "wide", "k"], top 8, fn_lk_digits, "_law_digits", "_law_digits", none⟩
def df_lk_at : Df := ⟨"_law_at", ["script", "k"], ["script", "k"], top 9, fn_lk_at, "_law_at", "_law_at", none⟩
def df_lk_kinds : Df := ⟨"_law_kinds", ["some", "many"], ["some", "many", "found", "k", "kind"], top 10, fn_lk_kinds, "_law_kinds", "_law_kinds", none⟩
def df_lk_row : Df := ⟨"_law_row", ["cell", "many", "wide"], ["cell", "many", "wide", "some", "found", "k"], top 11, fn_lk_row, "_law_row", "_law_row", none⟩
def df_lk_claim : Df := ⟨"_law_claim", ["script", "most"], ["script", "most", "some", "many", "kinds", "size", "rows", "k", "row"], top 12, fn_lk_claim, "_law_claim", "_law_claim", none⟩
def ss_lk_choices_1b_1b_0 : Ss := .cons (.set 3 (.bin .add (.var 3) (.lst (.cons (.bin .add (.var 4) (.tup (.cons (.k (.bl false)) .nil))) (.cons (.bin .add (.var 4) (.tup (.cons (.k (.bl true)) .nil))) .nil))))) .nil
def ss_lk_choices_1b_2 : Ss := .cons (.set 1 (.var 3)) .nil
def ss_lk_choices_1b_1 : Ss := .cons (.for (.one 4) (.exp (.var 1)) ss_lk_choices_1b_1b_0) ss_lk_choices_1b_2
def ss_lk_choices_1b_0 : Ss := .cons (.set 3 (.lst .nil)) ss_lk_choices_1b_1
def ss_lk_choices_2 : Ss := .cons (.rt (.var 1)) .nil
def ss_lk_choices_1 : Ss := .cons (.for (.one 2) (.rng1 (.var 0)) ss_lk_choices_1b_0) ss_lk_choices_2
def ss_lk_choices_0 : Ss := .cons (.set 1 (.lst (.cons (.tup .nil) .nil))) ss_lk_choices_1
def fn_lk_choices : Fn := ⟨1, 5, ss_lk_choices_0⟩
def df_lk_choices : Df := ⟨"_law_choices", ["many"], ["many", "found", "turn", "both", "one"], top 13, fn_lk_choices, "_law_choices", "_law_choices", none⟩
def df_lk_ahead : Df := ⟨"_law_ahead", ["kinds", "name", "side"], ["kinds", "name", "side", "one"], top 14, fn_lk_ahead, "_law_ahead", "_law_ahead", none⟩
def df_lk_parts : Df := ⟨"_law_parts", ["kinds", "side"], ["kinds", "side", "other", "found", "name", "choice"], top 15, fn_lk_parts, "_law_parts", "_law_parts", none⟩
def ss_lk_spread_row_2b_1 : Ss := .cons (.ite (.hasK (.var 8) (.var 5)) (.cons (.ite (.cmp .eq (.ixK (.var 5) (.var 8)) (.cmp .gt (.var 7) (.k (.int 0)))) (.cons (.rt (.k .non)) .nil) .nil) .nil) (.cons (.set 9 (.tup (.cons (.var 8) (.cons (.slU (.var 3) (.bi .len (.cons (.call "_law_ahead" (.cons (.var 0) (.cons (.var 8) (.cons (.k (.str "all")) .nil)))) .nil))) .nil)))) (.cons (.ex (.me .append (.var 6) (.cons (.bin .mul (.ix (.lst (.cons (.neg (.k (.int 1))) (.cons (.k (.int 1)) .nil))) (.bi .int (.cons (.cmp .gt (.var 7) (.k (.int 0))) .nil))) (.bin .add (.ix (.var 1) (.var 9)) (.k (.int 1)))) .nil))) .nil))) .nil
def ss_lk_spread_row_2b_0 : Ss := .cons (.set 8 (.bi .abs (.cons (.var 7) .nil))) ss_lk_spread_row_2b_1
def ss_lk_spread_row_3 : Ss := .cons (.rt (.bi .tuple (.cons (.var 6) .nil))) .nil
def ss_lk_spread_row_2 : Ss := .cons (.for (.one 7) (.exp (.var 4)) ss_lk_spread_row_2b_0) ss_lk_spread_row_3
def ss_lk_spread_row_1 : Ss := .cons (.set 6 (.lst .nil)) ss_lk_spread_row_2
def ss_lk_spread_row_0 : Ss := .cons (.set 5 (.dzip true (.var 2) (.var 3))) ss_lk_spread_row_1
def fn_lk_spread_row : Fn := ⟨5, 10, ss_lk_spread_row_0⟩
def df_lk_spread_row : Df := ⟨"_law_spread_row", ["kinds", "parts", "names", "choice", "row"], ["kinds", "parts", "names", "choice", "row", "chosen", "found", "literal", "name", "part"], top 16, fn_lk_spread_row, "_law_spread_row", "_law_spread_row", none⟩
def ss_lk_spread_5b_0b_1 : Ss := .cons (.ite (.cmp .isn (.var 11) (.k .non)) (.cons (.setI (.var 8) (.var 11) (.k (.bl true))) .nil) .nil) .nil
def ss_lk_spread_5b_0b_0 : Ss := .cons (.set 11 (.call "_law_spread_row" (.cons (.var 1) (.cons (.var 4) (.cons (.var 7) (.cons (.var 9) (.cons (.var 10) .nil))))))) ss_lk_spread_5b_0b_1
def ss_lk_spread_5b_0 : Ss := .cons (.for (.one 10) (.exp (.var 2)) ss_lk_spread_5b_0b_0) .nil
def ss_lk_spread_6 : Ss := .cons (.rt (.tup (.cons (.bi .tuple (.cons (.var 3) .nil)) (.cons (.bi .tuple (.cons (.bi .sortK (.cons (.var 8) .nil)) .nil)) .nil)))) .nil
def ss_lk_spread_5 : Ss := .cons (.for (.one 9) (.exp (.call "_law_choices" (.cons (.bi .len (.cons (.var 7) .nil)) .nil))) ss_lk_spread_5b_0) ss_lk_spread_6
def ss_lk_spread_4 : Ss := .cons (.set 8 .dct) ss_lk_spread_5
def ss_lk_spread_3 : Ss := .cons (.set 7 (.call "_law_ahead" (.cons (.var 1) (.cons (.bin .add (.bi .len (.cons (.var 1) .nil)) (.k (.int 1))) (.cons (.k (.str "all")) .nil))))) ss_lk_spread_4
def ss_lk_spread_2 : Ss := .cons (.set 4 (.bi .dictP (.cons (.comp [5, 6] (.many [5, 6]) (.enum (.var 3)) (.tup (.cons (.var 6) (.cons (.var 5) .nil)))) .nil))) ss_lk_spread_3
def ss_lk_spread_1 : Ss := .cons (.set 3 (.call "_law_parts" (.cons (.var 1) (.cons (.k (.str "some")) .nil)))) ss_lk_spread_2
def ss_lk_spread_0 : Ss := .cons (.setT [1, 2] (.var 0)) ss_lk_spread_1
def fn_lk_spread : Fn := ⟨1, 12, ss_lk_spread_0⟩
def df_lk_spread : Df := ⟨"_law_spread", ["claim"], ["claim", "kinds", "rows", "told", "parts", "k", "part", "names", "found", "choice", "row", "one"], top 17, fn_lk_spread, "_law_spread", "_law_spread", none⟩
def ss_lk_formed_2b_0 : Ss := .cons (.ite (.or (.isi .bool (.var 1)) (.cmp .«in» (.k (.bl false)) (.comp [3] (.one 3) (.exp (.var 2)) (.isi .bool (.var 3))))) (.cons (.rt (.k (.bl false))) .nil) .nil) .nil
def ss_lk_formed_3b_0 : Ss := .cons (.ite (.or (.not (.isi .tuple (.var 4))) (.cmp .«in» (.k (.bl true)) (.comp [3] (.one 3) (.exp (.var 4)) (.isi .bool (.var 3))))) (.cons (.rt (.k (.bl false))) .nil) .nil) .nil
def ss_lk_formed_4 : Ss := .cons (.rt (.k (.bl true))) .nil
def ss_lk_formed_3 : Ss := .cons (.for (.one 4) (.exp (.ix (.var 0) (.k (.int 1)))) ss_lk_formed_3b_0) ss_lk_formed_4
def ss_lk_formed_2 : Ss := .cons (.for (.many [1, 2]) (.exp (.ix (.var 0) (.k (.int 0)))) ss_lk_formed_2b_0) ss_lk_formed_3
def ss_lk_formed_1 : Ss := .cons (.ite (.or (.not (.isi .tuple (.ix (.var 0) (.k (.int 0))))) (.not (.isi .tuple (.ix (.var 0) (.k (.int 1)))))) (.cons (.rt (.k (.bl false))) .nil) .nil) ss_lk_formed_2
def ss_lk_formed_0 : Ss := .cons (.ite (.or (.not (.isi .tuple (.var 0))) (.cmp .ne (.bi .len (.cons (.var 0) .nil)) (.k (.int 2)))) (.cons (.rt (.k (.bl false))) .nil) .nil) ss_lk_formed_1
def fn_lk_formed : Fn := ⟨1, 5, ss_lk_formed_0⟩
def df_lk_formed : Df := ⟨"_law_formed", ["told"], ["told", "name", "choice", "one", "row"], top 18, fn_lk_formed, "_law_formed", "_law_formed", none⟩
def df_lk_many_rows : Df := ⟨"_law_many_rows", ["claim", "one"], ["claim", "one", "kinds", "rows", "turned_rows", "row", "literal"], top 19, fn_lk_many_rows, "_law_many_rows", "_law_many_rows", none⟩
def ss_law_0b_3b_1 : Ss := .cons (.ite (.or (.not (.call "_law_formed" (.cons (.var 5) .nil))) (.cmp .ne (.var 5) (.var 3))) (.cons (.rt (.k (.bl false))) .nil) .nil) .nil
def ss_law_0b_3b_0 : Ss := .cons (.set 5 (.call "spread" (.cons (.var 2) .nil))) ss_law_0b_3b_1
def ss_law_0b_3 : Ss := .cons (.for (.one 4) (.rng1 (.k (.int 2))) ss_law_0b_3b_0) .nil
def ss_law_0b_2 : Ss := .cons (.set 3 (.call "_law_spread" (.cons (.var 2) .nil))) ss_law_0b_3
def ss_law_0b_1 : Ss := .cons (.set 2 (.call "_law_many_rows" (.cons (.var 2) (.cons (.ix (.call "_law_digits" (.cons (.call "_law_at" (.cons (.var 0) (.cons (.bin .add (.k (.int 3)) (.var 1)) .nil))) (.cons (.k (.int 32)) .nil))) (.k (.int 31))) .nil)))) ss_law_0b_2
def ss_law_0b_0 : Ss := .cons (.set 2 (.call "_law_claim" (.cons (.slL (.var 0) (.bin .mul (.k (.int 5)) (.var 1))) (.cons (.ix (.lst (.cons (.k (.int 8)) (.cons (.k (.int 6)) .nil))) (.var 1)) .nil)))) ss_law_0b_1
def ss_law_1 : Ss := .cons (.rt (.and (.cmp .eq (.call "spread" (.cons (.tup (.cons (.tup .nil) (.cons (.tup .nil) .nil))) .nil)) (.tup (.cons (.tup .nil) (.cons (.tup .nil) .nil)))) (.cmp .eq (.call "spread" (.cons (.tup (.cons (.tup (.cons (.k (.str "all")) .nil)) (.cons (.tup (.cons (.tup (.cons (.k (.int 1)) .nil)) (.cons (.tup .nil) .nil))) .nil))) .nil)) (.tup (.cons (.tup .nil) (.cons (.tup (.cons (.tup .nil) .nil)) .nil)))))) .nil
def ss_law_0 : Ss := .cons (.for (.one 1) (.rng1 (.k (.int 2))) ss_law_0b_0) ss_law_1
def fn_law : Fn := ⟨1, 6, ss_law_0⟩
def df_law : Df := ⟨"law", ["script"], ["script", "k", "claim", "due", "turn", "told"], top 20, fn_law, "law", "law", none⟩
def dfs : List Df := [df_choices, df_ahead_of, df_parts_of, df_spread_row, df_spread, df_lk_mix, df_lk_digits, df_lk_at, df_lk_kinds, df_lk_row, df_lk_claim, df_lk_choices, df_lk_ahead, df_lk_parts, df_lk_spread_row, df_lk_spread, df_lk_formed, df_lk_many_rows, df_law]
def cls_ : List Cinfo := []
def xn_ : List Str := []
def cons_ : List He.Fa := []
def ex_ (K : PySem.W.Frag) : Bool := true
def con_ : Str → D → Bool := fun _ _ => false
theorem con_ok (K : PySem.W.Frag) (mg : Str → Option Value) (h : Heap) (KX : K.In h) (G : h.Ns PySem.mainGlobals mg) (x : Str) (d : D) (e : con_ x d = true) (hf : ∀ f ∈ cons_, f.ok K = true) (hx : ex_ K = true) : ∃ v u, mg x = some u ∧ L2.RelV v u ∧ ∀ H as, Rep K H as v d := by cases e
theorem xn_ok (K : PySem.W.Frag) (mg : Str → Option Value) (h : Heap) (KX : K.In h) (G : h.Ns PySem.mainGlobals mg) (hf : ∀ f ∈ cons_, f.ok K = true) (hx : ex_ K = true) : XFa K mg xn_ := xfa_nil
theorem ok : okC dfs cls_ con_ xn_ = true := by decide +kernel
end Af
namespace Af
open PySem
abbrev tb : Str → Option Fn := tabC dfs cls_
theorem dgc : Dgc tb := ⟨⟨⟨by rfl, by rfl, by rfl⟩, by rfl⟩, by rfl, by rfl⟩
theorem spr : Spr tb := ⟨by rfl, by rfl, by rfl, by rfl, by rfl⟩
theorem tla : tb "_law_ahead" = some fn_lk_ahead := by rfl
theorem tlP : tb "_law_parts" = some fn_lk_parts := by rfl
theorem tlc : tb "_law_choices" = some fn_lk_plays := by rfl
theorem tlm : tb "_law_many_rows" = some fn_lk_many_rows := by rfl
theorem tlS : tb "_law_spread" = some fn_lk_spread := by rfl
theorem tlR : tb "_law_spread_row" = some fn_lk_spread_row := by rfl
theorem tlF : tb "_law_formed" = some fn_lk_formed := by rfl
theorem tlw : tb "law" = some fn_law := by rfl
section
variable {w n : Nat} {m m' : Mu} {kb : List Bool} {rss : List (List Int)}
def nlk (kb : List Bool) (k : Nat) : List Nat := (List.range k).filter fun i => kAt kb i == false
theorem nlk_len {k : Nat} (h : k ≤ kb.length) : (nlk kb k).length = ahN kb k := by
  have := ah_kx (kb := kb) (sw := false) h
  rw [kx_false] at this
  exact this
theorem nlk_succ {k : Nat} : nlk kb (k + 1) = nlk kb k ++ if kAt kb k then [] else [k] := by
  unfold nlk
  rw [List.range_succ, List.filter_append, List.filter_cons, List.filter_nil]
  cases kAt kb k <;> rfl
theorem nlk_at : ∀ {k : Nat}, k ≤ kb.length → ∀ i < k, kAt kb i = false → (nlk kb k)[ahN kb i]? = some i
  | 0, _, i, h, _ => by omega
  | k + 1, hk, i, h, c => by
    rw [nlk_succ]
    by_cases e : i = k
    · subst e
      rw [c, if_neg (by decide), List.getElem?_append_right (by rw [nlk_len (by omega)]; exact Nat.le_refl _), nlk_len (by omega), Nat.sub_self]
      rfl
    · have ih := nlk_at (k := k) (by omega) i (by omega) c
      rw [List.getElem?_append_left (List.getElem?_eq_some_iff.mp ih).1]
      exact ih
theorem nlk_nodup {k : Nat} : (nlk kb k).Nodup := List.nodup_range.filter _
theorem nlk_mem {k i : Nat} : i ∈ nlk kb k ↔ i < k ∧ kAt kb i = false := by
  unfold nlk
  rw [List.mem_filter, List.mem_range]
  simp
abbrev nmI (i : Nat) : Int := ((i + 1 : Nat) : Int)
def chI (L : List Nat) (a : List Bool) : List (Int × D) := List.zipWith (fun i b => (nmI i, D.bl b)) L a
theorem zip_ch : ∀ (L : List Nat) (a : List Bool), pairsI (zipL (L.map fun i => D.int (nmI i)) (a.map D.bl)) = some (chI L a)
  | [], a => rfl
  | i :: L, [] => rfl
  | i :: L, b :: a => by
    show (pairsI (zipL (L.map fun i => D.int (nmI i)) (a.map D.bl))).map ((nmI i, D.bl b) :: ·) = _
    rw [zip_ch L a]
    rfl
theorem merge_nd : ∀ (kvs acc : List (Int × D)), ((acc ++ kvs).map (·.1)).Nodup → mergeI acc kvs = acc ++ kvs
  | [], acc, _ => by rw [List.append_nil]; rfl
  | p :: kvs, acc, h => by
    have hp : putI acc p.1 p.2 = acc ++ [p] := by
      unfold putI
      rw [if_neg]
      rw [List.any_eq_true]
      rintro ⟨q, q1, q2⟩
      have q2 := of_decide_eq_true q2
      rw [List.map_append, List.map_cons, List.nodup_append] at h
      exact h.2.2 q.1 (List.mem_map_of_mem q1) p.1 List.mem_cons_self q2
    show mergeI (putI acc p.1 p.2) kvs = _
    rw [hp, merge_nd kvs (acc ++ [p]) (by rw [List.append_assoc]; exact h), List.append_assoc]
    rfl
theorem ch_keys : ∀ {L : List Nat} {a : List Bool} {i : Int}, i ∈ (chI L a).map (·.1) → ∃ j ∈ L, i = nmI j
  | [], _, i, h => by cases h
  | _ :: _, [], i, h => by cases h
  | j :: L, b :: a, i, h => by
    rcases List.mem_cons.mp (show i ∈ nmI j :: (chI L a).map (·.1) from h) with h | h
    · exact ⟨j, List.mem_cons_self, h⟩
    · obtain ⟨q, q1, q2⟩ := ch_keys h
      exact ⟨q, List.mem_cons_of_mem _ q1, q2⟩
theorem ch_nd : ∀ {L : List Nat} {a : List Bool}, L.Nodup → ((chI L a).map (·.1)).Nodup
  | [], _, _ => .nil
  | _ :: _, [], _ => .nil
  | j :: L, b :: a, h => by
    obtain ⟨h1, h2⟩ := List.nodup_cons.mp h
    refine List.nodup_cons.mpr ⟨fun z => ?_, ch_nd (L := L) (a := a) h2⟩
    obtain ⟨q, q1, q2⟩ := ch_keys z
    have : j = q := by
      have q2 : nmI j = nmI q := q2
      unfold nmI at q2
      omega
    exact h1 (this ▸ q1)
theorem ch_look : ∀ {L : List Nat} {a : List Bool} {j i : Nat}, L.Nodup → L[j]? = some i → j < a.length → lookI (chI L a) (nmI i) = some (.bl (a.getD j false))
  | [], _, j, i, _, h, _ => by simp at h
  | _ :: _, [], j, i, _, _, h => by simp at h
  | q :: L, b :: a, j, i, hn, h, hl => by
    obtain ⟨h1, h2⟩ := List.nodup_cons.mp hn
    unfold lookI
    show Option.map _ (List.find? _ ((nmI q, D.bl b) :: chI L a)) = _
    rw [List.find?_cons]
    cases j with
    | zero =>
      cases h
      rw [decide_eq_true rfl]
      rfl
    | succ j =>
      have hi : i ∈ L := List.mem_of_getElem? (by simpa using h)
      have ne : nmI q ≠ nmI i := fun z => by
        have : q = i := by unfold nmI at z; omega
        exact h1 (this ▸ hi)
      rw [decide_eq_false ne]
      have ih := ch_look (L := L) (a := a) (j := j) h2 (by simpa using h) (by simpa using hl)
      unfold lookI at ih
      rw [show (a.getD j false) = ((b :: a).getD (j + 1) false) by simp [List.getD_eq_getElem?_getD]] at ih
      exact ih
theorem ch_none {L : List Nat} {a : List Bool} {i : Nat} (h : i ∉ L) : lookI (chI L a) (nmI i) = none := by
  unfold lookI
  rw [List.find?_eq_none.mpr fun p hp z => ?_]
  · rfl
  · have z := of_decide_eq_true z
    obtain ⟨q, q1, q2⟩ := ch_keys (i := p.1) (List.mem_map_of_mem hp)
    have q3 : nmI i = nmI q := z.symm.trans q2
    have : i = q := by unfold nmI at q3; omega
    exact h (this ▸ q1)
theorem wp_dzipI {a : Nat} {xs ys : List D} {kvs : List (Int × D)} {Q : D → Mu → Prop} (h : m[a]? = some (.lst xs)) (hp : pairsI (zipL xs ys) = some kvs) : wp (dZip true (.ref a) (.tup ys)) m Q ↔ wp (alc (.mp (mergeI [] kvs))) m Q := by
  have e0 : dZip true (.ref a) (.tup ys) m = alc (.mp (mergeI [] kvs)) m := by
    show (match lstAt m a with
      | some xs => if true = true then (match pairsI (zipL xs ys) with
          | some kvs => alc (.mp (mergeI [] kvs)) m
          | none => .bad) else (match pairsT (zipL xs ys) with
          | some kvs => if (kvs.map fun p : D × D => kd p.1).Nodup then alc (.dct false kvs) m else .bad
          | none => .bad)
      | none => .bad) = _
    rw [lstAt_l h]
    dsimp only
    rw [if_pos rfl, hp]
  rw [wp_fun e0]
  rfl
theorem lk_spread_row_ok (hk : kb.length ≤ 8) {rp rn : Nat} {kvs : List (D × D)} {row : List Int} {a : List Bool} (hp : m[rp]? = some (.dct false kvs)) (hd : ∀ p ∈ partsL kb, dLook kvs (kP p) = some (.int (numP kb p - 1))) (hn : m[rn]? = some (.lst ((nlk kb kb.length).map fun i => D.int (nmI i)))) (hrow : RowL kb.length row) (hal : a.length = ahN kb kb.length) : wp (run tb w (n + 2) "_law_spread_row" [.tup (kb.map kD), .ref rp, .ref rn, bsD a, lsD row]) m fun v m' => v = joinD (spR kb a row) ∧ Ge m m' := by
  have big : (2000 : Nat) < sizeLine := by decide
  refine wp_run tlR rfl ?_
  show wpF (exes _ _ fn_lk_spread_row.body [some (.tup (kb.map kD)), some (.ref rp), some (.ref rn), some (bsD a), some (lsD row), none, none, none, none, none]) m _
  simp only [fn_lk_spread_row, ss_lk_spread_row_0, wp_bd, wp_ret, wp_nope, wp_chk, wp_some, wp_ite, wp_tru, wpF_bs, wpF_nx, wpF_rt, wpF_bk, wpF_ct, wpF_ite, thenF_nx, thenF_rt, thenF_bk, thenF_ct, wpF_nil, wpF_cons, endF_nx, endF_rt, exe, ev, evs, evI, varM, List.getElem?_cons_zero, List.getElem?_cons_succ, List.set_cons_zero, List.set_cons_succ, Bool.false_eq_true, if_true, if_false, ite_true, ite_false, reduceIte, Option.some.injEq, exists_eq_left', exists_eq_left, wp_ixR, ixW_l, ixW_f, wp_ixT, wp_lenR, lenW_l, lenW_f, wp_lenT, wp_tupR, lsW_l, lsW_f, wp_tupT, wp_listT, wp_cmp, cmp_lt, cmp_le, cmp_gt, cmp_ge, cmp_eq, cmp_ne, eqD_int, eqD_bl, cmp_is, cmp_isn, dIs_bl, dIs_tn, dIs_nn, opt_map, decide_eq_true_eq, wp_mod, wp_fdiv, wp_pow, wp_add, wp_sub, wp_mul, wp_mulTI, wp_addT, wp_neg, wp_slT, wp_slR, slW, wp_isLst, lW_l, wp_app, wp_popAt, wp_setR, setW_l, partO, Bool.not_true, Bool.not_false, wp_minI, wp_maxI, wp_intI, wp_intB, wp_absI, wp_srcT, wp_r2, wp_isi, asg_one, asg_two, wp_srcST, isTy_bb, wipe_nil, wipe_cons, at0, at1, ix0, ix1]
  rw [wp_dzipI hn (zip_ch _ _), merge_nd (chI (nlk kb kb.length) a) [] (by rw [List.nil_append]; exact ch_nd nlk_nodup), List.nil_append]
  refine wp_new fun rc m1 g1 e1 a1 b1 c1 => ?_
  simp only [ss_lk_spread_row_1, wp_bd, wp_ret, wp_nope, wp_chk, wp_some, wp_ite, wp_tru, wpF_bs, wpF_nx, wpF_rt, wpF_bk, wpF_ct, wpF_ite, thenF_nx, thenF_rt, thenF_bk, thenF_ct, wpF_nil, wpF_cons, endF_nx, endF_rt, exe, ev, evs, evI, varM, List.getElem?_cons_zero, List.getElem?_cons_succ, List.set_cons_zero, List.set_cons_succ, Bool.false_eq_true, if_true, if_false, ite_true, ite_false, reduceIte, Option.some.injEq, exists_eq_left', exists_eq_left, wp_ixR, ixW_l, ixW_f, wp_ixT, wp_lenR, lenW_l, lenW_f, wp_lenT, wp_tupR, lsW_l, lsW_f, wp_tupT, wp_listT, wp_cmp, cmp_lt, cmp_le, cmp_gt, cmp_ge, cmp_eq, cmp_ne, eqD_int, eqD_bl, cmp_is, cmp_isn, dIs_bl, dIs_tn, dIs_nn, opt_map, decide_eq_true_eq, wp_mod, wp_fdiv, wp_pow, wp_add, wp_sub, wp_mul, wp_mulTI, wp_addT, wp_neg, wp_slT, wp_slR, slW, wp_isLst, lW_l, wp_app, wp_popAt, wp_setR, setW_l, partO, Bool.not_true, Bool.not_false, wp_minI, wp_maxI, wp_intI, wp_intB, wp_absI, wp_srcT, wp_r2, wp_isi, asg_one, asg_two, wp_srcST, isTy_bb, wipe_nil, wipe_cons, at0, at1, ix0, ix1, List.length_nil]
  refine ⟨by omega, wp_new fun f m2 g2 e2 a2 b2 c2 => ?_⟩
  simp only [ss_lk_spread_row_2, wp_bd, wp_ret, wp_nope, wp_chk, wp_some, wp_ite, wp_tru, wpF_bs, wpF_nx, wpF_rt, wpF_bk, wpF_ct, wpF_ite, thenF_nx, thenF_rt, thenF_bk, thenF_ct, wpF_nil, wpF_cons, endF_nx, endF_rt, exe, ev, evs, evI, varM, List.getElem?_cons_zero, List.getElem?_cons_succ, List.set_cons_zero, List.set_cons_succ, Bool.false_eq_true, if_true, if_false, ite_true, ite_false, reduceIte, Option.some.injEq, exists_eq_left', exists_eq_left, wp_ixR, ixW_l, ixW_f, wp_ixT, wp_lenR, lenW_l, lenW_f, wp_lenT, wp_tupR, lsW_l, lsW_f, wp_tupT, wp_listT, wp_cmp, cmp_lt, cmp_le, cmp_gt, cmp_ge, cmp_eq, cmp_ne, eqD_int, eqD_bl, cmp_is, cmp_isn, dIs_bl, dIs_tn, dIs_nn, opt_map, decide_eq_true_eq, wp_mod, wp_fdiv, wp_pow, wp_add, wp_sub, wp_mul, wp_mulTI, wp_addT, wp_neg, wp_slT, wp_slR, slW, wp_isLst, lW_l, wp_app, wp_popAt, wp_setR, setW_l, partO, Bool.not_true, Bool.not_false, wp_minI, wp_maxI, wp_intI, wp_intB, wp_absI, wp_srcT, wp_r2, wp_isi, asg_one, asg_two, wp_srcST, isTy_bb, wipe_nil, wipe_cons, at0, at1, ix0, ix1]
  have rl : row.length ≤ kb.length := by have := hrow.len; omega
  have G2 := g1.trans g2
  have frp : rp ≠ f := by have := lt_of_get (g1.get hp); omega
  have frc : rc ≠ f := by have := lt_of_get e1; omega
  refine wpF_loop (a := []) (J := fun xs ρ m' => ∃ (done rest acc : List Int) (b7 b8 b9 : Option D), row = done ++ rest ∧ xs = rest.map D.int ∧ ρ = [some (.tup (kb.map kD)), some (.ref rp), some (.ref rn), some (bsD a), some (lsD row), some (.ref rc), some (.ref f), b7, b8, b9] ∧ m'[f]? = some (.lst (acc.map D.int)) ∧ acc.length ≤ done.length ∧ spR kb a row = (spR kb a rest).map (acc ++ ·) ∧ Gr f m2 m') (fun _ _ _ _ => trivial) (fun x xs ρ m' hJ => ?_) (fun ρ m' hJ => ?_) _ _ _
    ⟨[], row, [], _, _, _, rfl, rfl, rfl, e2, Nat.le_refl _, by cases spR kb a row <;> rfl, .refl⟩
  · obtain ⟨done, rest, acc, b7, b8, b9, er, ex, rfl, ef, hl, hs, g⟩ := hJ
    cases rest with
    | nil => cases ex
    | cons l rest =>
      cases ex
      have lr : l ∈ row := by rw [er]; simp
      have hln : done.length + (rest.length + 1) = row.length := by rw [er, List.length_append, List.length_cons]
      obtain ⟨l1, l2⟩ := hrow.2 l lr
      have l2 : l.natAbs ≤ kb.length := by omega
      have enm : ((l.natAbs : Nat) : Int) = nmI (l.natAbs - 1) := by unfold nmI; congr 1; omega
      have ec := g.get frc (g2.get e1)
      have ep := g.get frp (G2.get hp)
      simp only [ss_lk_spread_row_2b_0, wp_bd, wp_ret, wp_nope, wp_chk, wp_some, wp_ite, wp_tru, wpF_bs, wpF_nx, wpF_rt, wpF_bk, wpF_ct, wpF_ite, thenF_nx, thenF_rt, thenF_bk, thenF_ct, wpF_nil, wpF_cons, endF_nx, endF_rt, exe, ev, evs, evI, varM, List.getElem?_cons_zero, List.getElem?_cons_succ, List.set_cons_zero, List.set_cons_succ, Bool.false_eq_true, if_true, if_false, ite_true, ite_false, reduceIte, Option.some.injEq, exists_eq_left', exists_eq_left, wp_ixR, ixW_l, ixW_f, wp_ixT, wp_lenR, lenW_l, lenW_f, wp_lenT, wp_tupR, lsW_l, lsW_f, wp_tupT, wp_listT, wp_cmp, cmp_lt, cmp_le, cmp_gt, cmp_ge, cmp_eq, cmp_ne, eqD_int, eqD_bl, cmp_is, cmp_isn, dIs_bl, dIs_tn, dIs_nn, opt_map, decide_eq_true_eq, wp_mod, wp_fdiv, wp_pow, wp_add, wp_sub, wp_mul, wp_mulTI, wp_addT, wp_neg, wp_slT, wp_slR, slW, wp_isLst, lW_l, wp_app, wp_popAt, wp_setR, setW_l, partO, Bool.not_true, Bool.not_false, wp_minI, wp_maxI, wp_intI, wp_intB, wp_absI, wp_srcT, wp_r2, wp_isi, asg_one, asg_two, wp_srcST, isTy_bb, wipe_nil, wipe_cons, at0, at1, ix0, ix1]
      simp only [ss_lk_spread_row_2b_1, wp_bd, wp_ret, wp_nope, wp_chk, wp_some, wp_ite, wp_tru, wpF_bs, wpF_nx, wpF_rt, wpF_bk, wpF_ct, wpF_ite, thenF_nx, thenF_rt, thenF_bk, thenF_ct, wpF_nil, wpF_cons, endF_nx, endF_rt, exe, ev, evs, evI, varM, List.getElem?_cons_zero, List.getElem?_cons_succ, List.set_cons_zero, List.set_cons_succ, Bool.false_eq_true, if_true, if_false, ite_true, ite_false, reduceIte, Option.some.injEq, exists_eq_left', exists_eq_left, wp_ixR, ixW_l, ixW_f, wp_ixT, wp_lenR, lenW_l, lenW_f, wp_lenT, wp_tupR, lsW_l, lsW_f, wp_tupT, wp_listT, wp_cmp, cmp_lt, cmp_le, cmp_gt, cmp_ge, cmp_eq, cmp_ne, eqD_int, eqD_bl, cmp_is, cmp_isn, dIs_bl, dIs_tn, dIs_nn, opt_map, decide_eq_true_eq, wp_mod, wp_fdiv, wp_pow, wp_add, wp_sub, wp_mul, wp_mulTI, wp_addT, wp_neg, wp_slT, wp_slR, slW, wp_isLst, lW_l, wp_app, wp_popAt, wp_setR, setW_l, partO, Bool.not_true, Bool.not_false, wp_minI, wp_maxI, wp_intI, wp_intB, wp_absI, wp_srcT, wp_r2, wp_isi, asg_one, asg_two, wp_srcST, isTy_bb, wipe_nil, wipe_cons, at0, at1, ix0, ix1]
      rw [enm, wp_hasK ec]
      rw [spR_cons] at hs
      cases c : kAt kb (l.natAbs - 1) with
      | true =>
        rw [ch_none (fun z => by rw [(nlk_mem.mp z).2] at c; cases c)]
        rw [c, if_pos rfl] at hs
        simp only [wp_bd, wp_ret, wp_nope, wp_chk, wp_some, wp_ite, wp_tru, wpF_bs, wpF_nx, wpF_rt, wpF_bk, wpF_ct, wpF_ite, thenF_nx, thenF_rt, thenF_bk, thenF_ct, wpF_nil, wpF_cons, endF_nx, endF_rt, exe, ev, evs, evI, varM, List.getElem?_cons_zero, List.getElem?_cons_succ, List.set_cons_zero, List.set_cons_succ, Bool.false_eq_true, if_true, if_false, ite_true, ite_false, reduceIte, Option.some.injEq, exists_eq_left', exists_eq_left, wp_ixR, ixW_l, ixW_f, wp_ixT, wp_lenR, lenW_l, lenW_f, wp_lenT, wp_tupR, lsW_l, lsW_f, wp_tupT, wp_listT, wp_cmp, cmp_lt, cmp_le, cmp_gt, cmp_ge, cmp_eq, cmp_ne, eqD_int, eqD_bl, cmp_is, cmp_isn, dIs_bl, dIs_tn, dIs_nn, opt_map, decide_eq_true_eq, wp_mod, wp_fdiv, wp_pow, wp_add, wp_sub, wp_mul, wp_mulTI, wp_addT, wp_neg, wp_slT, wp_slR, slW, wp_isLst, lW_l, wp_app, wp_popAt, wp_setR, setW_l, partO, Bool.not_true, Bool.not_false, wp_minI, wp_maxI, wp_intI, wp_intB, wp_absI, wp_srcT, wp_r2, wp_isi, asg_one, asg_two, wp_srcST, isTy_bb, wipe_nil, wipe_cons, at0, at1, ix0, ix1]
        rw [if_neg (by decide)]
        have enm2 : nmI (l.natAbs - 1) = ((l.natAbs - 1 : Nat) : Int) + 1 := by unfold nmI; omega
        rw [enm2]
        refine wp_mono (lk_ahead_ok (kb := kb) (s := false) (n := n) tla (k := l.natAbs - 1) (by omega) (by omega)) fun v m3 ⟨la, e, e3, g3, a3⟩ => ?_
        subst e
        have elen : ((List.range (l.natAbs - 1)).filter fun i => kAt kb i == false).length = ahN kb (l.natAbs - 1) := nlk_len (by omega)
        simp only [wp_bd, wp_ret, wp_nope, wp_chk, wp_some, wp_ite, wp_tru, wpF_bs, wpF_nx, wpF_rt, wpF_bk, wpF_ct, wpF_ite, thenF_nx, thenF_rt, thenF_bk, thenF_ct, wpF_nil, wpF_cons, endF_nx, endF_rt, exe, ev, evs, evI, varM, List.getElem?_cons_zero, List.getElem?_cons_succ, List.set_cons_zero, List.set_cons_succ, Bool.false_eq_true, if_true, if_false, ite_true, ite_false, reduceIte, Option.some.injEq, exists_eq_left', exists_eq_left, wp_ixR, ixW_l, ixW_f, wp_ixT, wp_lenR, lenW_l, lenW_f, wp_lenT, wp_tupR, lsW_l, lsW_f, wp_tupT, wp_listT, wp_cmp, cmp_lt, cmp_le, cmp_gt, cmp_ge, cmp_eq, cmp_ne, eqD_int, eqD_bl, cmp_is, cmp_isn, dIs_bl, dIs_tn, dIs_nn, opt_map, decide_eq_true_eq, wp_mod, wp_fdiv, wp_pow, wp_add, wp_sub, wp_mul, wp_mulTI, wp_addT, wp_neg, wp_slT, wp_slR, slW, wp_isLst, lW_l, wp_app, wp_popAt, wp_setR, setW_l, partO, Bool.not_true, Bool.not_false, wp_minI, wp_maxI, wp_intI, wp_intB, wp_absI, wp_srcT, wp_r2, wp_isi, asg_one, asg_two, wp_srcST, isTy_bb, wipe_nil, wipe_cons, at0, at1, ix0, ix1, e3, List.length_map, elen, List.length_cons, List.length_nil]
        rw [cut_U (by omega), Int.toNat_natCast, ← List.map_take]
        have ef3 := g3.get ef
        simp only [ef3, lW_l]
        refine ⟨by omega, by omega, wp_new fun l2 m4 g4 e4 a4 b4 c4 => ?_⟩
        simp only [wp_bd, wp_ret, wp_nope, wp_chk, wp_some, wp_ite, wp_tru, wpF_bs, wpF_nx, wpF_rt, wpF_bk, wpF_ct, wpF_ite, thenF_nx, thenF_rt, thenF_bk, thenF_ct, wpF_nil, wpF_cons, endF_nx, endF_rt, exe, ev, evs, evI, varM, List.getElem?_cons_zero, List.getElem?_cons_succ, List.set_cons_zero, List.set_cons_succ, Bool.false_eq_true, if_true, if_false, ite_true, ite_false, reduceIte, Option.some.injEq, exists_eq_left', exists_eq_left, wp_ixR, ixW_l, ixW_f, wp_ixT, wp_lenR, lenW_l, lenW_f, wp_lenT, wp_tupR, lsW_l, lsW_f, wp_tupT, wp_listT, wp_cmp, cmp_lt, cmp_le, cmp_gt, cmp_ge, cmp_eq, cmp_ne, eqD_int, eqD_bl, cmp_is, cmp_isn, dIs_bl, dIs_tn, dIs_nn, opt_map, decide_eq_true_eq, wp_mod, wp_fdiv, wp_pow, wp_add, wp_sub, wp_mul, wp_mulTI, wp_addT, wp_neg, wp_slT, wp_slR, slW, wp_isLst, lW_l, wp_app, wp_popAt, wp_setR, setW_l, partO, Bool.not_true, Bool.not_false, wp_minI, wp_maxI, wp_intI, wp_intB, wp_absI, wp_srcT, wp_r2, wp_isi, asg_one, asg_two, wp_srcST, isTy_bb, wipe_nil, wipe_cons, at0, at1, ix0, ix1, e4]
        have ey : L2.atI [D.int (-1), D.int 1] (if 0 < l then (1 : Int) else 0) = some (.int (if 0 < l then 1 else -1)) := by
          by_cases p : 0 < l
          · rw [if_pos p, if_pos p]; rfl
          · rw [if_neg p, if_neg p]; rfl
        refine ⟨_, ey, ?_⟩
        have hin := part_in (kb := kb) (a := a) (k := l.natAbs - 1) (by omega) c hal
        rw [show l.natAbs - 1 + 1 = l.natAbs by omega] at hin
        have hlk := hd _ hin
        have ekey : (D.tup [D.int (((l.natAbs - 1 : Nat) : Int) + 1), bsD (a.take (ahN kb (l.natAbs - 1)))]) = ptD (l.natAbs, a.take (ahN kb (l.natAbs - 1))) := by
          show D.tup _ = D.tup _
          congr 2
          congr 1
          omega
        have ep4 := g4.get (g3.get ep)
        have ef4 := g4.get ef3
        rw [ekey, wp_dget ep4 kd_pt hlk]
        generalize hnum : numP kb (l.natAbs, a.take (ahN kb (l.natAbs - 1))) = num at hs ⊢
        simp only [wp_bd, wp_ret, wp_nope, wp_chk, wp_some, wp_ite, wp_tru, wpF_bs, wpF_nx, wpF_rt, wpF_bk, wpF_ct, wpF_ite, thenF_nx, thenF_rt, thenF_bk, thenF_ct, wpF_nil, wpF_cons, endF_nx, endF_rt, exe, ev, evs, evI, varM, List.getElem?_cons_zero, List.getElem?_cons_succ, List.set_cons_zero, List.set_cons_succ, Bool.false_eq_true, if_true, if_false, ite_true, ite_false, reduceIte, Option.some.injEq, exists_eq_left', exists_eq_left, wp_ixR, ixW_l, ixW_f, wp_ixT, wp_lenR, lenW_l, lenW_f, wp_lenT, wp_tupR, lsW_l, lsW_f, wp_tupT, wp_listT, wp_cmp, cmp_lt, cmp_le, cmp_gt, cmp_ge, cmp_eq, cmp_ne, eqD_int, eqD_bl, cmp_is, cmp_isn, dIs_bl, dIs_tn, dIs_nn, opt_map, decide_eq_true_eq, wp_mod, wp_fdiv, wp_pow, wp_add, wp_sub, wp_mul, wp_mulTI, wp_addT, wp_neg, wp_slT, wp_slR, slW, wp_isLst, lW_l, wp_app, wp_popAt, wp_setR, setW_l, partO, Bool.not_true, Bool.not_false, wp_minI, wp_maxI, wp_intI, wp_intB, wp_absI, wp_srcT, wp_r2, wp_isi, asg_one, asg_two, wp_srcST, isTy_bb, wipe_nil, wipe_cons, at0, at1, ix0, ix1, ef4, List.length_map]
        have ev : (if 0 < l then (1 : Int) else -1) * (num - 1 + 1) = if 0 < l then num else -num := by
          by_cases p : 0 < l
          · rw [if_pos p, if_pos p]; omega
          · rw [if_neg p, if_neg p]; omega
        refine ⟨.inl (by split <;> decide), by omega, done ++ [l], rest, acc ++ [if 0 < l then num else -num], _, _, _, by rw [er]; simp, rfl, rfl, ?_, by rw [List.length_append, List.length_append]; simp; omega, ?_, (g.trans (g3.trans g4).gr).trans Gr.set⟩
        · rw [getSS ef4, ev, List.map_append]
          rfl
        · rw [hs]
          cases spR kb a rest <;> simp
      | false =>
        have hlt : ahN kb (l.natAbs - 1) < a.length := by
          have := ahN_succ (kb := kb) (k := l.natAbs - 1) (by omega)
          rw [c, if_neg (by decide)] at this
          have := ahN_mono (kb := kb) (show l.natAbs - 1 + 1 ≤ kb.length by omega)
          omega
        have hlk := ch_look (a := a) nlk_nodup (nlk_at (Nat.le_refl kb.length) (l.natAbs - 1) (by omega) c) hlt
        rw [hlk]
        rw [c, if_neg (by decide)] at hs
        simp only [wp_bd, wp_ret, wp_nope, wp_chk, wp_some, wp_ite, wp_tru, wpF_bs, wpF_nx, wpF_rt, wpF_bk, wpF_ct, wpF_ite, thenF_nx, thenF_rt, thenF_bk, thenF_ct, wpF_nil, wpF_cons, endF_nx, endF_rt, exe, ev, evs, evI, varM, List.getElem?_cons_zero, List.getElem?_cons_succ, List.set_cons_zero, List.set_cons_succ, Bool.false_eq_true, if_true, if_false, ite_true, ite_false, reduceIte, Option.some.injEq, exists_eq_left', exists_eq_left, wp_ixR, ixW_l, ixW_f, wp_ixT, wp_lenR, lenW_l, lenW_f, wp_lenT, wp_tupR, lsW_l, lsW_f, wp_tupT, wp_listT, wp_cmp, cmp_lt, cmp_le, cmp_gt, cmp_ge, cmp_eq, cmp_ne, eqD_int, eqD_bl, cmp_is, cmp_isn, dIs_bl, dIs_tn, dIs_nn, opt_map, decide_eq_true_eq, wp_mod, wp_fdiv, wp_pow, wp_add, wp_sub, wp_mul, wp_mulTI, wp_addT, wp_neg, wp_slT, wp_slR, slW, wp_isLst, lW_l, wp_app, wp_popAt, wp_setR, setW_l, partO, Bool.not_true, Bool.not_false, wp_minI, wp_maxI, wp_intI, wp_intB, wp_absI, wp_srcT, wp_r2, wp_isi, asg_one, asg_two, wp_srcST, isTy_bb, wipe_nil, wipe_cons, at0, at1, ix0, ix1]
        rw [wp_ixK ec hlk]
        rw [if_pos (by rfl)]
        simp only [wp_bd, wp_ret, wp_nope, wp_chk, wp_some, wp_ite, wp_tru, wpF_bs, wpF_nx, wpF_rt, wpF_bk, wpF_ct, wpF_ite, thenF_nx, thenF_rt, thenF_bk, thenF_ct, wpF_nil, wpF_cons, endF_nx, endF_rt, exe, ev, evs, evI, varM, List.getElem?_cons_zero, List.getElem?_cons_succ, List.set_cons_zero, List.set_cons_succ, Bool.false_eq_true, if_true, if_false, ite_true, ite_false, reduceIte, Option.some.injEq, exists_eq_left', exists_eq_left, wp_ixR, ixW_l, ixW_f, wp_ixT, wp_lenR, lenW_l, lenW_f, wp_lenT, wp_tupR, lsW_l, lsW_f, wp_tupT, wp_listT, wp_cmp, cmp_lt, cmp_le, cmp_gt, cmp_ge, cmp_eq, cmp_ne, eqD_int, eqD_bl, cmp_is, cmp_isn, dIs_bl, dIs_tn, dIs_nn, opt_map, decide_eq_true_eq, wp_mod, wp_fdiv, wp_pow, wp_add, wp_sub, wp_mul, wp_mulTI, wp_addT, wp_neg, wp_slT, wp_slR, slW, wp_isLst, lW_l, wp_app, wp_popAt, wp_setR, setW_l, partO, Bool.not_true, Bool.not_false, wp_minI, wp_maxI, wp_intI, wp_intB, wp_absI, wp_srcT, wp_r2, wp_isi, asg_one, asg_two, wp_srcST, isTy_bb, wipe_nil, wipe_cons, at0, at1, ix0, ix1]
        cases e : a.getD (ahN kb (l.natAbs - 1)) false == decide (0 < l) with
        | true =>
          rw [e, if_pos rfl] at hs
          simp only [wp_bd, wp_ret, wp_nope, wp_chk, wp_some, wp_ite, wp_tru, wpF_bs, wpF_nx, wpF_rt, wpF_bk, wpF_ct, wpF_ite, thenF_nx, thenF_rt, thenF_bk, thenF_ct, wpF_nil, wpF_cons, endF_nx, endF_rt, exe, ev, evs, evI, varM, List.getElem?_cons_zero, List.getElem?_cons_succ, List.set_cons_zero, List.set_cons_succ, Bool.false_eq_true, if_true, if_false, ite_true, ite_false, reduceIte, Option.some.injEq, exists_eq_left', exists_eq_left, wp_ixR, ixW_l, ixW_f, wp_ixT, wp_lenR, lenW_l, lenW_f, wp_lenT, wp_tupR, lsW_l, lsW_f, wp_tupT, wp_listT, wp_cmp, cmp_lt, cmp_le, cmp_gt, cmp_ge, cmp_eq, cmp_ne, eqD_int, eqD_bl, cmp_is, cmp_isn, dIs_bl, dIs_tn, dIs_nn, opt_map, decide_eq_true_eq, wp_mod, wp_fdiv, wp_pow, wp_add, wp_sub, wp_mul, wp_mulTI, wp_addT, wp_neg, wp_slT, wp_slR, slW, wp_isLst, lW_l, wp_app, wp_popAt, wp_setR, setW_l, partO, Bool.not_true, Bool.not_false, wp_minI, wp_maxI, wp_intI, wp_intB, wp_absI, wp_srcT, wp_r2, wp_isi, asg_one, asg_two, wp_srcST, isTy_bb, wipe_nil, wipe_cons, at0, at1, ix0, ix1]
          rw [hs]
          exact ⟨rfl, g1.trans (g.ge g2 a2)⟩
        | false =>
          rw [e, if_neg (by decide)] at hs
          simp only [wp_bd, wp_ret, wp_nope, wp_chk, wp_some, wp_ite, wp_tru, wpF_bs, wpF_nx, wpF_rt, wpF_bk, wpF_ct, wpF_ite, thenF_nx, thenF_rt, thenF_bk, thenF_ct, wpF_nil, wpF_cons, endF_nx, endF_rt, exe, ev, evs, evI, varM, List.getElem?_cons_zero, List.getElem?_cons_succ, List.set_cons_zero, List.set_cons_succ, Bool.false_eq_true, if_true, if_false, ite_true, ite_false, reduceIte, Option.some.injEq, exists_eq_left', exists_eq_left, wp_ixR, ixW_l, ixW_f, wp_ixT, wp_lenR, lenW_l, lenW_f, wp_lenT, wp_tupR, lsW_l, lsW_f, wp_tupT, wp_listT, wp_cmp, cmp_lt, cmp_le, cmp_gt, cmp_ge, cmp_eq, cmp_ne, eqD_int, eqD_bl, cmp_is, cmp_isn, dIs_bl, dIs_tn, dIs_nn, opt_map, decide_eq_true_eq, wp_mod, wp_fdiv, wp_pow, wp_add, wp_sub, wp_mul, wp_mulTI, wp_addT, wp_neg, wp_slT, wp_slR, slW, wp_isLst, lW_l, wp_app, wp_popAt, wp_setR, setW_l, partO, Bool.not_true, Bool.not_false, wp_minI, wp_maxI, wp_intI, wp_intB, wp_absI, wp_srcT, wp_r2, wp_isi, asg_one, asg_two, wp_srcST, isTy_bb, wipe_nil, wipe_cons, at0, at1, ix0, ix1]
          exact ⟨done ++ [l], rest, acc, _, _, _, by rw [er]; simp, rfl, rfl, ef, by rw [List.length_append]; omega, hs, g⟩
  · obtain ⟨done, rest, acc, b7, b8, b9, er, ex, rfl, ef, hl, hs, g⟩ := hJ
    have : rest = [] := by
      cases rest with
      | nil => rfl
      | cons _ _ => cases ex
    subst this
    simp only [ss_lk_spread_row_3, wp_bd, wp_ret, wp_nope, wp_chk, wp_some, wp_ite, wp_tru, wpF_bs, wpF_nx, wpF_rt, wpF_bk, wpF_ct, wpF_ite, thenF_nx, thenF_rt, thenF_bk, thenF_ct, wpF_nil, wpF_cons, endF_nx, endF_rt, exe, ev, evs, evI, varM, List.getElem?_cons_zero, List.getElem?_cons_succ, List.set_cons_zero, List.set_cons_succ, Bool.false_eq_true, if_true, if_false, ite_true, ite_false, reduceIte, Option.some.injEq, exists_eq_left', exists_eq_left, wp_ixR, ixW_l, ixW_f, wp_ixT, wp_lenR, lenW_l, lenW_f, wp_lenT, wp_tupR, lsW_l, lsW_f, wp_tupT, wp_listT, wp_cmp, cmp_lt, cmp_le, cmp_gt, cmp_ge, cmp_eq, cmp_ne, eqD_int, eqD_bl, cmp_is, cmp_isn, dIs_bl, dIs_tn, dIs_nn, opt_map, decide_eq_true_eq, wp_mod, wp_fdiv, wp_pow, wp_add, wp_sub, wp_mul, wp_mulTI, wp_addT, wp_neg, wp_slT, wp_slR, slW, wp_isLst, lW_l, wp_app, wp_popAt, wp_setR, setW_l, partO, Bool.not_true, Bool.not_false, wp_minI, wp_maxI, wp_intI, wp_intB, wp_absI, wp_srcT, wp_r2, wp_isi, asg_one, asg_two, wp_srcST, isTy_bb, wipe_nil, wipe_cons, at0, at1, ix0, ix1, ef]
    refine ⟨?_, g1.trans (g.ge g2 a2)⟩
    rw [hs]
    show _ = lsD (acc ++ [])
    rw [List.append_nil]
theorem enum_zip {α : Type} {f : α → D} : ∀ (l : List α) (j : Nat), enumL j (l.map f) = (l.zipIdx j).map fun q => D.tup [.int (q.2 : Nat), f q.1]
  | [], _ => rfl
  | x :: l, j => by
    rw [List.map_cons, enumL, List.zipIdx_cons, List.map_cons, enum_zip l (j + 1)]
def pnD (q : Prt × Nat) : D × D := (ptD q.1, D.int (q.2 : Nat))
theorem pairs_pn : ∀ l : List (Prt × Nat), pairsT (l.map fun q : Prt × Nat => D.tup [ptD q.1, .int (q.2 : Nat)]) = some (l.map pnD)
  | [] => rfl
  | q :: l => by
    show (match kd (ptD q.1) with
      | some _ => (pairsT (l.map fun q : Prt × Nat => D.tup [ptD q.1, .int (q.2 : Nat)])).map ((ptD q.1, D.int (q.2 : Nat)) :: ·)
      | none => none) = _
    rw [kd_pt, pairs_pn l]
    rfl
theorem pn_nd {l : List Prt} (h : l.Nodup) (j : Nat) : (((l.zipIdx j).map pnD).map fun q => kd q.1).Nodup := by
  have e : ((l.zipIdx j).map pnD).map (fun q => kd q.1) = l.map fun p => some (kP p) := by
    rw [List.map_map]
    conv => rhs; rw [← List.zipIdx_map_fst j l, List.map_map]
    exact List.map_congr_left fun q _ => kd_pt
  rw [e]
  exact List.Pairwise.map _ (fun a b hab z => hab (kP_inj (Option.some.inj z))) h
theorem pn_look : ∀ {l : List Prt} {j : Nat} {p : Prt}, l.Nodup → p ∈ l → dLook ((l.zipIdx j).map pnD) (kP p) = some (.int ((j + l.idxOf p : Nat) : Int))
  | [], _, _, _, h => by cases h
  | q :: l, j, p, hn, h => by
    obtain ⟨h1, h2⟩ := List.nodup_cons.mp hn
    unfold dLook
    rw [List.zipIdx_cons, List.map_cons, List.find?_cons]
    show Option.map _ (match (kd (ptD q) == some (kP p)) with
      | true => some (pnD (q, j))
      | false => List.find? _ _) = _
    by_cases e : q = p
    · subst e
      rw [show (kd (ptD q) == some (kP q)) = true by rw [kd_pt]; exact beq_self_eq_true _, List.idxOf_cons_self]
      rfl
    · rw [show (kd (ptD q) == some (kP p)) = false by
        rw [kd_pt]
        exact beq_eq_false_iff_ne.mpr fun z => e (kP_inj (Option.some.inj z))]
      have ih := pn_look (j := j + 1) h2 ((List.mem_cons.mp h).resolve_left (Ne.symm e))
      unfold dLook at ih
      show Option.map _ (List.find? _ _) = _
      rw [ih, List.idxOf_cons, show (q == p) = false from beq_eq_false_iff_ne.mpr e]
      show some (D.int _) = some (D.int _)
      congr 2
      show ((j + 1 + l.idxOf p : Nat) : Int) = ((j + (l.idxOf p + 1) : Nat) : Int)
      omega
theorem lk_spread_ok (hk : kb.length ≤ 8) (hr : ∀ ls ∈ rss, RowL kb.length ls) (hn : rss.length ≤ 200) : wp (run tb w (n + 3) "_law_spread" [clD (kb.map kD) rss]) m fun v m' => (∃ ks : List (List Int), v = .tup [.tup ((partsL kb).map ptD), .tup ((srtR ks).map lsD)] ∧ (∀ x, x ∈ ks ↔ ∃ a ∈ lev (ahN kb kb.length), ∃ row ∈ rss, spR kb a row = some x) ∧ ks.Nodup) ∧ Ge m m' := by
  have big : (100000 : Nat) < sizeLine := by decide
  refine wp_run tlS rfl ?_
  show wpF (exes _ _ fn_lk_spread.body [some (clD (kb.map kD) rss), none, none, none, none, none, none, none, none, none, none, none]) m _
  simp only [fn_lk_spread, ss_lk_spread_0, wp_bd, wp_ret, wp_nope, wp_chk, wp_some, wp_ite, wp_tru, wpF_bs, wpF_nx, wpF_rt, wpF_bk, wpF_ct, wpF_ite, thenF_nx, thenF_rt, thenF_bk, thenF_ct, wpF_nil, wpF_cons, endF_nx, endF_rt, exe, ev, evs, evI, varM, List.getElem?_cons_zero, List.getElem?_cons_succ, List.set_cons_zero, List.set_cons_succ, Bool.false_eq_true, if_true, if_false, ite_true, ite_false, reduceIte, Option.some.injEq, exists_eq_left', exists_eq_left, wp_ixR, ixW_l, ixW_f, wp_ixT, wp_lenR, lenW_l, lenW_f, wp_lenT, wp_tupR, lsW_l, lsW_f, wp_tupT, wp_listT, wp_cmp, cmp_lt, cmp_le, cmp_gt, cmp_ge, cmp_eq, cmp_ne, eqD_int, eqD_bl, cmp_is, cmp_isn, dIs_bl, dIs_tn, dIs_nn, opt_map, decide_eq_true_eq, wp_mod, wp_fdiv, wp_pow, wp_add, wp_sub, wp_mul, wp_mulTI, wp_addT, wp_neg, wp_slT, wp_slR, slW, wp_isLst, lW_l, wp_app, wp_popAt, wp_setR, setW_l, partO, Bool.not_true, Bool.not_false, wp_minI, wp_maxI, wp_intI, wp_intB, wp_absI, wp_srcT, wp_r2, wp_isi, asg_one, asg_two, wp_srcST, isTy_bb, wipe_nil, wipe_cons, at0, at1, ix0, ix1]
  rw [wp_asgT (ρ' := [some (clD (kb.map kD) rss), some (.tup (kb.map kD)), some (.tup (rss.map lsD)), none, none, none, none, none, none, none, none, none]) rfl]
  simp only [ss_lk_spread_1, wp_bd, wp_ret, wp_nope, wp_chk, wp_some, wp_ite, wp_tru, wpF_bs, wpF_nx, wpF_rt, wpF_bk, wpF_ct, wpF_ite, thenF_nx, thenF_rt, thenF_bk, thenF_ct, wpF_nil, wpF_cons, endF_nx, endF_rt, exe, ev, evs, evI, varM, List.getElem?_cons_zero, List.getElem?_cons_succ, List.set_cons_zero, List.set_cons_succ, Bool.false_eq_true, if_true, if_false, ite_true, ite_false, reduceIte, Option.some.injEq, exists_eq_left', exists_eq_left, wp_ixR, ixW_l, ixW_f, wp_ixT, wp_lenR, lenW_l, lenW_f, wp_lenT, wp_tupR, lsW_l, lsW_f, wp_tupT, wp_listT, wp_cmp, cmp_lt, cmp_le, cmp_gt, cmp_ge, cmp_eq, cmp_ne, eqD_int, eqD_bl, cmp_is, cmp_isn, dIs_bl, dIs_tn, dIs_nn, opt_map, decide_eq_true_eq, wp_mod, wp_fdiv, wp_pow, wp_add, wp_sub, wp_mul, wp_mulTI, wp_addT, wp_neg, wp_slT, wp_slR, slW, wp_isLst, lW_l, wp_app, wp_popAt, wp_setR, setW_l, partO, Bool.not_true, Bool.not_false, wp_minI, wp_maxI, wp_intI, wp_intB, wp_absI, wp_srcT, wp_r2, wp_isi, asg_one, asg_two, wp_srcST, isTy_bb, wipe_nil, wipe_cons, at0, at1, ix0, ix1]
  have hlp := lk_parts_ok (t := tb) (w := w) (m := m) (kb := kb) (sw := false) (n := n) tla tlc tlP (by omega)
  rw [kx_false] at hlp
  refine wp_mono hlp fun v m1 ⟨rp, e, e1, g1, a1⟩ => ?_
  subst e
  simp only [ss_lk_spread_2, wp_bd, wp_ret, wp_nope, wp_chk, wp_some, wp_ite, wp_tru, wpF_bs, wpF_nx, wpF_rt, wpF_bk, wpF_ct, wpF_ite, thenF_nx, thenF_rt, thenF_bk, thenF_ct, wpF_nil, wpF_cons, endF_nx, endF_rt, exe, ev, evs, evI, varM, List.getElem?_cons_zero, List.getElem?_cons_succ, List.set_cons_zero, List.set_cons_succ, Bool.false_eq_true, if_true, if_false, ite_true, ite_false, reduceIte, Option.some.injEq, exists_eq_left', exists_eq_left, wp_ixR, ixW_l, ixW_f, wp_ixT, wp_lenR, lenW_l, lenW_f, wp_lenT, wp_tupR, lsW_l, lsW_f, wp_tupT, wp_listT, wp_cmp, cmp_lt, cmp_le, cmp_gt, cmp_ge, cmp_eq, cmp_ne, eqD_int, eqD_bl, cmp_is, cmp_isn, dIs_bl, dIs_tn, dIs_nn, opt_map, decide_eq_true_eq, wp_mod, wp_fdiv, wp_pow, wp_add, wp_sub, wp_mul, wp_mulTI, wp_addT, wp_neg, wp_slT, wp_slR, slW, wp_isLst, lW_l, wp_app, wp_popAt, wp_setR, setW_l, partO, Bool.not_true, Bool.not_false, wp_minI, wp_maxI, wp_intI, wp_intB, wp_absI, wp_srcT, wp_r2, wp_isi, asg_one, asg_two, wp_srcST, isTy_bb, wipe_nil, wipe_cons, at0, at1, ix0, ix1]
  rw [wp_srcSR e1]
  show wp (loopC _ _ (enumL 0 ((partsL kb).map ptD)) []) _ _
  rw [enum_zip]
  refine wp_loopG (a := [(rp, _)]) (f := fun q : Prt × Nat => D.tup [.int (q.2 : Nat), ptD q.1]) (g := fun q => some (D.tup [ptD q.1, .int (q.2 : Nat)])) (fun _ g => g.get e1) _ (fun q hq m2 g2 => ?_) (fun m2 g2 => ?_)
  · simp only [wp_bd, wp_ret, wp_nope, wp_chk, wp_some, wp_ite, wp_tru, wpF_bs, wpF_nx, wpF_rt, wpF_bk, wpF_ct, wpF_ite, thenF_nx, thenF_rt, thenF_bk, thenF_ct, wpF_nil, wpF_cons, endF_nx, endF_rt, exe, ev, evs, evI, varM, List.getElem?_cons_zero, List.getElem?_cons_succ, List.set_cons_zero, List.set_cons_succ, Bool.false_eq_true, if_true, if_false, ite_true, ite_false, reduceIte, Option.some.injEq, exists_eq_left', exists_eq_left, wp_ixR, ixW_l, ixW_f, wp_ixT, wp_lenR, lenW_l, lenW_f, wp_lenT, wp_tupR, lsW_l, lsW_f, wp_tupT, wp_listT, wp_cmp, cmp_lt, cmp_le, cmp_gt, cmp_ge, cmp_eq, cmp_ne, eqD_int, eqD_bl, cmp_is, cmp_isn, dIs_bl, dIs_tn, dIs_nn, opt_map, decide_eq_true_eq, wp_mod, wp_fdiv, wp_pow, wp_add, wp_sub, wp_mul, wp_mulTI, wp_addT, wp_neg, wp_slT, wp_slR, slW, wp_isLst, lW_l, wp_app, wp_popAt, wp_setR, setW_l, partO, Bool.not_true, Bool.not_false, wp_minI, wp_maxI, wp_intI, wp_intB, wp_absI, wp_srcT, wp_r2, wp_isi, asg_one, asg_two, wp_srcST, isTy_bb, wipe_nil, wipe_cons, at0, at1, ix0, ix1, List.length_cons, List.length_nil]
    exact ⟨by omega, trivial, .refl⟩
  rw [fmS]
  refine wp_new fun lz m3 g3 e3 a3 b3 c3 => ?_
  rw [wp_dictP (lstAt_l e3) (pairs_pn _) (pn_nd parts_nodup 0)]
  refine wp_new fun rd m4 g4 e4 a4 b4 c4 => ?_
  have hd : ∀ p ∈ partsL kb, dLook (((partsL kb).zipIdx 0).map pnD) (kP p) = some (.int (numP kb p - 1)) := fun p hp => by
    rw [pn_look parts_nodup hp]
    unfold numP
    congr 2
    omega
  simp only [ss_lk_spread_3, wp_bd, wp_ret, wp_nope, wp_chk, wp_some, wp_ite, wp_tru, wpF_bs, wpF_nx, wpF_rt, wpF_bk, wpF_ct, wpF_ite, thenF_nx, thenF_rt, thenF_bk, thenF_ct, wpF_nil, wpF_cons, endF_nx, endF_rt, exe, ev, evs, evI, varM, List.getElem?_cons_zero, List.getElem?_cons_succ, List.set_cons_zero, List.set_cons_succ, Bool.false_eq_true, if_true, if_false, ite_true, ite_false, reduceIte, Option.some.injEq, exists_eq_left', exists_eq_left, wp_ixR, ixW_l, ixW_f, wp_ixT, wp_lenR, lenW_l, lenW_f, wp_lenT, wp_tupR, lsW_l, lsW_f, wp_tupT, wp_listT, wp_cmp, cmp_lt, cmp_le, cmp_gt, cmp_ge, cmp_eq, cmp_ne, eqD_int, eqD_bl, cmp_is, cmp_isn, dIs_bl, dIs_tn, dIs_nn, opt_map, decide_eq_true_eq, wp_mod, wp_fdiv, wp_pow, wp_add, wp_sub, wp_mul, wp_mulTI, wp_addT, wp_neg, wp_slT, wp_slR, slW, wp_isLst, lW_l, wp_app, wp_popAt, wp_setR, setW_l, partO, Bool.not_true, Bool.not_false, wp_minI, wp_maxI, wp_intI, wp_intB, wp_absI, wp_srcT, wp_r2, wp_isi, asg_one, asg_two, wp_srcST, isTy_bb, wipe_nil, wipe_cons, at0, at1, ix0, ix1, List.length_map]
  refine wp_mono (lk_ahead_ok (kb := kb) (s := false) (n := n + 1) tla (k := kb.length) (Nat.le_refl _) (by omega)) fun v m5 ⟨rn, e, e5, g5, a5⟩ => ?_
  subst e
  have e5 : m5[rn]? = some (.lst ((nlk kb kb.length).map fun i => D.int (nmI i))) := e5
  simp only [ss_lk_spread_4, wp_bd, wp_ret, wp_nope, wp_chk, wp_some, wp_ite, wp_tru, wpF_bs, wpF_nx, wpF_rt, wpF_bk, wpF_ct, wpF_ite, thenF_nx, thenF_rt, thenF_bk, thenF_ct, wpF_nil, wpF_cons, endF_nx, endF_rt, exe, ev, evs, evI, varM, List.getElem?_cons_zero, List.getElem?_cons_succ, List.set_cons_zero, List.set_cons_succ, Bool.false_eq_true, if_true, if_false, ite_true, ite_false, reduceIte, Option.some.injEq, exists_eq_left', exists_eq_left, wp_ixR, ixW_l, ixW_f, wp_ixT, wp_lenR, lenW_l, lenW_f, wp_lenT, wp_tupR, lsW_l, lsW_f, wp_tupT, wp_listT, wp_cmp, cmp_lt, cmp_le, cmp_gt, cmp_ge, cmp_eq, cmp_ne, eqD_int, eqD_bl, cmp_is, cmp_isn, dIs_bl, dIs_tn, dIs_nn, opt_map, decide_eq_true_eq, wp_mod, wp_fdiv, wp_pow, wp_add, wp_sub, wp_mul, wp_mulTI, wp_addT, wp_neg, wp_slT, wp_slR, slW, wp_isLst, lW_l, wp_app, wp_popAt, wp_setR, setW_l, partO, Bool.not_true, Bool.not_false, wp_minI, wp_maxI, wp_intI, wp_intB, wp_absI, wp_srcT, wp_r2, wp_isi, asg_one, asg_two, wp_srcST, isTy_bb, wipe_nil, wipe_cons, at0, at1, ix0, ix1]
  refine wp_new fun rf m6 g6 e6 a6 b6 c6 => ?_
  simp only [ss_lk_spread_5, wp_bd, wp_ret, wp_nope, wp_chk, wp_some, wp_ite, wp_tru, wpF_bs, wpF_nx, wpF_rt, wpF_bk, wpF_ct, wpF_ite, thenF_nx, thenF_rt, thenF_bk, thenF_ct, wpF_nil, wpF_cons, endF_nx, endF_rt, exe, ev, evs, evI, varM, List.getElem?_cons_zero, List.getElem?_cons_succ, List.set_cons_zero, List.set_cons_succ, Bool.false_eq_true, if_true, if_false, ite_true, ite_false, reduceIte, Option.some.injEq, exists_eq_left', exists_eq_left, wp_ixR, ixW_l, ixW_f, wp_ixT, wp_lenR, lenW_l, lenW_f, wp_lenT, wp_tupR, lsW_l, lsW_f, wp_tupT, wp_listT, wp_cmp, cmp_lt, cmp_le, cmp_gt, cmp_ge, cmp_eq, cmp_ne, eqD_int, eqD_bl, cmp_is, cmp_isn, dIs_bl, dIs_tn, dIs_nn, opt_map, decide_eq_true_eq, wp_mod, wp_fdiv, wp_pow, wp_add, wp_sub, wp_mul, wp_mulTI, wp_addT, wp_neg, wp_slT, wp_slR, slW, wp_isLst, lW_l, wp_app, wp_popAt, wp_setR, setW_l, partO, Bool.not_true, Bool.not_false, wp_minI, wp_maxI, wp_intI, wp_intB, wp_absI, wp_srcT, wp_r2, wp_isi, asg_one, asg_two, wp_srcST, isTy_bb, wipe_nil, wipe_cons, at0, at1, ix0, ix1, g6.get e5, List.length_map, nlk_len (Nat.le_refl kb.length)]
  have h8 : ahN kb kb.length ≤ 8 := Nat.le_trans (ahN_le _) hk
  refine wp_mono (lk_plays_ok (n := n + 1) tlc h8) fun v m7 ⟨rc, e, e7, g7, a7⟩ => ?_
  subst e
  rw [wp_srcR e7]
  have lv := lev_small h8
  have ncf : rc ≠ rf := by have := g7.1; omega
  have f1 := g7.get (g6.get (g5.get (g4.get (g3.get (g2.get e1)))))
  have f2 := g7.get (g6.get (g5.get e4))
  have f3 := g7.get (g6.get e5)
  have nrp : rp ≠ rf := by have := lt_of_get (g5.get (g4.get (g3.get (g2.get e1)))); omega
  have nrd : rd ≠ rf := by have := lt_of_get (g5.get e4); omega
  have nrn : rn ≠ rf := by have := lt_of_get e5; omega
  have K7 : KeyR m7 rf [] := ⟨[], g7.get e6, rfl, .nil⟩
  have G5 := (((g1.trans g2).trans g3).trans g4).trans g5
  refine wpF_loop (a := [(rc, _)]) (J := fun xs ρ m'' => ∃ (dn rest : List (List Bool)) (keys : List (List Int)) (b5 b6 b9 b10 b11 : Option D), lev (ahN kb kb.length) = dn ++ rest ∧ xs = rest.map bsD ∧ ρ = [some (clD (kb.map kD) rss), some (.tup (kb.map kD)), some (.tup (rss.map lsD)), some (.ref rp), some (.ref rd), b5, b6, some (.ref rn), some (.ref rf), b9, b10, b11] ∧ KeyR m'' rf keys ∧ keys.length ≤ dn.length * rss.length ∧ (∀ x, x ∈ keys ↔ ∃ a ∈ dn, ∃ row ∈ rss, spR kb a row = some x) ∧ Gr rf m7 m'') (fun _ _ _ ⟨_, _, _, _, _, _, _, _, _, _, _, _, _, _, g⟩ => g.get ncf e7) (fun x xs ρ m'' hJ => ?_) (fun ρ m'' hJ => ?_) _ _ _
    ⟨[], _, [], _, _, _, _, _, rfl, rfl, rfl, K7, by simp, fun x => by simp, .refl⟩
  · obtain ⟨dn, rest, keys, b5, b6, b9, b10, b11, er, ex, rfl, K, kl, km, g8⟩ := hJ
    cases rest with
    | nil => cases ex
    | cons a rest =>
      cases ex
      have al : a.length = ahN kb kb.length := lev_mem.mp (by rw [er]; simp)
      have hln : dn.length + (rest.length + 1) = (lev (ahN kb kb.length)).length := by rw [er, List.length_append, List.length_cons]
      have mul1 : dn.length * rss.length + rss.length ≤ 51200 := by
        have h1 : (dn.length + 1) * rss.length ≤ 256 * 200 := Nat.mul_le_mul (by omega) hn
        rw [Nat.succ_mul] at h1
        omega
      simp only [ss_lk_spread_5b_0, wp_bd, wp_ret, wp_nope, wp_chk, wp_some, wp_ite, wp_tru, wpF_bs, wpF_nx, wpF_rt, wpF_bk, wpF_ct, wpF_ite, thenF_nx, thenF_rt, thenF_bk, thenF_ct, wpF_nil, wpF_cons, endF_nx, endF_rt, exe, ev, evs, evI, varM, List.getElem?_cons_zero, List.getElem?_cons_succ, List.set_cons_zero, List.set_cons_succ, Bool.false_eq_true, if_true, if_false, ite_true, ite_false, reduceIte, Option.some.injEq, exists_eq_left', exists_eq_left, wp_ixR, ixW_l, ixW_f, wp_ixT, wp_lenR, lenW_l, lenW_f, wp_lenT, wp_tupR, lsW_l, lsW_f, wp_tupT, wp_listT, wp_cmp, cmp_lt, cmp_le, cmp_gt, cmp_ge, cmp_eq, cmp_ne, eqD_int, eqD_bl, cmp_is, cmp_isn, dIs_bl, dIs_tn, dIs_nn, opt_map, decide_eq_true_eq, wp_mod, wp_fdiv, wp_pow, wp_add, wp_sub, wp_mul, wp_mulTI, wp_addT, wp_neg, wp_slT, wp_slR, slW, wp_isLst, lW_l, wp_app, wp_popAt, wp_setR, setW_l, partO, Bool.not_true, Bool.not_false, wp_minI, wp_maxI, wp_intI, wp_intB, wp_absI, wp_srcT, wp_r2, wp_isi, asg_one, asg_two, wp_srcST, isTy_bb, wipe_nil, wipe_cons, at0, at1, ix0, ix1]
      refine wpF_loop (a := []) (J := fun xs ρ m9 => ∃ (dm rest' keys : List (List Int)) (b10 b11 : Option D), rss = dm ++ rest' ∧ xs = rest'.map lsD ∧ ρ = [some (clD (kb.map kD) rss), some (.tup (kb.map kD)), some (.tup (rss.map lsD)), some (.ref rp), some (.ref rd), b5, b6, some (.ref rn), some (.ref rf), some (bsD a), b10, b11] ∧ KeyR m9 rf keys ∧ keys.length ≤ dn.length * rss.length + dm.length ∧ (∀ x, x ∈ keys ↔ (∃ a ∈ dn, ∃ row ∈ rss, spR kb a row = some x) ∨ ∃ row ∈ dm, spR kb a row = some x) ∧ Gr rf m7 m9) (fun _ _ _ _ => trivial) (fun x xs ρ m9 hJ => ?_) (fun ρ m9 hJ => ?_) _ _ _
        ⟨[], rss, keys, _, _, rfl, rfl, rfl, K, kl, fun x => by rw [km]; simp, g8⟩
      · obtain ⟨dm, rest', keys, b10, b11, er', ex', rfl, K, kl, km, g9⟩ := hJ
        cases rest' with
        | nil => cases ex'
        | cons row rest' =>
          cases ex'
          have hrow : row ∈ rss := by rw [er']; simp
          have hln' : dm.length + (rest'.length + 1) = rss.length := by rw [er', List.length_append, List.length_cons]
          simp only [ss_lk_spread_5b_0b_0, wp_bd, wp_ret, wp_nope, wp_chk, wp_some, wp_ite, wp_tru, wpF_bs, wpF_nx, wpF_rt, wpF_bk, wpF_ct, wpF_ite, thenF_nx, thenF_rt, thenF_bk, thenF_ct, wpF_nil, wpF_cons, endF_nx, endF_rt, exe, ev, evs, evI, varM, List.getElem?_cons_zero, List.getElem?_cons_succ, List.set_cons_zero, List.set_cons_succ, Bool.false_eq_true, if_true, if_false, ite_true, ite_false, reduceIte, Option.some.injEq, exists_eq_left', exists_eq_left, wp_ixR, ixW_l, ixW_f, wp_ixT, wp_lenR, lenW_l, lenW_f, wp_lenT, wp_tupR, lsW_l, lsW_f, wp_tupT, wp_listT, wp_cmp, cmp_lt, cmp_le, cmp_gt, cmp_ge, cmp_eq, cmp_ne, eqD_int, eqD_bl, cmp_is, cmp_isn, dIs_bl, dIs_tn, dIs_nn, opt_map, decide_eq_true_eq, wp_mod, wp_fdiv, wp_pow, wp_add, wp_sub, wp_mul, wp_mulTI, wp_addT, wp_neg, wp_slT, wp_slR, slW, wp_isLst, lW_l, wp_app, wp_popAt, wp_setR, setW_l, partO, Bool.not_true, Bool.not_false, wp_minI, wp_maxI, wp_intI, wp_intB, wp_absI, wp_srcT, wp_r2, wp_isi, asg_one, asg_two, wp_srcST, isTy_bb, wipe_nil, wipe_cons, at0, at1, ix0, ix1]
          refine wp_mono (lk_spread_row_ok (n := n) hk (g9.get nrd f2) hd (g9.get nrn f3) (hr row hrow) al) fun v m10 ⟨e, g10⟩ => ?_
          subst e
          have K10 := K.ge g10
          cases es : spR kb a row with
          | none =>
            simp only [joinD, ss_lk_spread_5b_0b_1, wp_bd, wp_ret, wp_nope, wp_chk, wp_some, wp_ite, wp_tru, wpF_bs, wpF_nx, wpF_rt, wpF_bk, wpF_ct, wpF_ite, thenF_nx, thenF_rt, thenF_bk, thenF_ct, wpF_nil, wpF_cons, endF_nx, endF_rt, exe, ev, evs, evI, varM, List.getElem?_cons_zero, List.getElem?_cons_succ, List.set_cons_zero, List.set_cons_succ, Bool.false_eq_true, if_true, if_false, ite_true, ite_false, reduceIte, Option.some.injEq, exists_eq_left', exists_eq_left, wp_ixR, ixW_l, ixW_f, wp_ixT, wp_lenR, lenW_l, lenW_f, wp_lenT, wp_tupR, lsW_l, lsW_f, wp_tupT, wp_listT, wp_cmp, cmp_lt, cmp_le, cmp_gt, cmp_ge, cmp_eq, cmp_ne, eqD_int, eqD_bl, cmp_is, cmp_isn, dIs_bl, dIs_tn, dIs_nn, opt_map, decide_eq_true_eq, wp_mod, wp_fdiv, wp_pow, wp_add, wp_sub, wp_mul, wp_mulTI, wp_addT, wp_neg, wp_slT, wp_slR, slW, wp_isLst, lW_l, wp_app, wp_popAt, wp_setR, setW_l, partO, Bool.not_true, Bool.not_false, wp_minI, wp_maxI, wp_intI, wp_intB, wp_absI, wp_srcT, wp_r2, wp_isi, asg_one, asg_two, wp_srcST, isTy_bb, wipe_nil, wipe_cons, at0, at1, ix0, ix1]
            refine ⟨dm ++ [row], rest', keys, _, _, by rw [er']; simp, rfl, rfl, K10, by rw [List.length_append]; omega, fun x => ?_, g9.trans g10.gr⟩
            rw [km]
            constructor
            · rintro (h | ⟨o, h1, h2⟩)
              · exact .inl h
              · exact .inr ⟨o, List.mem_append_left _ h1, h2⟩
            · rintro (h | ⟨o, h1, h2⟩)
              · exact .inl h
              · rcases List.mem_append.mp h1 with h1 | h1
                · exact .inr ⟨o, h1, h2⟩
                · rw [List.mem_singleton.mp h1, es] at h2
                  cases h2
          | some y =>
            simp only [joinD, ss_lk_spread_5b_0b_1, wp_bd, wp_ret, wp_nope, wp_chk, wp_some, wp_ite, wp_tru, wpF_bs, wpF_nx, wpF_rt, wpF_bk, wpF_ct, wpF_ite, thenF_nx, thenF_rt, thenF_bk, thenF_ct, wpF_nil, wpF_cons, endF_nx, endF_rt, exe, ev, evs, evI, varM, List.getElem?_cons_zero, List.getElem?_cons_succ, List.set_cons_zero, List.set_cons_succ, Bool.false_eq_true, if_true, if_false, ite_true, ite_false, reduceIte, Option.some.injEq, exists_eq_left', exists_eq_left, wp_ixR, ixW_l, ixW_f, wp_ixT, wp_lenR, lenW_l, lenW_f, wp_lenT, wp_tupR, lsW_l, lsW_f, wp_tupT, wp_listT, wp_cmp, cmp_lt, cmp_le, cmp_gt, cmp_ge, cmp_eq, cmp_ne, eqD_int, eqD_bl, cmp_is, cmp_isn, dIs_bl, dIs_tn, dIs_nn, opt_map, decide_eq_true_eq, wp_mod, wp_fdiv, wp_pow, wp_add, wp_sub, wp_mul, wp_mulTI, wp_addT, wp_neg, wp_slT, wp_slR, slW, wp_isLst, lW_l, wp_app, wp_popAt, wp_setR, setW_l, partO, Bool.not_true, Bool.not_false, wp_minI, wp_maxI, wp_intI, wp_intB, wp_absI, wp_srcT, wp_r2, wp_isi, asg_one, asg_two, wp_srcST, isTy_bb, wipe_nil, wipe_cons, at0, at1, ix0, ix1]
            refine key_store K10 (by omega) fun keys' m11 K11 g11 p3 p4 => ?_
            refine ⟨dm ++ [row], rest', keys', _, _, by rw [er']; simp, rfl, rfl, K11, by rw [List.length_append]; simp; omega, fun x => ?_, (g9.trans g10.gr).trans g11⟩
            rw [p3, km]
            constructor
            · rintro ((h | ⟨o, h1, h2⟩) | rfl)
              · exact .inl h
              · exact .inr ⟨o, List.mem_append_left _ h1, h2⟩
              · exact .inr ⟨row, by simp, es⟩
            · rintro (h | ⟨o, h1, h2⟩)
              · exact .inl (.inl h)
              · rcases List.mem_append.mp h1 with h1 | h1
                · exact .inl (.inr ⟨o, h1, h2⟩)
                · rw [List.mem_singleton.mp h1, es] at h2
                  exact .inr (Option.some.inj h2).symm
      · obtain ⟨dm, rest', keys, b10, b11, er', ex', rfl, K, kl, km, g9⟩ := hJ
        have : rest' = [] := by
          cases rest' with
          | nil => rfl
          | cons _ _ => cases ex'
        subst this
        rw [List.append_nil] at er'
        simp only [wp_bd, wp_ret, wp_nope, wp_chk, wp_some, wp_ite, wp_tru, wpF_bs, wpF_nx, wpF_rt, wpF_bk, wpF_ct, wpF_ite, thenF_nx, thenF_rt, thenF_bk, thenF_ct, wpF_nil, wpF_cons, endF_nx, endF_rt, exe, ev, evs, evI, varM, List.getElem?_cons_zero, List.getElem?_cons_succ, List.set_cons_zero, List.set_cons_succ, Bool.false_eq_true, if_true, if_false, ite_true, ite_false, reduceIte, Option.some.injEq, exists_eq_left', exists_eq_left, wp_ixR, ixW_l, ixW_f, wp_ixT, wp_lenR, lenW_l, lenW_f, wp_lenT, wp_tupR, lsW_l, lsW_f, wp_tupT, wp_listT, wp_cmp, cmp_lt, cmp_le, cmp_gt, cmp_ge, cmp_eq, cmp_ne, eqD_int, eqD_bl, cmp_is, cmp_isn, dIs_bl, dIs_tn, dIs_nn, opt_map, decide_eq_true_eq, wp_mod, wp_fdiv, wp_pow, wp_add, wp_sub, wp_mul, wp_mulTI, wp_addT, wp_neg, wp_slT, wp_slR, slW, wp_isLst, lW_l, wp_app, wp_popAt, wp_setR, setW_l, partO, Bool.not_true, Bool.not_false, wp_minI, wp_maxI, wp_intI, wp_intB, wp_absI, wp_srcT, wp_r2, wp_isi, asg_one, asg_two, wp_srcST, isTy_bb, wipe_nil, wipe_cons, at0, at1, ix0, ix1]
        refine ⟨dn ++ [a], rest, keys, _, _, _, _, _, by rw [er]; simp, rfl, rfl, K, by rw [List.length_append, List.length_singleton, Nat.succ_mul, er']; rw [er'] at kl; omega, fun x => ?_, g9⟩
        rw [km, ← er']
        constructor
        · rintro (⟨b, h1, h2⟩ | h)
          · exact ⟨b, List.mem_append_left _ h1, h2⟩
          · exact ⟨a, by simp, h⟩
        · rintro ⟨b, h1, h2⟩
          rcases List.mem_append.mp h1 with h1 | h1
          · exact .inl ⟨b, h1, h2⟩
          · rw [List.mem_singleton.mp h1] at h2
            exact .inr h2
  · obtain ⟨dn, rest, keys, b5, b6, b9, b10, b11, er, ex, rfl, ⟨kvs', q1, q2, q3⟩, kl, km, g8⟩ := hJ
    have : rest = [] := by
      cases rest with
      | nil => rfl
      | cons _ _ => cases ex
    subst this
    rw [List.append_nil] at er
    simp only [ss_lk_spread_6, wp_bd, wp_ret, wp_nope, wp_chk, wp_some, wp_ite, wp_tru, wpF_bs, wpF_nx, wpF_rt, wpF_bk, wpF_ct, wpF_ite, thenF_nx, thenF_rt, thenF_bk, thenF_ct, wpF_nil, wpF_cons, endF_nx, endF_rt, exe, ev, evs, evI, varM, List.getElem?_cons_zero, List.getElem?_cons_succ, List.set_cons_zero, List.set_cons_succ, Bool.false_eq_true, if_true, if_false, ite_true, ite_false, reduceIte, Option.some.injEq, exists_eq_left', exists_eq_left, wp_ixR, ixW_l, ixW_f, wp_ixT, wp_lenR, lenW_l, lenW_f, wp_lenT, wp_tupR, lsW_l, lsW_f, wp_tupT, wp_listT, wp_cmp, cmp_lt, cmp_le, cmp_gt, cmp_ge, cmp_eq, cmp_ne, eqD_int, eqD_bl, cmp_is, cmp_isn, dIs_bl, dIs_tn, dIs_nn, opt_map, decide_eq_true_eq, wp_mod, wp_fdiv, wp_pow, wp_add, wp_sub, wp_mul, wp_mulTI, wp_addT, wp_neg, wp_slT, wp_slR, slW, wp_isLst, lW_l, wp_app, wp_popAt, wp_setR, setW_l, partO, Bool.not_true, Bool.not_false, wp_minI, wp_maxI, wp_intI, wp_intB, wp_absI, wp_srcT, wp_r2, wp_isi, asg_one, asg_two, wp_srcST, isTy_bb, wipe_nil, wipe_cons, at0, at1, ix0, ix1, g8.get nrp f1]
    rw [wp_sortK q1 (by rw [q2]; exact sort_rowsX keys)]
    refine wp_new fun rs m9 g9 e9 a9 b9 c9 => ?_
    simp only [wp_bd, wp_ret, wp_nope, wp_chk, wp_some, wp_ite, wp_tru, wpF_bs, wpF_nx, wpF_rt, wpF_bk, wpF_ct, wpF_ite, thenF_nx, thenF_rt, thenF_bk, thenF_ct, wpF_nil, wpF_cons, endF_nx, endF_rt, exe, ev, evs, evI, varM, List.getElem?_cons_zero, List.getElem?_cons_succ, List.set_cons_zero, List.set_cons_succ, Bool.false_eq_true, if_true, if_false, ite_true, ite_false, reduceIte, Option.some.injEq, exists_eq_left', exists_eq_left, wp_ixR, ixW_l, ixW_f, wp_ixT, wp_lenR, lenW_l, lenW_f, wp_lenT, wp_tupR, lsW_l, lsW_f, wp_tupT, wp_listT, wp_cmp, cmp_lt, cmp_le, cmp_gt, cmp_ge, cmp_eq, cmp_ne, eqD_int, eqD_bl, cmp_is, cmp_isn, dIs_bl, dIs_tn, dIs_nn, opt_map, decide_eq_true_eq, wp_mod, wp_fdiv, wp_pow, wp_add, wp_sub, wp_mul, wp_mulTI, wp_addT, wp_neg, wp_slT, wp_slR, slW, wp_isLst, lW_l, wp_app, wp_popAt, wp_setR, setW_l, partO, Bool.not_true, Bool.not_false, wp_minI, wp_maxI, wp_intI, wp_intB, wp_absI, wp_srcT, wp_r2, wp_isi, asg_one, asg_two, wp_srcST, isTy_bb, wipe_nil, wipe_cons, at0, at1, ix0, ix1, e9, List.length_cons, List.length_nil]
    refine ⟨by decide, ⟨keys, rfl, fun x => by rw [km, er], q3⟩, ?_⟩
    exact G5.trans ((((g6.trans g7).gr.trans g8).trans g9.gr).ge .refl a6)
theorem inL_bt {α : Type} (xs : List α) : inL m (.bl true) (xs.map fun _ => D.bl false) = some false := by
  unfold inL
  rw [mapO_bl]
  show some (List.any _ _) = _
  congr 1
  rw [List.any_eq_false]
  intro y hy
  obtain ⟨z, _, rfl⟩ := List.mem_map.mp hy
  exact fun h => by cases h
theorem lk_formed_ok {P : List Prt} {rs : List (List Int)} : wp (run tb w (n + 1) "_law_formed" [.tup [.tup (P.map ptD), .tup (rs.map lsD)]]) m fun v m' => v = .bl true ∧ Ge m m' := by
  have big : (100000 : Nat) < sizeLine := by decide
  refine wp_run tlF rfl ?_
  show wpF (exes _ _ fn_lk_formed.body [some (.tup [.tup (P.map ptD), .tup (rs.map lsD)]), none, none, none, none]) m _
  simp only [fn_lk_formed, ss_lk_formed_0, wp_bd, wp_ret, wp_nope, wp_chk, wp_some, wp_ite, wp_tru, wpF_bs, wpF_nx, wpF_rt, wpF_bk, wpF_ct, wpF_ite, thenF_nx, thenF_rt, thenF_bk, thenF_ct, wpF_nil, wpF_cons, endF_nx, endF_rt, exe, ev, evs, evI, varM, List.getElem?_cons_zero, List.getElem?_cons_succ, List.set_cons_zero, List.set_cons_succ, Bool.false_eq_true, if_true, if_false, ite_true, ite_false, reduceIte, Option.some.injEq, exists_eq_left', exists_eq_left, wp_ixR, ixW_l, ixW_f, wp_ixT, wp_lenR, lenW_l, lenW_f, wp_lenT, wp_tupR, lsW_l, lsW_f, wp_tupT, wp_listT, wp_cmp, cmp_lt, cmp_le, cmp_gt, cmp_ge, cmp_eq, cmp_ne, eqD_int, eqD_bl, cmp_is, cmp_isn, dIs_bl, dIs_tn, dIs_nn, opt_map, decide_eq_true_eq, wp_mod, wp_fdiv, wp_pow, wp_add, wp_sub, wp_mul, wp_mulTI, wp_addT, wp_neg, wp_slT, wp_slR, slW, wp_isLst, lW_l, wp_app, wp_popAt, wp_setR, setW_l, partO, Bool.not_true, Bool.not_false, wp_minI, wp_maxI, wp_intI, wp_intB, wp_absI, wp_srcT, wp_r2, wp_isi, asg_one, asg_two, wp_srcST, isTy_bb, wipe_nil, wipe_cons, at0, at1, ix0, ix1, List.length_cons, List.length_nil]
  refine ⟨true, rfl, ?_⟩
  rw [if_neg (by decide), if_neg (by decide)]
  simp only [ss_lk_formed_1, wp_bd, wp_ret, wp_nope, wp_chk, wp_some, wp_ite, wp_tru, wpF_bs, wpF_nx, wpF_rt, wpF_bk, wpF_ct, wpF_ite, thenF_nx, thenF_rt, thenF_bk, thenF_ct, wpF_nil, wpF_cons, endF_nx, endF_rt, exe, ev, evs, evI, varM, List.getElem?_cons_zero, List.getElem?_cons_succ, List.set_cons_zero, List.set_cons_succ, Bool.false_eq_true, if_true, if_false, ite_true, ite_false, reduceIte, Option.some.injEq, exists_eq_left', exists_eq_left, wp_ixR, ixW_l, ixW_f, wp_ixT, wp_lenR, lenW_l, lenW_f, wp_lenT, wp_tupR, lsW_l, lsW_f, wp_tupT, wp_listT, wp_cmp, cmp_lt, cmp_le, cmp_gt, cmp_ge, cmp_eq, cmp_ne, eqD_int, eqD_bl, cmp_is, cmp_isn, dIs_bl, dIs_tn, dIs_nn, opt_map, decide_eq_true_eq, wp_mod, wp_fdiv, wp_pow, wp_add, wp_sub, wp_mul, wp_mulTI, wp_addT, wp_neg, wp_slT, wp_slR, slW, wp_isLst, lW_l, wp_app, wp_popAt, wp_setR, setW_l, partO, Bool.not_true, Bool.not_false, wp_minI, wp_maxI, wp_intI, wp_intB, wp_absI, wp_srcT, wp_r2, wp_isi, asg_one, asg_two, wp_srcST, isTy_bb, wipe_nil, wipe_cons, at0, at1, ix0, ix1]
  refine ⟨true, rfl, ?_⟩
  rw [if_neg (by decide)]
  refine ⟨true, rfl, ?_⟩
  rw [if_neg (by decide)]
  simp only [ss_lk_formed_2, wp_bd, wp_ret, wp_nope, wp_chk, wp_some, wp_ite, wp_tru, wpF_bs, wpF_nx, wpF_rt, wpF_bk, wpF_ct, wpF_ite, thenF_nx, thenF_rt, thenF_bk, thenF_ct, wpF_nil, wpF_cons, endF_nx, endF_rt, exe, ev, evs, evI, varM, List.getElem?_cons_zero, List.getElem?_cons_succ, List.set_cons_zero, List.set_cons_succ, Bool.false_eq_true, if_true, if_false, ite_true, ite_false, reduceIte, Option.some.injEq, exists_eq_left', exists_eq_left, wp_ixR, ixW_l, ixW_f, wp_ixT, wp_lenR, lenW_l, lenW_f, wp_lenT, wp_tupR, lsW_l, lsW_f, wp_tupT, wp_listT, wp_cmp, cmp_lt, cmp_le, cmp_gt, cmp_ge, cmp_eq, cmp_ne, eqD_int, eqD_bl, cmp_is, cmp_isn, dIs_bl, dIs_tn, dIs_nn, opt_map, decide_eq_true_eq, wp_mod, wp_fdiv, wp_pow, wp_add, wp_sub, wp_mul, wp_mulTI, wp_addT, wp_neg, wp_slT, wp_slR, slW, wp_isLst, lW_l, wp_app, wp_popAt, wp_setR, setW_l, partO, Bool.not_true, Bool.not_false, wp_minI, wp_maxI, wp_intI, wp_intB, wp_absI, wp_srcT, wp_r2, wp_isi, asg_one, asg_two, wp_srcST, isTy_bb, wipe_nil, wipe_cons, at0, at1, ix0, ix1]
  refine wpF_loop (a := []) (J := fun xs ρ m' => ∃ (rest : List Prt) (b1 b2 b3 b4 : Option D), xs = rest.map ptD ∧ ρ = [some (.tup [.tup (P.map ptD), .tup (rs.map lsD)]), b1, b2, b3, b4] ∧ Ge m m') (fun _ _ _ _ => trivial) (fun x xs ρ m' hJ => ?_) (fun ρ m' hJ => ?_) _ _ _
    ⟨P, _, _, _, _, rfl, rfl, .refl⟩
  · obtain ⟨rest, b1, b2, b3, b4, q1, rfl, g⟩ := hJ
    cases rest with
    | nil => cases q1
    | cons p rest =>
      cases q1
      simp only [ss_lk_formed_2b_0, wp_bd, wp_ret, wp_nope, wp_chk, wp_some, wp_ite, wp_tru, wpF_bs, wpF_nx, wpF_rt, wpF_bk, wpF_ct, wpF_ite, thenF_nx, thenF_rt, thenF_bk, thenF_ct, wpF_nil, wpF_cons, endF_nx, endF_rt, exe, ev, evs, evI, varM, List.getElem?_cons_zero, List.getElem?_cons_succ, List.set_cons_zero, List.set_cons_succ, Bool.false_eq_true, if_true, if_false, ite_true, ite_false, reduceIte, Option.some.injEq, exists_eq_left', exists_eq_left, wp_ixR, ixW_l, ixW_f, wp_ixT, wp_lenR, lenW_l, lenW_f, wp_lenT, wp_tupR, lsW_l, lsW_f, wp_tupT, wp_listT, wp_cmp, cmp_lt, cmp_le, cmp_gt, cmp_ge, cmp_eq, cmp_ne, eqD_int, eqD_bl, cmp_is, cmp_isn, dIs_bl, dIs_tn, dIs_nn, opt_map, decide_eq_true_eq, wp_mod, wp_fdiv, wp_pow, wp_add, wp_sub, wp_mul, wp_mulTI, wp_addT, wp_neg, wp_slT, wp_slR, slW, wp_isLst, lW_l, wp_app, wp_popAt, wp_setR, setW_l, partO, Bool.not_true, Bool.not_false, wp_minI, wp_maxI, wp_intI, wp_intB, wp_absI, wp_srcT, wp_r2, wp_isi, asg_one, asg_two, wp_srcST, isTy_bb, wipe_nil, wipe_cons, at0, at1, ix0, ix1]
      refine ⟨false, rfl, ?_⟩
      rw [if_neg (by decide)]
      refine wp_loopG (a := []) (f := D.bl) (g := fun _ : Bool => some (D.bl true)) (fun _ _ => trivial) p.2 (fun b _ m2 g2 => ?_) (fun m2 g2 => ?_)
      · simp only [wp_bd, wp_ret, wp_nope, wp_chk, wp_some, wp_ite, wp_tru, wpF_bs, wpF_nx, wpF_rt, wpF_bk, wpF_ct, wpF_ite, thenF_nx, thenF_rt, thenF_bk, thenF_ct, wpF_nil, wpF_cons, endF_nx, endF_rt, exe, ev, evs, evI, varM, List.getElem?_cons_zero, List.getElem?_cons_succ, List.set_cons_zero, List.set_cons_succ, Bool.false_eq_true, if_true, if_false, ite_true, ite_false, reduceIte, Option.some.injEq, exists_eq_left', exists_eq_left, wp_ixR, ixW_l, ixW_f, wp_ixT, wp_lenR, lenW_l, lenW_f, wp_lenT, wp_tupR, lsW_l, lsW_f, wp_tupT, wp_listT, wp_cmp, cmp_lt, cmp_le, cmp_gt, cmp_ge, cmp_eq, cmp_ne, eqD_int, eqD_bl, cmp_is, cmp_isn, dIs_bl, dIs_tn, dIs_nn, opt_map, decide_eq_true_eq, wp_mod, wp_fdiv, wp_pow, wp_add, wp_sub, wp_mul, wp_mulTI, wp_addT, wp_neg, wp_slT, wp_slR, slW, wp_isLst, lW_l, wp_app, wp_popAt, wp_setR, setW_l, partO, Bool.not_true, Bool.not_false, wp_minI, wp_maxI, wp_intI, wp_intB, wp_absI, wp_srcT, wp_r2, wp_isi, asg_one, asg_two, wp_srcST, isTy_bb, wipe_nil, wipe_cons, at0, at1, ix0, ix1]
        exact ⟨trivial, .refl⟩
      rw [fmS]
      refine wp_new fun l m3 g3 e3 a3 b3 c3 => ?_
      simp only [cmp_in, dIn_l e3, inL_bls (g := fun _ => true), wp_bd, wp_ret, wp_nope, wp_chk, wp_some, wp_ite, wp_tru, wpF_bs, wpF_nx, wpF_rt, wpF_bk, wpF_ct, wpF_ite, thenF_nx, thenF_rt, thenF_bk, thenF_ct, wpF_nil, wpF_cons, endF_nx, endF_rt, exe, ev, evs, evI, varM, List.getElem?_cons_zero, List.getElem?_cons_succ, List.set_cons_zero, List.set_cons_succ, Bool.false_eq_true, if_true, if_false, ite_true, ite_false, reduceIte, Option.some.injEq, exists_eq_left', exists_eq_left, wp_ixR, ixW_l, ixW_f, wp_ixT, wp_lenR, lenW_l, lenW_f, wp_lenT, wp_tupR, lsW_l, lsW_f, wp_tupT, wp_listT, wp_cmp, cmp_lt, cmp_le, cmp_gt, cmp_ge, cmp_eq, cmp_ne, eqD_int, eqD_bl, cmp_is, cmp_isn, dIs_bl, dIs_tn, dIs_nn, opt_map, decide_eq_true_eq, wp_mod, wp_fdiv, wp_pow, wp_add, wp_sub, wp_mul, wp_mulTI, wp_addT, wp_neg, wp_slT, wp_slR, slW, wp_isLst, lW_l, wp_app, wp_popAt, wp_setR, setW_l, partO, Bool.not_true, Bool.not_false, wp_minI, wp_maxI, wp_intI, wp_intB, wp_absI, wp_srcT, wp_r2, wp_isi, asg_one, asg_two, wp_srcST, isTy_bb, wipe_nil, wipe_cons, at0, at1, ix0, ix1]
      rw [show (p.2.all fun _ => true) = true from List.all_eq_true.mpr fun _ _ => rfl]
      simp only [Option.map_some, Option.some.injEq, exists_eq_left', wp_bd, wp_ret, wp_nope, wp_chk, wp_some, wp_ite, wp_tru, wpF_bs, wpF_nx, wpF_rt, wpF_bk, wpF_ct, wpF_ite, thenF_nx, thenF_rt, thenF_bk, thenF_ct, wpF_nil, wpF_cons, endF_nx, endF_rt, exe, ev, evs, evI, varM, List.getElem?_cons_zero, List.getElem?_cons_succ, List.set_cons_zero, List.set_cons_succ, Bool.false_eq_true, if_true, if_false, ite_true, ite_false, reduceIte, Option.some.injEq, exists_eq_left', exists_eq_left, wp_ixR, ixW_l, ixW_f, wp_ixT, wp_lenR, lenW_l, lenW_f, wp_lenT, wp_tupR, lsW_l, lsW_f, wp_tupT, wp_listT, wp_cmp, cmp_lt, cmp_le, cmp_gt, cmp_ge, cmp_eq, cmp_ne, eqD_int, eqD_bl, cmp_is, cmp_isn, dIs_bl, dIs_tn, dIs_nn, opt_map, decide_eq_true_eq, wp_mod, wp_fdiv, wp_pow, wp_add, wp_sub, wp_mul, wp_mulTI, wp_addT, wp_neg, wp_slT, wp_slR, slW, wp_isLst, lW_l, wp_app, wp_popAt, wp_setR, setW_l, partO, Bool.not_true, Bool.not_false, wp_minI, wp_maxI, wp_intI, wp_intB, wp_absI, wp_srcT, wp_r2, wp_isi, asg_one, asg_two, wp_srcST, isTy_bb, wipe_nil, wipe_cons, at0, at1, ix0, ix1]
      exact ⟨rest, _, _, _, _, rfl, rfl, g.trans (g2.trans g3)⟩
  · obtain ⟨rest, b1, b2, b3, b4, q1, rfl, g⟩ := hJ
    simp only [ss_lk_formed_3, wp_bd, wp_ret, wp_nope, wp_chk, wp_some, wp_ite, wp_tru, wpF_bs, wpF_nx, wpF_rt, wpF_bk, wpF_ct, wpF_ite, thenF_nx, thenF_rt, thenF_bk, thenF_ct, wpF_nil, wpF_cons, endF_nx, endF_rt, exe, ev, evs, evI, varM, List.getElem?_cons_zero, List.getElem?_cons_succ, List.set_cons_zero, List.set_cons_succ, Bool.false_eq_true, if_true, if_false, ite_true, ite_false, reduceIte, Option.some.injEq, exists_eq_left', exists_eq_left, wp_ixR, ixW_l, ixW_f, wp_ixT, wp_lenR, lenW_l, lenW_f, wp_lenT, wp_tupR, lsW_l, lsW_f, wp_tupT, wp_listT, wp_cmp, cmp_lt, cmp_le, cmp_gt, cmp_ge, cmp_eq, cmp_ne, eqD_int, eqD_bl, cmp_is, cmp_isn, dIs_bl, dIs_tn, dIs_nn, opt_map, decide_eq_true_eq, wp_mod, wp_fdiv, wp_pow, wp_add, wp_sub, wp_mul, wp_mulTI, wp_addT, wp_neg, wp_slT, wp_slR, slW, wp_isLst, lW_l, wp_app, wp_popAt, wp_setR, setW_l, partO, Bool.not_true, Bool.not_false, wp_minI, wp_maxI, wp_intI, wp_intB, wp_absI, wp_srcT, wp_r2, wp_isi, asg_one, asg_two, wp_srcST, isTy_bb, wipe_nil, wipe_cons, at0, at1, ix0, ix1]
    refine wpF_loop (a := []) (J := fun xs ρ m' => ∃ (rest : List (List Int)) (b1 b2 b3 b4 : Option D), xs = rest.map lsD ∧ ρ = [some (.tup [.tup (P.map ptD), .tup (rs.map lsD)]), b1, b2, b3, b4] ∧ Ge m m') (fun _ _ _ _ => trivial) (fun x xs ρ m' hJ => ?_) (fun ρ m' hJ => ?_) _ _ _
      ⟨rs, _, _, _, _, rfl, rfl, g⟩
    · obtain ⟨rest, b1, b2, b3, b4, q1, rfl, g⟩ := hJ
      cases rest with
      | nil => cases q1
      | cons p rest =>
        cases q1
        simp only [ss_lk_formed_3b_0, wp_bd, wp_ret, wp_nope, wp_chk, wp_some, wp_ite, wp_tru, wpF_bs, wpF_nx, wpF_rt, wpF_bk, wpF_ct, wpF_ite, thenF_nx, thenF_rt, thenF_bk, thenF_ct, wpF_nil, wpF_cons, endF_nx, endF_rt, exe, ev, evs, evI, varM, List.getElem?_cons_zero, List.getElem?_cons_succ, List.set_cons_zero, List.set_cons_succ, Bool.false_eq_true, if_true, if_false, ite_true, ite_false, reduceIte, Option.some.injEq, exists_eq_left', exists_eq_left, wp_ixR, ixW_l, ixW_f, wp_ixT, wp_lenR, lenW_l, lenW_f, wp_lenT, wp_tupR, lsW_l, lsW_f, wp_tupT, wp_listT, wp_cmp, cmp_lt, cmp_le, cmp_gt, cmp_ge, cmp_eq, cmp_ne, eqD_int, eqD_bl, cmp_is, cmp_isn, dIs_bl, dIs_tn, dIs_nn, opt_map, decide_eq_true_eq, wp_mod, wp_fdiv, wp_pow, wp_add, wp_sub, wp_mul, wp_mulTI, wp_addT, wp_neg, wp_slT, wp_slR, slW, wp_isLst, lW_l, wp_app, wp_popAt, wp_setR, setW_l, partO, Bool.not_true, Bool.not_false, wp_minI, wp_maxI, wp_intI, wp_intB, wp_absI, wp_srcT, wp_r2, wp_isi, asg_one, asg_two, wp_srcST, isTy_bb, wipe_nil, wipe_cons, at0, at1, ix0, ix1]
        refine ⟨true, rfl, ?_⟩
        rw [if_neg (by decide)]
        refine wp_loopG (a := []) (f := D.int) (g := fun _ : Int => some (D.bl false)) (fun _ _ => trivial) p (fun b _ m2 g2 => ?_) (fun m2 g2 => ?_)
        · simp only [wp_bd, wp_ret, wp_nope, wp_chk, wp_some, wp_ite, wp_tru, wpF_bs, wpF_nx, wpF_rt, wpF_bk, wpF_ct, wpF_ite, thenF_nx, thenF_rt, thenF_bk, thenF_ct, wpF_nil, wpF_cons, endF_nx, endF_rt, exe, ev, evs, evI, varM, List.getElem?_cons_zero, List.getElem?_cons_succ, List.set_cons_zero, List.set_cons_succ, Bool.false_eq_true, if_true, if_false, ite_true, ite_false, reduceIte, Option.some.injEq, exists_eq_left', exists_eq_left, wp_ixR, ixW_l, ixW_f, wp_ixT, wp_lenR, lenW_l, lenW_f, wp_lenT, wp_tupR, lsW_l, lsW_f, wp_tupT, wp_listT, wp_cmp, cmp_lt, cmp_le, cmp_gt, cmp_ge, cmp_eq, cmp_ne, eqD_int, eqD_bl, cmp_is, cmp_isn, dIs_bl, dIs_tn, dIs_nn, opt_map, decide_eq_true_eq, wp_mod, wp_fdiv, wp_pow, wp_add, wp_sub, wp_mul, wp_mulTI, wp_addT, wp_neg, wp_slT, wp_slR, slW, wp_isLst, lW_l, wp_app, wp_popAt, wp_setR, setW_l, partO, Bool.not_true, Bool.not_false, wp_minI, wp_maxI, wp_intI, wp_intB, wp_absI, wp_srcT, wp_r2, wp_isi, asg_one, asg_two, wp_srcST, isTy_bb, wipe_nil, wipe_cons, at0, at1, ix0, ix1]
          exact ⟨false, rfl, rfl, .refl⟩
        rw [fmS]
        refine wp_new fun l m3 g3 e3 a3 b3 c3 => ?_
        simp only [cmp_in, dIn_l e3, inL_bt, wp_bd, wp_ret, wp_nope, wp_chk, wp_some, wp_ite, wp_tru, wpF_bs, wpF_nx, wpF_rt, wpF_bk, wpF_ct, wpF_ite, thenF_nx, thenF_rt, thenF_bk, thenF_ct, wpF_nil, wpF_cons, endF_nx, endF_rt, exe, ev, evs, evI, varM, List.getElem?_cons_zero, List.getElem?_cons_succ, List.set_cons_zero, List.set_cons_succ, Bool.false_eq_true, if_true, if_false, ite_true, ite_false, reduceIte, Option.some.injEq, exists_eq_left', exists_eq_left, wp_ixR, ixW_l, ixW_f, wp_ixT, wp_lenR, lenW_l, lenW_f, wp_lenT, wp_tupR, lsW_l, lsW_f, wp_tupT, wp_listT, wp_cmp, cmp_lt, cmp_le, cmp_gt, cmp_ge, cmp_eq, cmp_ne, eqD_int, eqD_bl, cmp_is, cmp_isn, dIs_bl, dIs_tn, dIs_nn, opt_map, decide_eq_true_eq, wp_mod, wp_fdiv, wp_pow, wp_add, wp_sub, wp_mul, wp_mulTI, wp_addT, wp_neg, wp_slT, wp_slR, slW, wp_isLst, lW_l, wp_app, wp_popAt, wp_setR, setW_l, partO, Bool.not_true, Bool.not_false, wp_minI, wp_maxI, wp_intI, wp_intB, wp_absI, wp_srcT, wp_r2, wp_isi, asg_one, asg_two, wp_srcST, isTy_bb, wipe_nil, wipe_cons, at0, at1, ix0, ix1]
        exact ⟨rest, _, _, _, _, rfl, rfl, g.trans (g2.trans g3)⟩
    · obtain ⟨rest, b1, b2, b3, b4, q1, rfl, g⟩ := hJ
      simp only [ss_lk_formed_4, wp_bd, wp_ret, wp_nope, wp_chk, wp_some, wp_ite, wp_tru, wpF_bs, wpF_nx, wpF_rt, wpF_bk, wpF_ct, wpF_ite, thenF_nx, thenF_rt, thenF_bk, thenF_ct, wpF_nil, wpF_cons, endF_nx, endF_rt, exe, ev, evs, evI, varM, List.getElem?_cons_zero, List.getElem?_cons_succ, List.set_cons_zero, List.set_cons_succ, Bool.false_eq_true, if_true, if_false, ite_true, ite_false, reduceIte, Option.some.injEq, exists_eq_left', exists_eq_left, wp_ixR, ixW_l, ixW_f, wp_ixT, wp_lenR, lenW_l, lenW_f, wp_lenT, wp_tupR, lsW_l, lsW_f, wp_tupT, wp_listT, wp_cmp, cmp_lt, cmp_le, cmp_gt, cmp_ge, cmp_eq, cmp_ne, eqD_int, eqD_bl, cmp_is, cmp_isn, dIs_bl, dIs_tn, dIs_nn, opt_map, decide_eq_true_eq, wp_mod, wp_fdiv, wp_pow, wp_add, wp_sub, wp_mul, wp_mulTI, wp_addT, wp_neg, wp_slT, wp_slR, slW, wp_isLst, lW_l, wp_app, wp_popAt, wp_setR, setW_l, partO, Bool.not_true, Bool.not_false, wp_minI, wp_maxI, wp_intI, wp_intB, wp_absI, wp_srcT, wp_r2, wp_isi, asg_one, asg_two, wp_srcST, isTy_bb, wipe_nil, wipe_cons, at0, at1, ix0, ix1]
      exact ⟨trivial, g⟩
theorem eqD_same {a b : D} {x : PyData} (ha : pd m 20 a = some x) (hb : pd m 20 b = some x) (hs : ∀ p q, ¬ (a = .str p ∧ b = .str q)) : eqD m a b = some true := by
  have e : eqD m a b = (match pd m 20 a, pd m 20 b with
    | some a, some b => some (PyData.eqv a b)
    | _, _ => none) := by
    unfold eqD
    split
    · rename_i p q
      exact absurd ⟨rfl, rfl⟩ (hs p q)
    · rfl
  rw [e, ha, hb]
  dsimp only
  rw [PySem.SeqAt.eqv_refl_plain x (pd_plain _ _ _ ha)]
theorem sp_pd {P : List Prt} {rs : List (List Int)} : ∃ x, pd m 20 (.tup [.tup (P.map ptD), .tup (rs.map lsD)]) = some x := by
  have h1 : ∃ ys, mapO (pd m 18) (P.map ptD) = some ys := mapO_all fun x hx => by
    obtain ⟨p, _, rfl⟩ := List.mem_map.mp hx
    obtain ⟨ys, e⟩ := mapO_all (f := pd m 16) (xs := p.2.map D.bl) fun y hy => by
      obtain ⟨b, _, rfl⟩ := List.mem_map.mp hy
      exact ⟨_, rfl⟩
    obtain ⟨zs, e2⟩ := mapO_all (f := pd m 17) (xs := [.int p.1, .tup (p.2.map D.bl)]) fun y hy => by
      simp only [List.mem_cons, List.not_mem_nil, or_false] at hy
      rcases hy with rfl | rfl
      · exact ⟨_, rfl⟩
      · exact ⟨_, by rw [pd_t, e]; rfl⟩
    refine ⟨.tuple zs, ?_⟩
    show pd m 18 (.tup [.int p.1, .tup (p.2.map D.bl)]) = _
    rw [pd_t, e2]
    rfl
  have h2 : ∃ ys, mapO (pd m 18) (rs.map lsD) = some ys := mapO_all fun x hx => by
    obtain ⟨p, _, rfl⟩ := List.mem_map.mp hx
    obtain ⟨ys, e⟩ := mapO_all (f := pd m 17) (xs := p.map D.int) fun y hy => by
      obtain ⟨b, _, rfl⟩ := List.mem_map.mp hy
      exact ⟨_, rfl⟩
    exact ⟨.tuple ys, by show pd m 18 (.tup (p.map D.int)) = _; rw [pd_t, e]; rfl⟩
  obtain ⟨y1, e1⟩ := h1
  obtain ⟨y2, e2⟩ := h2
  obtain ⟨ys, e⟩ := mapO_all (f := pd m 19) (xs := [.tup (P.map ptD), .tup (rs.map lsD)]) fun x hx => by
    simp only [List.mem_cons, List.not_mem_nil, or_false] at hx
    rcases hx with rfl | rfl
    · exact ⟨_, by rw [pd_t, e1]; rfl⟩
    · exact ⟨_, by rw [pd_t, e2]; rfl⟩
  exact ⟨_, by rw [pd_t, e]; rfl⟩
theorem law_ok {ns : List Int} : wp (run tb w (n + 40) "law" [.ref 0]) [.fls (ns.map D.int)] fun v m' => v = .bl true := by
  have big := big_line
  refine wp_run tlw rfl ?_
  show wpF (exes _ _ fn_law.body [some (.ref 0), none, none, none, none, none]) _ _
  simp only [fn_law, ss_law_0, wp_bd, wp_ret, wp_nope, wp_chk, wp_some, wp_ite, wp_tru, wpF_bs, wpF_nx, wpF_rt, wpF_bk, wpF_ct, wpF_ite, thenF_nx, thenF_rt, thenF_bk, thenF_ct, wpF_nil, wpF_cons, endF_nx, endF_rt, exe, ev, evs, evI, varM, List.getElem?_cons_zero, List.getElem?_cons_succ, List.set_cons_zero, List.set_cons_succ, Bool.false_eq_true, if_true, if_false, ite_true, ite_false, reduceIte, Option.some.injEq, exists_eq_left', exists_eq_left, wp_ixR, ixW_l, ixW_f, wp_ixT, wp_lenR, lenW_l, lenW_f, wp_lenT, wp_tupR, lsW_l, lsW_f, wp_tupT, wp_listT, wp_cmp, cmp_lt, cmp_le, cmp_gt, cmp_ge, cmp_eq, cmp_ne, eqD_int, eqD_bl, cmp_is, cmp_isn, dIs_bl, dIs_tn, dIs_nn, opt_map, decide_eq_true_eq, wp_mod, wp_fdiv, wp_pow, wp_add, wp_sub, wp_mul, wp_mulTI, wp_addT, wp_neg, wp_slT, wp_slR, slW, wp_isLst, lW_l, wp_app, wp_popAt, wp_setR, setW_l, partO, Bool.not_true, Bool.not_false, wp_minI, wp_maxI, wp_intI, wp_intB, wp_absI, wp_srcT, wp_r2, wp_isi, asg_one, asg_two, wp_srcST, isTy_bb, wipe_nil, wipe_cons, at0, at1, ix0, ix1]
  refine ⟨by decide, ?_⟩
  rw [show ((2 : Int) - 0).toNat = 2 by rfl, rg_start]
  refine wpF_loop (a := []) (J := fun xs ρ m' => ∃ (j : Nat) (b1 b2 b3 b4 b5 : Option D), xs = ((List.range 2).drop j).map rgD ∧ ρ = [some (.ref 0), b1, b2, b3, b4, b5] ∧ m'[0]? = some (.fls (ns.map D.int))) (fun _ _ _ _ => trivial) (fun x xs ρ m hJ => ?_) (fun ρ m hJ => ?_) _ _ _
    ⟨0, _, _, _, _, _, rfl, rfl, rfl⟩
  · obtain ⟨j, b1, b2, b3, b4, b5, ex, rfl, h0⟩ := hJ
    obtain ⟨jm, rfl, rfl⟩ := rg_drop ex
    have em : rgD j = D.int ((j : Nat) : Int) := by
      show D.int _ = D.int _
      congr 1
      omega
    rw [em]
    simp only [ss_law_0b_0, wp_bd, wp_ret, wp_nope, wp_chk, wp_some, wp_ite, wp_tru, wpF_bs, wpF_nx, wpF_rt, wpF_bk, wpF_ct, wpF_ite, thenF_nx, thenF_rt, thenF_bk, thenF_ct, wpF_nil, wpF_cons, endF_nx, endF_rt, exe, ev, evs, evI, varM, List.getElem?_cons_zero, List.getElem?_cons_succ, List.set_cons_zero, List.set_cons_succ, Bool.false_eq_true, if_true, if_false, ite_true, ite_false, reduceIte, Option.some.injEq, exists_eq_left', exists_eq_left, wp_ixR, ixW_l, ixW_f, wp_ixT, wp_lenR, lenW_l, lenW_f, wp_lenT, wp_tupR, lsW_l, lsW_f, wp_tupT, wp_listT, wp_cmp, cmp_lt, cmp_le, cmp_gt, cmp_ge, cmp_eq, cmp_ne, eqD_int, eqD_bl, cmp_is, cmp_isn, dIs_bl, dIs_tn, dIs_nn, opt_map, decide_eq_true_eq, wp_mod, wp_fdiv, wp_pow, wp_add, wp_sub, wp_mul, wp_mulTI, wp_addT, wp_neg, wp_slT, wp_slR, slW, wp_isLst, lW_l, wp_app, wp_popAt, wp_setR, setW_l, partO, Bool.not_true, Bool.not_false, wp_minI, wp_maxI, wp_intI, wp_intB, wp_absI, wp_srcT, wp_r2, wp_isi, asg_one, asg_two, wp_srcST, isTy_bb, wipe_nil, wipe_cons, at0, at1, ix0, ix1, h0, cut_map]
    generalize cut ns (some (5 * (j : Int))) none = ms
    refine ⟨.inl (by decide), wp_new fun sl m1 g1 e1 a1 b1 c1 => ?_⟩
    simp only [wp_bd, wp_ret, wp_nope, wp_chk, wp_some, wp_ite, wp_tru, wpF_bs, wpF_nx, wpF_rt, wpF_bk, wpF_ct, wpF_ite, thenF_nx, thenF_rt, thenF_bk, thenF_ct, wpF_nil, wpF_cons, endF_nx, endF_rt, exe, ev, evs, evI, varM, List.getElem?_cons_zero, List.getElem?_cons_succ, List.set_cons_zero, List.set_cons_succ, Bool.false_eq_true, if_true, if_false, ite_true, ite_false, reduceIte, Option.some.injEq, exists_eq_left', exists_eq_left, wp_ixR, ixW_l, ixW_f, wp_ixT, wp_lenR, lenW_l, lenW_f, wp_lenT, wp_tupR, lsW_l, lsW_f, wp_tupT, wp_listT, wp_cmp, cmp_lt, cmp_le, cmp_gt, cmp_ge, cmp_eq, cmp_ne, eqD_int, eqD_bl, cmp_is, cmp_isn, dIs_bl, dIs_tn, dIs_nn, opt_map, decide_eq_true_eq, wp_mod, wp_fdiv, wp_pow, wp_add, wp_sub, wp_mul, wp_mulTI, wp_addT, wp_neg, wp_slT, wp_slR, slW, wp_isLst, lW_l, wp_app, wp_popAt, wp_setR, setW_l, partO, Bool.not_true, Bool.not_false, wp_minI, wp_maxI, wp_intI, wp_intB, wp_absI, wp_srcT, wp_r2, wp_isi, asg_one, asg_two, wp_srcST, isTy_bb, wipe_nil, wipe_cons, at0, at1, ix0, ix1, List.length_cons, List.length_nil]
    refine ⟨by decide, wp_new fun ml m2 g2 e2 a2 b2 c2 => ?_⟩
    obtain ⟨most, eM, l2, l8⟩ : ∃ most : Nat, L2.atI [D.int 8, D.int 6] (j : Int) = some (.int most) ∧ 2 ≤ most ∧ most ≤ 8 := by
      have : j = 0 ∨ j = 1 := by omega
      rcases this with rfl | rfl
      · exact ⟨8, rfl, by decide, by decide⟩
      · exact ⟨6, rfl, by decide, by decide⟩
    simp only [wp_bd, wp_ret, wp_nope, wp_chk, wp_some, wp_ite, wp_tru, wpF_bs, wpF_nx, wpF_rt, wpF_bk, wpF_ct, wpF_ite, thenF_nx, thenF_rt, thenF_bk, thenF_ct, wpF_nil, wpF_cons, endF_nx, endF_rt, exe, ev, evs, evI, varM, List.getElem?_cons_zero, List.getElem?_cons_succ, List.set_cons_zero, List.set_cons_succ, Bool.false_eq_true, if_true, if_false, ite_true, ite_false, reduceIte, Option.some.injEq, exists_eq_left', exists_eq_left, wp_ixR, ixW_l, ixW_f, wp_ixT, wp_lenR, lenW_l, lenW_f, wp_lenT, wp_tupR, lsW_l, lsW_f, wp_tupT, wp_listT, wp_cmp, cmp_lt, cmp_le, cmp_gt, cmp_ge, cmp_eq, cmp_ne, eqD_int, eqD_bl, cmp_is, cmp_isn, dIs_bl, dIs_tn, dIs_nn, opt_map, decide_eq_true_eq, wp_mod, wp_fdiv, wp_pow, wp_add, wp_sub, wp_mul, wp_mulTI, wp_addT, wp_neg, wp_slT, wp_slR, slW, wp_isLst, lW_l, wp_app, wp_popAt, wp_setR, setW_l, partO, Bool.not_true, Bool.not_false, wp_minI, wp_maxI, wp_intI, wp_intB, wp_absI, wp_srcT, wp_r2, wp_isi, asg_one, asg_two, wp_srcST, isTy_bb, wipe_nil, wipe_cons, at0, at1, ix0, ix1, e2, eM]
    refine wp_mono (lk_claim_ok (n := n + 34) (most := most) dgc (lstAt_l (g2.get e1)) l2 l8) fun v m3 ⟨hc, g3⟩ => ?_
    have h3 := g3.get (g2.get (g1.get h0))
    simp only [ss_law_0b_1, wp_bd, wp_ret, wp_nope, wp_chk, wp_some, wp_ite, wp_tru, wpF_bs, wpF_nx, wpF_rt, wpF_bk, wpF_ct, wpF_ite, thenF_nx, thenF_rt, thenF_bk, thenF_ct, wpF_nil, wpF_cons, endF_nx, endF_rt, exe, ev, evs, evI, varM, List.getElem?_cons_zero, List.getElem?_cons_succ, List.set_cons_zero, List.set_cons_succ, Bool.false_eq_true, if_true, if_false, ite_true, ite_false, reduceIte, Option.some.injEq, exists_eq_left', exists_eq_left, wp_ixR, ixW_l, ixW_f, wp_ixT, wp_lenR, lenW_l, lenW_f, wp_lenT, wp_tupR, lsW_l, lsW_f, wp_tupT, wp_listT, wp_cmp, cmp_lt, cmp_le, cmp_gt, cmp_ge, cmp_eq, cmp_ne, eqD_int, eqD_bl, cmp_is, cmp_isn, dIs_bl, dIs_tn, dIs_nn, opt_map, decide_eq_true_eq, wp_mod, wp_fdiv, wp_pow, wp_add, wp_sub, wp_mul, wp_mulTI, wp_addT, wp_neg, wp_slT, wp_slR, slW, wp_isLst, lW_l, wp_app, wp_popAt, wp_setR, setW_l, partO, Bool.not_true, Bool.not_false, wp_minI, wp_maxI, wp_intI, wp_intB, wp_absI, wp_srcT, wp_r2, wp_isi, asg_one, asg_two, wp_srcST, isTy_bb, wipe_nil, wipe_cons, at0, at1, ix0, ix1]
    refine wp_mono (at_ok (n := n + 38) dgc.toDgs (lstAt_f h3) (k := 3 + j) (by omega)) fun v4 m4 ⟨⟨z, e⟩, em⟩ => ?_
    subst e em
    refine wp_mono (digits_ok (n := n + 37) dgc.toDgs (many := 32) (by omega)) fun v4 m4 ⟨a, ds, e, e4, hl, hd, g4, a4'⟩ => ?_
    subst e
    obtain ⟨z31, ez31, d31⟩ := dig_at (i := 31) (by omega) (by omega) hd
    simp only [wp_bd, wp_ret, wp_nope, wp_chk, wp_some, wp_ite, wp_tru, wpF_bs, wpF_nx, wpF_rt, wpF_bk, wpF_ct, wpF_ite, thenF_nx, thenF_rt, thenF_bk, thenF_ct, wpF_nil, wpF_cons, endF_nx, endF_rt, exe, ev, evs, evI, varM, List.getElem?_cons_zero, List.getElem?_cons_succ, List.set_cons_zero, List.set_cons_succ, Bool.false_eq_true, if_true, if_false, ite_true, ite_false, reduceIte, Option.some.injEq, exists_eq_left', exists_eq_left, wp_ixR, ixW_l, ixW_f, wp_ixT, wp_lenR, lenW_l, lenW_f, wp_lenT, wp_tupR, lsW_l, lsW_f, wp_tupT, wp_listT, wp_cmp, cmp_lt, cmp_le, cmp_gt, cmp_ge, cmp_eq, cmp_ne, eqD_int, eqD_bl, cmp_is, cmp_isn, dIs_bl, dIs_tn, dIs_nn, opt_map, decide_eq_true_eq, wp_mod, wp_fdiv, wp_pow, wp_add, wp_sub, wp_mul, wp_mulTI, wp_addT, wp_neg, wp_slT, wp_slR, slW, wp_isLst, lW_l, wp_app, wp_popAt, wp_setR, setW_l, partO, Bool.not_true, Bool.not_false, wp_minI, wp_maxI, wp_intI, wp_intB, wp_absI, wp_srcT, wp_r2, wp_isi, asg_one, asg_two, wp_srcST, isTy_bb, wipe_nil, wipe_cons, at0, at1, ix0, ix1, e4, ez31]
    refine wp_mono (lk_many_rows5_ok (n := n + 38) (most := most) (rows := 20) tlm d31.1 (by omega) hc) fun v5 m5 ⟨⟨kb, rss, e, hk, hn, h5, hr⟩, g5⟩ => ?_
    subst e
    simp only [ss_law_0b_2, wp_bd, wp_ret, wp_nope, wp_chk, wp_some, wp_ite, wp_tru, wpF_bs, wpF_nx, wpF_rt, wpF_bk, wpF_ct, wpF_ite, thenF_nx, thenF_rt, thenF_bk, thenF_ct, wpF_nil, wpF_cons, endF_nx, endF_rt, exe, ev, evs, evI, varM, List.getElem?_cons_zero, List.getElem?_cons_succ, List.set_cons_zero, List.set_cons_succ, Bool.false_eq_true, if_true, if_false, ite_true, ite_false, reduceIte, Option.some.injEq, exists_eq_left', exists_eq_left, wp_ixR, ixW_l, ixW_f, wp_ixT, wp_lenR, lenW_l, lenW_f, wp_lenT, wp_tupR, lsW_l, lsW_f, wp_tupT, wp_listT, wp_cmp, cmp_lt, cmp_le, cmp_gt, cmp_ge, cmp_eq, cmp_ne, eqD_int, eqD_bl, cmp_is, cmp_isn, dIs_bl, dIs_tn, dIs_nn, opt_map, decide_eq_true_eq, wp_mod, wp_fdiv, wp_pow, wp_add, wp_sub, wp_mul, wp_mulTI, wp_addT, wp_neg, wp_slT, wp_slR, slW, wp_isLst, lW_l, wp_app, wp_popAt, wp_setR, setW_l, partO, Bool.not_true, Bool.not_false, wp_minI, wp_maxI, wp_intI, wp_intB, wp_absI, wp_srcT, wp_r2, wp_isi, asg_one, asg_two, wp_srcST, isTy_bb, wipe_nil, wipe_cons, at0, at1, ix0, ix1]
    refine wp_mono (lk_spread_ok (n := n + 36) (kb := kb) (by omega) hr (by omega)) fun v6 m6 ⟨⟨ks, e, hm, hnd⟩, g6⟩ => ?_
    subst e
    have h6 := g6.get (g5.get (g4.get h3))
    simp only [ss_law_0b_3, wp_bd, wp_ret, wp_nope, wp_chk, wp_some, wp_ite, wp_tru, wpF_bs, wpF_nx, wpF_rt, wpF_bk, wpF_ct, wpF_ite, thenF_nx, thenF_rt, thenF_bk, thenF_ct, wpF_nil, wpF_cons, endF_nx, endF_rt, exe, ev, evs, evI, varM, List.getElem?_cons_zero, List.getElem?_cons_succ, List.set_cons_zero, List.set_cons_succ, Bool.false_eq_true, if_true, if_false, ite_true, ite_false, reduceIte, Option.some.injEq, exists_eq_left', exists_eq_left, wp_ixR, ixW_l, ixW_f, wp_ixT, wp_lenR, lenW_l, lenW_f, wp_lenT, wp_tupR, lsW_l, lsW_f, wp_tupT, wp_listT, wp_cmp, cmp_lt, cmp_le, cmp_gt, cmp_ge, cmp_eq, cmp_ne, eqD_int, eqD_bl, cmp_is, cmp_isn, dIs_bl, dIs_tn, dIs_nn, opt_map, decide_eq_true_eq, wp_mod, wp_fdiv, wp_pow, wp_add, wp_sub, wp_mul, wp_mulTI, wp_addT, wp_neg, wp_slT, wp_slR, slW, wp_isLst, lW_l, wp_app, wp_popAt, wp_setR, setW_l, partO, Bool.not_true, Bool.not_false, wp_minI, wp_maxI, wp_intI, wp_intB, wp_absI, wp_srcT, wp_r2, wp_isi, asg_one, asg_two, wp_srcST, isTy_bb, wipe_nil, wipe_cons, at0, at1, ix0, ix1]
    refine ⟨by decide, ?_⟩
    rw [show ((2 : Int) - 0).toNat = 2 by rfl, rg_start]
    refine wpF_loop (a := []) (J := fun xs ρ m' => ∃ (i : Nat) (b4 b5 : Option D), xs = ((List.range 2).drop i).map rgD ∧ ρ = [some (.ref 0), some (.int j), some (clD (kb.map kD) rss), some (.tup [.tup ((partsL kb).map ptD), .tup ((srtR ks).map lsD)]), b4, b5] ∧ m'[0]? = some (.fls (ns.map D.int))) (fun _ _ _ _ => trivial) (fun x xs ρ m hJ => ?_) (fun ρ m hJ => ?_) _ _ _
      ⟨0, _, _, rfl, rfl, h6⟩
    · obtain ⟨i, b4, b5, ex, rfl, h0⟩ := hJ
      obtain ⟨im, rfl, rfl⟩ := rg_drop ex
      simp only [ss_law_0b_3b_0, wp_bd, wp_ret, wp_nope, wp_chk, wp_some, wp_ite, wp_tru, wpF_bs, wpF_nx, wpF_rt, wpF_bk, wpF_ct, wpF_ite, thenF_nx, thenF_rt, thenF_bk, thenF_ct, wpF_nil, wpF_cons, endF_nx, endF_rt, exe, ev, evs, evI, varM, List.getElem?_cons_zero, List.getElem?_cons_succ, List.set_cons_zero, List.set_cons_succ, Bool.false_eq_true, if_true, if_false, ite_true, ite_false, reduceIte, Option.some.injEq, exists_eq_left', exists_eq_left, wp_ixR, ixW_l, ixW_f, wp_ixT, wp_lenR, lenW_l, lenW_f, wp_lenT, wp_tupR, lsW_l, lsW_f, wp_tupT, wp_listT, wp_cmp, cmp_lt, cmp_le, cmp_gt, cmp_ge, cmp_eq, cmp_ne, eqD_int, eqD_bl, cmp_is, cmp_isn, dIs_bl, dIs_tn, dIs_nn, opt_map, decide_eq_true_eq, wp_mod, wp_fdiv, wp_pow, wp_add, wp_sub, wp_mul, wp_mulTI, wp_addT, wp_neg, wp_slT, wp_slR, slW, wp_isLst, lW_l, wp_app, wp_popAt, wp_setR, setW_l, partO, Bool.not_true, Bool.not_false, wp_minI, wp_maxI, wp_intI, wp_intB, wp_absI, wp_srcT, wp_r2, wp_isi, asg_one, asg_two, wp_srcST, isTy_bb, wipe_nil, wipe_cons, at0, at1, ix0, ix1]
      refine wp_mono (spread_ok (n := n + 36) (kb := kb) spr (by omega) hr (by omega)) fun v7 m7 ⟨⟨xs', e, hx, ks', hnd', ex'⟩, g7⟩ => ?_
      subst e ex'
      rw [srtR_same hnd' hnd fun x => by rw [hm, ← hx, (srtR_perm ks').mem_iff]]
      simp only [ss_law_0b_3b_1, wp_bd, wp_ret, wp_nope, wp_chk, wp_some, wp_ite, wp_tru, wpF_bs, wpF_nx, wpF_rt, wpF_bk, wpF_ct, wpF_ite, thenF_nx, thenF_rt, thenF_bk, thenF_ct, wpF_nil, wpF_cons, endF_nx, endF_rt, exe, ev, evs, evI, varM, List.getElem?_cons_zero, List.getElem?_cons_succ, List.set_cons_zero, List.set_cons_succ, Bool.false_eq_true, if_true, if_false, ite_true, ite_false, reduceIte, Option.some.injEq, exists_eq_left', exists_eq_left, wp_ixR, ixW_l, ixW_f, wp_ixT, wp_lenR, lenW_l, lenW_f, wp_lenT, wp_tupR, lsW_l, lsW_f, wp_tupT, wp_listT, wp_cmp, cmp_lt, cmp_le, cmp_gt, cmp_ge, cmp_eq, cmp_ne, eqD_int, eqD_bl, cmp_is, cmp_isn, dIs_bl, dIs_tn, dIs_nn, opt_map, decide_eq_true_eq, wp_mod, wp_fdiv, wp_pow, wp_add, wp_sub, wp_mul, wp_mulTI, wp_addT, wp_neg, wp_slT, wp_slR, slW, wp_isLst, lW_l, wp_app, wp_popAt, wp_setR, setW_l, partO, Bool.not_true, Bool.not_false, wp_minI, wp_maxI, wp_intI, wp_intB, wp_absI, wp_srcT, wp_r2, wp_isi, asg_one, asg_two, wp_srcST, isTy_bb, wipe_nil, wipe_cons, at0, at1, ix0, ix1]
      refine wp_mono (lk_formed_ok (n := n + 38)) fun v8 m8 ⟨e, g8⟩ => ?_
      subst e
      obtain ⟨x, epd⟩ := sp_pd (m := m8) (P := partsL kb) (rs := srtR ks)
      simp only [eqD_same epd epd (fun p q h => by cases h.1), Option.map_some, Option.some.injEq, exists_eq_left', wp_bd, wp_ret, wp_nope, wp_chk, wp_some, wp_ite, wp_tru, wpF_bs, wpF_nx, wpF_rt, wpF_bk, wpF_ct, wpF_ite, thenF_nx, thenF_rt, thenF_bk, thenF_ct, wpF_nil, wpF_cons, endF_nx, endF_rt, exe, ev, evs, evI, varM, List.getElem?_cons_zero, List.getElem?_cons_succ, List.set_cons_zero, List.set_cons_succ, Bool.false_eq_true, if_true, if_false, ite_true, ite_false, reduceIte, Option.some.injEq, exists_eq_left', exists_eq_left, wp_ixR, ixW_l, ixW_f, wp_ixT, wp_lenR, lenW_l, lenW_f, wp_lenT, wp_tupR, lsW_l, lsW_f, wp_tupT, wp_listT, wp_cmp, cmp_lt, cmp_le, cmp_gt, cmp_ge, cmp_eq, cmp_ne, eqD_int, eqD_bl, cmp_is, cmp_isn, dIs_bl, dIs_tn, dIs_nn, opt_map, decide_eq_true_eq, wp_mod, wp_fdiv, wp_pow, wp_add, wp_sub, wp_mul, wp_mulTI, wp_addT, wp_neg, wp_slT, wp_slR, slW, wp_isLst, lW_l, wp_app, wp_popAt, wp_setR, setW_l, partO, Bool.not_true, Bool.not_false, wp_minI, wp_maxI, wp_intI, wp_intB, wp_absI, wp_srcT, wp_r2, wp_isi, asg_one, asg_two, wp_srcST, isTy_bb, wipe_nil, wipe_cons, at0, at1, ix0, ix1]
      refine ⟨i + 1, _, _, rfl, rfl, g8.get (g7.get h0)⟩
    · obtain ⟨i, b4, b5, ex, rfl, h0⟩ := hJ
      simp only [wp_bd, wp_ret, wp_nope, wp_chk, wp_some, wp_ite, wp_tru, wpF_bs, wpF_nx, wpF_rt, wpF_bk, wpF_ct, wpF_ite, thenF_nx, thenF_rt, thenF_bk, thenF_ct, wpF_nil, wpF_cons, endF_nx, endF_rt, exe, ev, evs, evI, varM, List.getElem?_cons_zero, List.getElem?_cons_succ, List.set_cons_zero, List.set_cons_succ, Bool.false_eq_true, if_true, if_false, ite_true, ite_false, reduceIte, Option.some.injEq, exists_eq_left', exists_eq_left, wp_ixR, ixW_l, ixW_f, wp_ixT, wp_lenR, lenW_l, lenW_f, wp_lenT, wp_tupR, lsW_l, lsW_f, wp_tupT, wp_listT, wp_cmp, cmp_lt, cmp_le, cmp_gt, cmp_ge, cmp_eq, cmp_ne, eqD_int, eqD_bl, cmp_is, cmp_isn, dIs_bl, dIs_tn, dIs_nn, opt_map, decide_eq_true_eq, wp_mod, wp_fdiv, wp_pow, wp_add, wp_sub, wp_mul, wp_mulTI, wp_addT, wp_neg, wp_slT, wp_slR, slW, wp_isLst, lW_l, wp_app, wp_popAt, wp_setR, setW_l, partO, Bool.not_true, Bool.not_false, wp_minI, wp_maxI, wp_intI, wp_intB, wp_absI, wp_srcT, wp_r2, wp_isi, asg_one, asg_two, wp_srcST, isTy_bb, wipe_nil, wipe_cons, at0, at1, ix0, ix1]
      exact ⟨j + 1, _, _, _, _, _, rfl, rfl, h0⟩
  · obtain ⟨j, b1, b2, b3, b4, b5, ex, rfl, h0⟩ := hJ
    simp only [ss_law_1, wp_bd, wp_ret, wp_nope, wp_chk, wp_some, wp_ite, wp_tru, wpF_bs, wpF_nx, wpF_rt, wpF_bk, wpF_ct, wpF_ite, thenF_nx, thenF_rt, thenF_bk, thenF_ct, wpF_nil, wpF_cons, endF_nx, endF_rt, exe, ev, evs, evI, varM, List.getElem?_cons_zero, List.getElem?_cons_succ, List.set_cons_zero, List.set_cons_succ, Bool.false_eq_true, if_true, if_false, ite_true, ite_false, reduceIte, Option.some.injEq, exists_eq_left', exists_eq_left, wp_ixR, ixW_l, ixW_f, wp_ixT, wp_lenR, lenW_l, lenW_f, wp_lenT, wp_tupR, lsW_l, lsW_f, wp_tupT, wp_listT, wp_cmp, cmp_lt, cmp_le, cmp_gt, cmp_ge, cmp_eq, cmp_ne, eqD_int, eqD_bl, cmp_is, cmp_isn, dIs_bl, dIs_tn, dIs_nn, opt_map, decide_eq_true_eq, wp_mod, wp_fdiv, wp_pow, wp_add, wp_sub, wp_mul, wp_mulTI, wp_addT, wp_neg, wp_slT, wp_slR, slW, wp_isLst, lW_l, wp_app, wp_popAt, wp_setR, setW_l, partO, Bool.not_true, Bool.not_false, wp_minI, wp_maxI, wp_intI, wp_intB, wp_absI, wp_srcT, wp_r2, wp_isi, asg_one, asg_two, wp_srcST, isTy_bb, wipe_nil, wipe_cons, at0, at1, ix0, ix1]
    refine ⟨by decide, by decide, by decide, ?_⟩
    refine wp_mono (spread_ok (n := n + 36) (kb := []) (rss := []) (m := m) spr (by decide) (fun _ h => by cases h) (by decide)) fun v m7 ⟨⟨xs', e, hx, ks', hnd', ex'⟩, g7⟩ => ?_
    have z : xs' = [] := by
      cases xs' with
      | nil => rfl
      | cons x r =>
        obtain ⟨_, _, _, h, _⟩ := (hx x).mp List.mem_cons_self
        cases h
    subst e z
    obtain ⟨x, epd⟩ := sp_pd (m := m7) (P := partsL []) (rs := [])
    have q : eqD m7 (.tup [.tup ((partsL []).map ptD), .tup (([] : List (List Int)).map lsD)]) (.tup [.tup [], .tup []]) = some true := eqD_same epd epd (fun p q h => by cases h.1)
    refine ⟨by decide, by decide, by decide, ?_⟩
    simp only [q, Option.map_some, Option.some.injEq, exists_eq_left', wp_bd, wp_ret, wp_nope, wp_chk, wp_some, wp_ite, wp_tru, wpF_bs, wpF_nx, wpF_rt, wpF_bk, wpF_ct, wpF_ite, thenF_nx, thenF_rt, thenF_bk, thenF_ct, wpF_nil, wpF_cons, endF_nx, endF_rt, exe, ev, evs, evI, varM, List.getElem?_cons_zero, List.getElem?_cons_succ, List.set_cons_zero, List.set_cons_succ, Bool.false_eq_true, if_true, if_false, ite_true, ite_false, reduceIte, Option.some.injEq, exists_eq_left', exists_eq_left, wp_ixR, ixW_l, ixW_f, wp_ixT, wp_lenR, lenW_l, lenW_f, wp_lenT, wp_tupR, lsW_l, lsW_f, wp_tupT, wp_listT, wp_cmp, cmp_lt, cmp_le, cmp_gt, cmp_ge, cmp_eq, cmp_ne, eqD_int, eqD_bl, cmp_is, cmp_isn, dIs_bl, dIs_tn, dIs_nn, opt_map, decide_eq_true_eq, wp_mod, wp_fdiv, wp_pow, wp_add, wp_sub, wp_mul, wp_mulTI, wp_addT, wp_neg, wp_slT, wp_slR, slW, wp_isLst, lW_l, wp_app, wp_popAt, wp_setR, setW_l, partO, Bool.not_true, Bool.not_false, wp_minI, wp_maxI, wp_intI, wp_intB, wp_absI, wp_srcT, wp_r2, wp_isi, asg_one, asg_two, wp_srcST, isTy_bb, wipe_nil, wipe_cons, at0, at1, ix0, ix1]
    refine ⟨by decide, by decide, by decide, by decide, by decide, ?_⟩
    refine wp_mono (spread_ok (n := n + 36) (kb := [false]) (rss := [[1], []]) (m := m7) spr (by decide) (fun ls h => by
      simp only [List.mem_cons, List.not_mem_nil, or_false] at h
      rcases h with rfl | rfl
      · exact ⟨by simp, fun l hl => by
          rw [List.mem_singleton.mp hl]
          decide⟩
      · exact ⟨by simp, fun l hl => by cases hl⟩) (by decide)) fun v m8 ⟨⟨xs', e, hx, ks', hnd', ex'⟩, g8⟩ => ?_
    have z : xs' = [[]] := by
      rw [ex', srtR_same (b := [[]]) hnd' (by simp) fun x => ?_]
      · exact List.mergeSort_singleton _
      · rw [← (srtR_perm ks').mem_iff, ← ex', hx]
        constructor
        · rintro ⟨a, ha, row, hr, h⟩
          have ha : a = [false] ∨ a = [true] := by
            have : a ∈ [[false], [true]] := ha
            simpa using this
          have hr : row = [1] ∨ row = [] := by simpa using hr
          rcases ha with rfl | rfl <;> rcases hr with rfl | rfl
          · have : some [] = some x := h
            rw [← Option.some.inj this]
            simp
          · have : some [] = some x := h
            rw [← Option.some.inj this]
            simp
          · have : none = some x := h
            cases this
          · have : some [] = some x := h
            rw [← Option.some.inj this]
            simp
        · intro h
          rw [List.mem_singleton.mp h]
          exact ⟨[false], List.mem_cons_self, [1], List.mem_cons_self, rfl⟩
    subst e z
    obtain ⟨x, epd⟩ := sp_pd (m := m8) (P := partsL [false]) (rs := [[]])
    have q : eqD m8 (.tup [.tup ((partsL [false]).map ptD), .tup ([[]].map lsD)]) (.tup [.tup [], .tup [.tup []]]) = some true := eqD_same epd epd (fun p q h => by cases h.1)
    refine ⟨by decide, by decide, by decide, by decide, ?_⟩
    simp only [q, Option.map_some, Option.some.injEq, exists_eq_left', wp_bd, wp_ret, wp_nope, wp_chk, wp_some, wp_ite, wp_tru, wpF_bs, wpF_nx, wpF_rt, wpF_bk, wpF_ct, wpF_ite, thenF_nx, thenF_rt, thenF_bk, thenF_ct, wpF_nil, wpF_cons, endF_nx, endF_rt, exe, ev, evs, evI, varM, List.getElem?_cons_zero, List.getElem?_cons_succ, List.set_cons_zero, List.set_cons_succ, Bool.false_eq_true, if_true, if_false, ite_true, ite_false, reduceIte, Option.some.injEq, exists_eq_left', exists_eq_left, wp_ixR, ixW_l, ixW_f, wp_ixT, wp_lenR, lenW_l, lenW_f, wp_lenT, wp_tupR, lsW_l, lsW_f, wp_tupT, wp_listT, wp_cmp, cmp_lt, cmp_le, cmp_gt, cmp_ge, cmp_eq, cmp_ne, eqD_int, eqD_bl, cmp_is, cmp_isn, dIs_bl, dIs_tn, dIs_nn, opt_map, decide_eq_true_eq, wp_mod, wp_fdiv, wp_pow, wp_add, wp_sub, wp_mul, wp_mulTI, wp_addT, wp_neg, wp_slT, wp_slR, slW, wp_isLst, lW_l, wp_app, wp_popAt, wp_setR, setW_l, partO, Bool.not_true, Bool.not_false, wp_minI, wp_maxI, wp_intI, wp_intB, wp_absI, wp_srcT, wp_r2, wp_isi, asg_one, asg_two, wp_srcST, isTy_bb, wipe_nil, wipe_cons, at0, at1, ix0, ix1]
end
def turns : Nat := 1000
theorem law_true (ns : List Int) (h : ns.length ≤ 63) : ∃ m', run (tabC dfs cls_) turns 50 "law" [.ref 0] [.fls (ns.map D.int)] = .ok (.bl true) m' := by
  obtain ⟨v, m', e, rfl⟩ := law_ok (w := turns) (n := 10) (ns := ns)
  exact ⟨m', e⟩
end Af
namespace Af
open PySem PySem.Spec PyProof.Rows L2
abbrev R : PySem.W.OpenRow := PySem.W.OpenLaw.row PySem.Challenge.rw_allsome_k40_claims_spread
abbrev hk : PySem.W.Hook := hookN 4 (faOf dfs cls_ cons_) (dfs.map Df.d) ex_
def ob (s : PySem.W.SharedT) : AlN := obsN 4 (faOf dfs cls_ cons_) (dfs.map Df.d) ex_ (HandSHeadRun.getT s)
theorem ob_eq (s : PySem.W.SharedT) : ob s = hk.obs s.abs := obsN_eq (HandSHeadRun.getT_eq s)
theorem hrun (w : World) : HandSHeadRun.RunEq R (PySem.W.view R.prog [20]) hk ob 6000 ["choices", "ahead_of", "parts_of", "spread_row", "spread", "_law_mix", "_law_digits", "_law_at", "_law_kinds", "_law_row", "_law_claim", "_law_choices", "_law_ahead", "_law_parts", "_law_spread_row", "_law_spread", "_law_formed", "_law_many_rows"] w := by
  intro os
  kernel_rfl
end Af
open PySem PySem.W PySem.Calls PyProof.Rows
theorem PySem.Challenge.cw_allsome_k40_claims_spread_holds : PySem.Challenge.rw_allsome_k40_claims_spread.Holds := by
  w_on; o_law
  refine HandSHeadRun.head_any (r := OpenLaw.row PySem.Challenge.rw_allsome_k40_claims_spread) (q := view (OpenLaw.row PySem.Challenge.rw_allsome_k40_claims_spread).prog [20]) (H := Af.hk) (ob := Af.ob) (M := 6000) (loose := ["choices", "ahead_of", "parts_of", "spread_row", "spread", "_law_mix", "_law_digits", "_law_at", "_law_kinds", "_law_row", "_law_claim", "_law_choices", "_law_ahead", "_law_parts", "_law_spread_row", "_law_spread", "_law_formed", "_law_many_rows"]) (d := HandSHeadRun.topDef (OpenLaw.row PySem.Challenge.rw_allsome_k40_claims_spread).prog 20) (kwd := []) Af.ob_eq
    (by kernel_rfl) (fun s => by kernel_rfl) Af.hrun (by kernel_rfl) (by kernel_rfl) (by kernel_rfl) (by rfl) (by first | assumption | decide +kernel) (by decide +kernel) ⟨rfl, rfl, rfl, rfl, rfl, by decide +kernel⟩ ?hw ?hc
  case hw => w_witness2
  case hc =>
    have e : (HandSHeadRun.topDef (OpenLaw.row PySem.Challenge.rw_allsome_k40_claims_spread).prog 20).name = ("law" : PySem.Str) := by kernel_rfl
    refine Af.walk_G (L := PySem.Challenge.rw_allsome_k40_claims_spread) (n := 63) (k := 50) (w0 := Af.turns) (x := Af.df_law) (cl := Af.cls_) (con := Af.con_) (xn := Af.xn_) (cs := Af.cons_) (ex := Af.ex_) (p := "script") rfl (by decide) (by kernel_rfl) ⟨rfl, by decide, by decide⟩ (by rw [e]; rfl) rfl rfl (by rw [e]; rfl) Af.ok Af.con_ok Af.xn_ok (fun ns h => ?_)
    rw [e]
    exact Af.law_true ns h
