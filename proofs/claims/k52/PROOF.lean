import PyProof.Rows.All
import Wide.All
import OpenK.AllK
import Wide.FinOn
import HandS.ForMost
import HandS.ForExc
import HandS.IsInst
import HandS.TupAny
import HandS.Walk
import HandS.Zip
import HandS.Style
import HandS.Sort
import HandS.WordsExc
import HandS.Conv
import HandS.DictComp
import HandS.RaiseMore
import HandS.More
import HandS.Flt
import HandS.Lambda
import HandS.Deep
import KE.DataMinMax
import PyProof.Rows.RowBridgeK
import KE.SortData
import PyProof.ListStr
import PyProof.StrLawsLast
import HandS.ExcIs
import HandS.EndTab
import KE.GoesMore
import HandS.TryOnly
import HandS.SortKw
import KE.SortKeyHeap
import HandS.Small
import KE.KExcIs
import KE.KNestM
import PySem.Challenge.RW_panelpages_k52_bands_of_bubbles
set_option Elab.async false
set_option linter.all false
set_option maxRecDepth 100000
set_option maxHeartbeats 4000000
/-! DL, part a: plain data, the core language and what it computes. No Python, no heap. -/
namespace DL

/-- plain data -/
inductive D where
  | non
  | bl (b : Bool)
  | int (i : Int)
  | str (s : List Nat)
  | lst (xs : List D)
  | tup (xs : List D)
  | dct (ks vs : List D)
  | frl (xs : List D)
  deriving Inhabited

/-- what a name holds: nothing, data, or the k-th mutable thing -/
inductive Sl where
  | und
  | val (d : D)
  | cel (k : Nat)
  | xc (n : Nat) (row : Option Int)
  deriving Inhabited
/-- a mutable thing: handed over as data (gone), a list, a dict, a list of mutable things -/
inductive Ce where
  | gone
  | lst (xs : List D)
  | dct (ks vs : List D)
  | rls (ids : List Nat)
  deriving Inhabited
structure En where
  sl : List Sl
  cs : List Ce
/-- an exception: the place of its class, its row -/
structure Xn where
  nm : Nat
  row : Option Int := none
inductive Out (α : Type) where
  | ok (a : α) (e : En)
  | exc (x : Xn) (e : En)
  | stuck
def M (α : Type) : Type := En → Out α
inductive FOut where
  | ok (r : Sl) (cs : List Ce)
  | exc (x : Xn) (cs : List Ce)
  | stuck
abbrev Fn := List Sl → List Ce → FOut

section
variable {α β : Type}
@[reducible] def ret (a : α) : M α := fun e => .ok a e
def bnd (m : M α) (f : α → M β) : M β := fun e =>
  match m e with
  | .ok a e' => f a e'
  | .exc x e' => .exc x e'
  | .stuck => .stuck
@[reducible] def stk : M α := fun _ => .stuck
def req (b : Bool) (m : M α) : M α := fun e => match b with
  | true => m e
  | false => .stuck
end

/-- the greatest length -/
abbrev SZ : Nat := 16777216

mutual
def eqD : D → D → Bool
  | .non, .non => true
  | .bl a, .bl b => a == b
  | .bl a, .int b => (if a then 1 else 0) == b
  | .int a, .bl b => a == (if b then 1 else 0)
  | .int a, .int b => a == b
  | .str a, .str b => a == b
  | .lst a, .lst b => eqDs a b
  | .tup a, .tup b => eqDs a b
  | _, _ => false
def eqDs : List D → List D → Bool
  | [], [] => true
  | x :: xs, y :: ys => eqD x y && eqDs xs ys
  | _, _ => false
end
mutual
/-- how deep; 100 where a dict stands in it -/
def dep : D → Nat
  | .lst xs => 1 + deps xs
  | .tup xs => 1 + deps xs
  | .dct _ _ => 100
  | .frl _ => 100
  | .str s => if s.all (· < 1114112) then 0 else 100
  | _ => 0
def deps : List D → Nat
  | [] => 0
  | x :: xs => max (dep x) (deps xs)
end
mutual
/-- the very same data -/
def same : D → D → Bool
  | .non, .non => true
  | .bl a, .bl b => a == b
  | .int a, .int b => a == b
  | .str a, .str b => a == b
  | .lst a, .lst b => sames a b
  | .tup a, .tup b => sames a b
  | .dct a c, .dct b d => sames a b && sames c d
  | _, _ => false
def sames : List D → List D → Bool
  | [], [] => true
  | x :: xs, y :: ys => same x y && sames xs ys
  | _, _ => false
end
mutual
/-- x < y, of alike things -/
def ltD : D → D → Bool
  | .int a, .int b => decide (a < b)
  | .str a, .str b => decide (a < b)
  | .tup a, .tup b => ltDs a b
  | _, _ => false
def ltDs : List D → List D → Bool
  | [], [] => false
  | [], _ :: _ => true
  | _ :: _, [] => false
  | x :: xs, y :: ys => if eqD x y then ltDs xs ys else ltD x y
end
mutual
/-- ints, texts, tuples of such, place by place -/
def alkD : D → D → Bool
  | .int _, .int _ => true
  | .str _, .str _ => true
  | .tup a, .tup b => alkDs a b
  | _, _ => false
def alkDs : List D → List D → Bool
  | [], _ => true
  | _ :: _, [] => true
  | x :: xs, y :: ys => alkD x y && alkDs xs ys
end
def isTup1 : D → Bool
  | .tup (_ :: _) => true
  | _ => false
def notTupD : D → Bool
  | .int _ => true
  | .str _ => true
  | _ => false
/-- may be sorted -/
def srtOk (xs : List D) : Bool := xs.all (fun x => xs.all fun y => alkD x y) && (xs.all isTup1 || xs.all notTupD) && decide (deps xs ≤ 60) && decide (xs.length ≤ SZ)
/-- the first of the least -/
def minF (x : D) (xs : List D) : D := xs.foldl (fun a y => if ltD y a then y else a) x
def minT : List D → D
  | [] => .non
  | x :: xs => minF x xs
def leD (a b : D) : Bool := !ltD b a
def flatD : D → Bool
  | .non | .bl _ | .int _ | .str _ => true
  | _ => false
def isStrD : D → Bool
  | .str _ => true
  | _ => false
def keyD : D → Bool
  | .int _ | .str _ => true
  | _ => false
def isBl : D → Option Bool
  | .bl b => some b
  | _ => none
/-- d[k], what stands there -/
def lookD (k : D) : List D → List D → Option D
  | x :: ks, v :: vs => if eqD x k then some v else lookD k ks vs
  | _, _ => none
/-- the same entries, whatever their order: what stands under the keys of the first, flat data -/
def dctEq : List D → List D → List D → List D → Bool
  | [], [], _, _ => true
  | k :: ks, v :: vs, ls, ws => (match lookD k ls ws with
    | some w => same v w && flatD v
    | none => false) && keyD k && dctEq ks vs ls ws
  | _, _, _, _ => false
def isDct : D → Bool
  | .dct _ _ => true
  | _ => false

/-! ### names, cells -/
def rdOf (s : Sl) : M D := fun e =>
  match s with
  | .und => .stuck
  | .xc _ _ => .stuck
  | .val d => .ok d e
  | .cel k => match e.cs[k]? with
    | some (.lst xs) => .ok (.lst xs) e
    | some (.dct ks vs) => .ok (.dct ks vs) e
    | _ => .stuck
/-- the lists of a list of lists -/
def inner (cs : List Ce) : List Nat → Option (List D)
  | [] => some []
  | i :: r => match cs[i]?, inner cs r with
    | some (.lst xs), some l => some (.lst xs :: l)
    | _, _ => none
def gones (cs : List Ce) : List Nat → List Ce
  | [] => cs
  | i :: r => (gones cs r).set i .gone
/-- as data from now on -/
def dOf (s : Sl) : M D := fun e =>
  match s with
  | .und => .stuck
  | .xc _ _ => .stuck
  | .val d => .ok d e
  | .cel k => match e.cs[k]? with
    | some (.lst xs) => .ok (.lst xs) ⟨e.sl, e.cs.set k .gone⟩
    | some (.dct ks vs) => .ok (.dct ks vs) ⟨e.sl, e.cs.set k .gone⟩
    | some (.rls ids) => match inner e.cs ids, decide ((k :: ids).Nodup) with
      | some l, true => .ok (.lst l) ⟨e.sl, (gones e.cs ids).set k .gone⟩
      | _, _ => .stuck
    | _ => .stuck
def dOfs : List Sl → M (List D)
  | [] => ret []
  | s :: r => bnd (dOf s) fun d => bnd (dOfs r) fun l => ret (d :: l)
def rdOfs : List Sl → M (List D)
  | [] => ret []
  | s :: r => bnd (rdOf s) fun d => bnd (rdOfs r) fun l => ret (d :: l)
def celsOf : List Sl → Option (List Nat)
  | [] => some []
  | .cel k :: r => match celsOf r with
    | some l => some (k :: l)
    | none => none
  | _ :: _ => none
def getS (i : Nat) : M Sl := fun e => match e.sl[i]? with
  | some .und => .stuck
  | some s => .ok s e
  | none => .stuck
def setS (i : Nat) (s : Sl) : M Unit := fun e => .ok () ⟨e.sl.set i s, e.cs⟩
/-- a new cell -/
def newC (c : Ce) : M Sl := fun e => .ok (.cel e.cs.length) ⟨e.sl, e.cs ++ [c]⟩
/-- f = 0: as data; 1: a cell -/
def newL (f : Nat) (xs : List D) : M Sl := match f with
  | 0 => ret (.val (.lst xs))
  | _ => newC (.lst xs)
def newT (xs : List D) : M Sl := ret (.val (.tup xs))
def setC (k : Nat) (c : Ce) : M Unit := fun e => .ok () ⟨e.sl, e.cs.set k c⟩
def getC (k : Nat) : M Ce := fun e => match e.cs[k]? with
  | some c => .ok c e
  | none => .stuck

/-! ### operations -/
inductive BinK where
  | add | sub | mul | fdiv | mod | pow
  deriving DecidableEq, Inhabited
def small64 (a : Int) : Bool := decide (-18446744073709551616 < a) && decide (a < 18446744073709551616)
/-- ints, texts, tuples, lists; f for a new list -/
def binD (f : Nat) : BinK → D → D → M Sl
  | .add, .int a, .int b => ret (.val (.int (a + b)))
  | .add, .str a, .str b => req (decide (a.length + b.length ≤ SZ)) (ret (.val (.str (a ++ b))))
  | .add, .tup a, .tup b => req (decide (a.length + b.length ≤ SZ)) (ret (.val (.tup (a ++ b))))
  | .add, .lst a, .lst b => req (decide (a.length + b.length ≤ SZ)) (newL f (a ++ b))
  | .sub, .int a, .int b => ret (.val (.int (a - b)))
  | .mul, .int a, .int b => req (small64 a || small64 b) (ret (.val (.int (a * b))))
  | .mul, .lst a, .int k => req (decide (-9223372036854775808 ≤ k) && decide (k < 9223372036854775808) && decide (a.length * k.toNat ≤ SZ)) (newL f (List.replicate k.toNat a).flatten)
  | .fdiv, .int a, .int b => req (decide (0 < b) && decide (b < 1073741824)) (ret (.val (.int (a / b))))
  | .mod, .int a, .int b => req (decide (0 < b)) (ret (.val (.int (a % b))))
  | .pow, .int a, .int b => req (decide (0 ≤ b) && decide (b ≤ 1000000) && decide (a.natAbs < 18446744073709551616)) (ret (.val (.int (a ^ b.toNat))))
  | _, _, _ => stk
/-- a op= b: ints, texts -/
def augD : BinK → D → D → M Sl
  | .add, .int a, .int b => binD 0 .add (.int a) (.int b)
  | .add, .str a, .str b => binD 0 .add (.str a) (.str b)
  | .sub, .int a, .int b => binD 0 .sub (.int a) (.int b)
  | _, _, _ => stk
inductive CmpK where
  | eq | ne | lt | le | gt | ge | isN | notN | inn | nin
  deriving DecidableEq, Inhabited
/-- lists of signs, by their order -/
def ltS (a b : List Nat) : Bool := decide (a < b)
def intsOf : List D → Option (List Int)
  | [] => some []
  | .int i :: r => match intsOf r with
    | some l => some (i :: l)
    | none => none
  | _ :: _ => none
/-- tuples of ints in order -/
def ltI : List Int → List Int → Bool
  | [], [] => false
  | [], _ :: _ => true
  | _ :: _, [] => false
  | x :: xs, y :: ys => if x = y then ltI xs ys else decide (x < y)
def inDs (x : D) (ys : List D) : Bool := ys.any fun y => eqD y x
def cmpD : CmpK → D → D → Option Bool
  | .eq, .str a, .str b => some (a == b)
  | .ne, .str a, .str b => some (!(a == b))
  | .eq, .dct ks vs, .dct ls ws => if ks.length = ls.length ∧ dctEq ks vs ls ws = true then some true else none
  | .ne, .dct ks vs, .dct ls ws => if ks.length = ls.length ∧ dctEq ks vs ls ws = true then some false else none
  | .eq, x, y => if dep x ≤ 64 ∧ dep y ≤ 64 then some (eqD x y) else none
  | .ne, x, y => if dep x ≤ 64 ∧ dep y ≤ 64 then some (!eqD x y) else none
  | .lt, .int a, .int b => some (decide (a < b))
  | .le, .int a, .int b => some (decide (a ≤ b))
  | .gt, .int a, .int b => some (decide (b < a))
  | .ge, .int a, .int b => some (decide (b ≤ a))
  | .lt, .str a, .str b => some (ltS a b)
  | .lt, .tup a, .tup b => match intsOf a, intsOf b with
    | some x, some y => some (ltI x y)
    | _, _ => none
  | .gt, .str a, .str b => some (ltS b a)
  | .le, .str a, .str b => some (!ltS b a)
  | .ge, .str a, .str b => some (!ltS a b)
  | .inn, x, .tup ys => if flatD x && ys.all flatD then some (inDs x ys) else none
  | .nin, x, .tup ys => if flatD x && ys.all flatD then some (!inDs x ys) else none
  | .inn, x, .lst ys => if flatD x && ys.all flatD then some (inDs x ys) else if dep x ≤ 63 ∧ dep (.lst ys) ≤ 64 then some (inDs x ys) else none
  | .nin, x, .lst ys => if flatD x && ys.all flatD then some (!inDs x ys) else if dep x ≤ 63 ∧ dep (.lst ys) ≤ 64 then some (!inDs x ys) else none
  | .inn, .str [c], .str s => some (s.contains c)
  | .nin, .str [c], .str s => some (!s.contains c)
  | _, _, _ => none
def isNonS : Sl → Bool
  | .val .non => true
  | _ => false
/-- by what stands in the names: is None needs no content -/
def cmpM (op : CmpK) (s t : Sl) : M Sl := match op with
  | .isN => req (isNonS t) (ret (.val (.bl (isNonS s))))
  | .notN => req (isNonS t) (ret (.val (.bl (!isNonS s))))
  | op => bnd (rdOf s) fun x => bnd (rdOf t) fun y => match cmpD op x y with
    | some b => ret (.val (.bl b))
    | none => stk
/-- the place that an index means -/
def ixP (n : Nat) (i : Int) : Option Nat := if 0 ≤ i then (if i < n then some i.toNat else none) else if -(n : Int) ≤ i then some (i + n).toNat else none
def atP {α : Type} (xs : List α) (i : Int) : Option α := match ixP xs.length i with
  | some j => xs[j]?
  | none => none
def optS : Option D → M Sl
  | some d => ret (.val d)
  | none => stk
def idxM (s : Sl) (t : Sl) : M Sl := bnd (rdOf t) fun i => fun e =>
  match s, i with
  | .cel k, .int j => match e.cs[k]? with
    | some (.rls ids) => match atP ids j with
      | some c => .ok (.cel c) e
      | none => .stuck
    | some (.lst xs) => optS (atP xs j) e
    | _ => .stuck
  | .val (.lst xs), .int j => optS (atP xs j) e
  | .val (.frl xs), .int j => optS (atP xs j) e
  | .val (.tup xs), .int j => optS (atP xs j) e
  | .val (.str z), .int j => match decide (z.length ≤ SZ), atP z j with
    | true, some c => .ok (.val (.str [c])) e
    | _, _ => .stuck
  | _, _ => .stuck
/-- a key of a dict: what stands there -/
def lookM (s t : Sl) (k : Option D → M Sl) : M Sl := bnd (rdOf s) fun d => bnd (rdOf t) fun x => match d with
  | .dct ks vs => req (keyD x) (k (lookD x ks vs))
  | _ => stk
def dinM (neg : Bool) (o : Option D) : M Sl := ret (.val (.bl (match o with
  | some _ => !neg
  | none => neg)))
/-- d.get(k, x) -/
def getM (u : Sl) : Option D → M Sl
  | some v => ret (.val v)
  | none => ret u
/-- all values under the key k -/
def putVs (k d : D) : List D → List D → List D
  | x :: ks, v :: vs => (if eqD x k then d else v) :: putVs k d ks vs
  | _, _ => []
def putM2 (p t s : Sl) : M Unit := match p with
  | .cel c => bnd (rdOf t) fun k => bnd (dOf s) fun d => bnd (getC c) fun x => match x with
    | .dct ks vs => req (keyD k && decide (ks.length < SZ)) (match lookD k ks vs with
      | some _ => setC c (.dct ks (putVs k d ks vs))
      | none => setC c (.dct (ks ++ [k]) (vs ++ [d])))
    | _ => stk
  | _ => stk
/-- a written dict's keys -/
def keysOk : List D → Bool
  | [] => true
  | x :: r => keyD x && r.all (fun y => !eqD x y) && keysOk r
def newD (f : Nat) (ks vs : List D) : M Sl := match f with
  | 0 => ret (.val (.dct ks vs))
  | _ => newC (.dct ks vs)
/-- a slice's bound as a place among n -/
def ixB (n d : Nat) : Option Int → Nat
  | none => d
  | some v => if v < 0 then (v + (n : Int)).toNat else min v.toNat n
def cutL {α : Type} (xs : List α) (lo hi : Option Int) : List α := (xs.drop (ixB xs.length 0 lo)).take (ixB xs.length xs.length hi - ixB xs.length 0 lo)
def sliceM (f : Nat) (s : Sl) (lo hi : Option Int) : M Sl := bnd (rdOf s) fun d => match d with
  | .lst xs => newL f (cutL xs lo hi)
  | .frl xs => newL f (cutL xs lo hi)
  | .tup xs => ret (.val (.tup (cutL xs lo hi)))
  | .str z => req (decide (z.length ≤ SZ)) (ret (.val (.str (cutL z lo hi))))
  | _ => stk
/-- x[::-1] -/
def revM (f : Nat) : D → M Sl
  | .lst xs => newL f xs.reverse
  | .frl xs => newL f xs.reverse
  | .tup xs => req (decide (0 < xs.length)) (newT xs.reverse)
  | _ => stk
def truD : D → Option Bool
  | .bl b => some b
  | _ => none
def truM (s : Sl) : M Bool := bnd (rdOf s) fun d => match truD d with
  | some b => ret b
  | none => stk

/-! ### built-in functions -/
inductive Bi where
  | len | max2 | min2 | abs | int1 | sum | maxL | minL | all | any | listOf | tupleOf | ord | str1 | sorted | dictOf | max3
  | isi (T : Nat)
  deriving DecidableEq, Inhabited
def blsOf : List D → Option (List Bool)
  | [] => some []
  | .bl i :: r => match blsOf r with
    | some l => some (i :: l)
    | none => none
  | _ :: _ => none
def maxI : List Int → Int
  | [] => 0
  | [a] => a
  | a :: r => max a (maxI r)
def minI : List Int → Int
  | [] => 0
  | [a] => a
  | a :: r => min a (minI r)
/-- 0 int, 1 bool, 2 str, 3 tuple, 4 list, 5 dict -/
def isiD : Nat → D → Bool
  | 0, .int _ => true
  | 0, .bl _ => true
  | 1, .bl _ => true
  | 2, .str _ => true
  | 3, .tup _ => true
  | 4, .lst _ => true
  | 4, .frl _ => true
  | 5, .dct _ _ => true
  | _, _ => false
def lenD : D → Option Nat
  | .lst xs => some xs.length
  | .frl xs => some xs.length
  | .tup xs => some xs.length
  | .str z => if z.length ≤ SZ then some z.length else none
  | _ => none
/-- a number as a text -/
def strI (i : Int) : List Nat := (PySem.Str.ofString (toString i)).cps.toList
/-- pairs as a dict's entries -/
def pairsD : List D → Option (List D × List D)
  | [] => some ([], [])
  | .tup [k, v] :: r => match pairsD r with
    | some (ks, vs) => some (k :: ks, v :: vs)
    | none => none
  | _ :: _ => none
def biD (f : Nat) : Bi → List D → M Sl
  | .len, [x] => match lenD x with
    | some n => ret (.val (.int n))
    | none => stk
  | .max2, [.int a, .int b] => ret (.val (.int (max a b)))
  | .min2, [.int a, .int b] => ret (.val (.int (min a b)))
  | .abs, [.int a] => ret (.val (.int (a.natAbs : Int)))
  | .int1, [.int a] => ret (.val (.int a))
  | .int1, [.bl a] => ret (.val (.int (if a then 1 else 0)))
  | .sum, [.lst xs] => match intsOf xs with
    | some l => ret (.val (.int l.sum))
    | none => stk
  | .maxL, [.lst xs] => match intsOf xs with
    | some (a :: l) => ret (.val (.int (maxI (a :: l))))
    | _ => stk
  | .maxL, [.tup xs] => match intsOf xs with
    | some (a :: l) => ret (.val (.int (maxI (a :: l))))
    | _ => stk
  | .minL, [.lst xs] => match intsOf xs with
    | some (a :: l) => ret (.val (.int (minI (a :: l))))
    | some [] => stk
    | none => req (srtOk xs) (ret (.val (minT xs)))
  | .all, [.lst xs] => match blsOf xs with
    | some l => ret (.val (.bl (l.all id)))
    | none => stk
  | .any, [.lst xs] => match blsOf xs with
    | some l => ret (.val (.bl (l.any id)))
    | none => stk
  | .listOf, [.lst xs] => newL f xs
  | .listOf, [.frl xs] => newL f xs
  | .listOf, [.tup xs] => newL f xs
  | .listOf, [.str z] => req (decide (z.length ≤ SZ)) (newL f (z.map fun c => .str [c]))
  | .tupleOf, [.lst xs] => ret (.val (.tup xs))
  | .tupleOf, [.tup xs] => ret (.val (.tup xs))
  | .sorted, [.lst xs] => req (srtOk xs) (newL f (xs.mergeSort leD))
  | .sorted, [.dct ks _] => req (ks.all isStrD && decide (ks.length < 64)) (newL f (ks.mergeSort leD))
  | .dictOf, [.dct ks vs] => newD f ks vs
  | .dictOf, [.lst xs] => match pairsD xs with
    | some (ks, vs) => req (keysOk ks) (newD f ks vs)
    | none => stk
  | .max3, [.int a, .int b, .int c] => ret (.val (.int (max (max a b) c)))
  | .str1, [.int i] => req (decide (i.natAbs.log2 < 1920)) (ret (.val (.str (strI i))))
  | .str1, [.str s] => ret (.val (.str s))
  | .ord, [.str [c]] => ret (.val (.int c))
  | .isi T, [x] => ret (.val (.bl (isiD T x)))
  | _, _ => stk

/-! ### methods -/
inductive Mt where
  | append | extend | popL | popAt | clearL | index
  | join | split | rpart
  deriving DecidableEq, Inhabited
def strsOf : List D → Option (List (List Nat))
  | [] => some []
  | .str i :: r => match strsOf r with
    | some l => some (i :: l)
    | none => none
  | _ :: _ => none
def joinS (sep : List Nat) : List (List Nat) → List Nat
  | [] => []
  | [a] => a
  | a :: r => a ++ sep ++ joinS sep r
/-- a text parted at each sign c -/
def splitS (c : Nat) : List Nat → List (List Nat)
  | [] => [[]]
  | x :: r => if x = c then [] :: splitS c r else match splitS c r with
    | w :: l => (x :: w) :: l
    | [] => [[x]]
/-- the last place of a sign c -/
def lastIx (c : Nat) : List Nat → Option Nat
  | [] => none
  | x :: r => match lastIx c r with
    | some i => some (i + 1)
    | none => if x = c then some 0 else none
def rpartS (c : Nat) (z : List Nat) : D := match lastIx c z with
  | some i => .tup [.str (z.take i), .str [c], .str (z.drop (i + 1))]
  | none => .tup [.str [], .str [], .str z]
def mtM (f : Nat) (m : Mt) (s : Sl) (args : List Sl) : M Sl := match m, s, args with
  | .append, .cel k, [a] => bnd (getC k) fun c => match c with
    | .lst _ => bnd (dOf a) fun d => bnd (getC k) fun c' => match c' with
      | .lst xs => req (decide (xs.length < SZ)) (bnd (setC k (.lst (xs ++ [d]))) fun _ => ret (.val .non))
      | _ => stk
    | .rls ids => match a with
      | .cel j => req (decide (ids.length < SZ)) (bnd (setC k (.rls (ids ++ [j]))) fun _ => ret (.val .non))
      | _ => stk
    | _ => stk
  | .extend, .cel k, [a] => bnd (rdOf a) fun d => bnd (getC k) fun c => match c, d with
    | .lst xs, .lst ys => req (decide (xs.length + ys.length ≤ SZ)) (bnd (setC k (.lst (xs ++ ys))) fun _ => ret (.val .non))
    | .lst xs, .tup ys => req (decide (xs.length + ys.length ≤ SZ)) (bnd (setC k (.lst (xs ++ ys))) fun _ => ret (.val .non))
    | _, _ => stk
  | .popL, .cel k, [] => bnd (getC k) fun c => match c with
    | .lst xs => match xs[xs.length - 1]? with
      | some d => bnd (setC k (.lst xs.dropLast)) fun _ => ret (.val d)
      | none => stk
    | _ => stk
  | .popAt, .cel k, [a] => bnd (rdOf a) fun i => bnd (getC k) fun c => match c, i with
    | .lst xs, .int i => match ixP xs.length i with
      | some j => match xs[j]? with
        | some d => req (decide (xs.length ≤ SZ)) (bnd (setC k (.lst (xs.eraseIdx j))) fun _ => ret (.val d))
        | none => stk
      | none => stk
    | _, _ => stk
  | .clearL, .cel k, [] => bnd (getC k) fun c => match c with
    | .lst _ => bnd (setC k (.lst [])) fun _ => ret (.val .non)
    | _ => stk
  | .index, s, [a] => bnd (rdOf s) fun d => bnd (rdOf a) fun x => match d with
    | .lst xs => req (flatD x && xs.all flatD) (match xs.findIdx? (fun y => eqD y x) with
      | some i => ret (.val (.int (i : Nat)))
      | none => stk)
    | _ => stk
  | .join, .val (.str sep), [a] => bnd (rdOf a) fun d => match d with
    | .lst xs => match strsOf xs with
      | some l => req (decide ((joinS sep l).length + sep.length ≤ SZ)) (ret (.val (.str (joinS sep l))))
      | none => stk
    | _ => stk
  | .split, .val (.str z), [a] => bnd (rdOf a) fun d => match d with
    | .str [c] => req (decide (z.length + 2 ≤ SZ) && decide (c < 256)) (newL f ((splitS c z).map D.str))
    | _ => stk
  | .rpart, .val (.str z), [a] => bnd (rdOf a) fun d => match d with
    | .str [c] => req (decide (z.length ≤ SZ)) (ret (.val (rpartS c z)))
    | _ => stk
  | _, _, _ => stk

/-- the receiver is a list, a text -/
def isLstM (m : Mt) : Bool := match m with
  | .join | .split | .rpart => false
  | _ => true
def tyM (m : Mt) (s : Sl) : M Unit := fun e => match isLstM m, s with
  | true, .cel k => match e.cs[k]? with
    | some (.lst _) => .ok () e
    | some (.rls _) => .ok () e
    | _ => .stuck
  | true, .val (.lst _) => .ok () e
  | false, .val (.str _) => .ok () e
  | _, _ => .stuck

/-! ### the core language -/
inductive Tg where
  | v (i : Nat)
  | t (l : List Tg)
  deriving Inhabited
mutual
inductive CE where
  | var (i : Nat)
  | lit (d : D)
  | bin (f : Nat) (k : BinK) (a b : CE)
  | neg (a : CE)
  | cmp (k : CmpK) (a b : CE)
  | chain (k k' : CmpK) (a b c : CE)
  | and2 (a b : CE)
  | or2 (a b : CE)
  | not1 (a : CE)
  | ite (c a b : CE)
  | tup (es : List CE)
  | lst (f : Nat) (es : List CE)
  | dct (f : Nat) (ks : List D) (vs : List CE)
  | din (neg : Bool) (k d : CE)
  | dget (d k : CE)
  | dgt2 (d k x : CE)
  | idx (a i : CE)
  | slc (f : Nat) (a : CE) (lo hi : Option CE)
  | inRng (a n : CE)
  | rev (f : Nat) (a : CE)
  | lrng (f : Nat) (a : CE)
  | lrng2 (f : Nat) (a b : CE)
  | addR (a b : CE)
  | call (f : Nat) (es : List CE)
  | frz (a : CE)
  | bi (b : Bi) (f : Nat) (es : List CE)
  | mt (m : Mt) (f : Nat) (o : CE) (es : List CE)
  | comp (f : Nat) (vs : List Nat) (tg : Tg) (it : CI) (cond : Option CE) (elt : CE)
  | srtK (rg : Bool) (f i : Nat) (x body : CE)
  | compC (f : Nat) (vs : List Nat) (tg : Tg) (a : CE) (cond : Option CE) (elt : CE)
  | isx (xs : List Nat) (c : Nat) (a : CE)
  | isxT (xs cs : List Nat) (a : CE)
  | xrow (a : CE)
inductive CI where
  | seq (a : CE)
  | rng1 (a : CE)
  | rng2 (a b : CE)
  | rng3 (a b : CE) (c : Int)
  | enm (a : CE)
  | zip (a b : CE)
  | chr (a : CE)
end
instance : Inhabited CE := ⟨.lit .non⟩
instance : Inhabited CI := ⟨.seq (.lit .non)⟩
inductive CS where
  | setv (i : Nat) (e : CE)
  | setT (l : List Tg) (e : CE)
  | par (i j : Nat) (a b : CE)
  | par3 (i j l : Nat) (a b c : CE)
  | sub (o i e : CE)
  | dput (o i e : CE)
  | expr (e : CE)
  | aug (i : Nat) (k : BinK) (e : CE)
  | rtn (e : CE)
  | rtnN
  | ite (c : CE) (a b : List CS)
  | fors (tg : Tg) (it : CI) (b : List CS)
  | forC (tg : Tg) (a : CE) (b : List CS)
  | whl (n : Nat) (c : CE) (b : List CS)
  | frzv (i : Nat)
  | pas
  | nev
  | brk
  | cnt
  | rse (c : Nat)
  | tryA (xs : List Nat) (c : Nat) (i : Option Nat) (b : List CS) (h : CS)
  deriving Inhabited
/-! ### what it computes -/
mutual
def bindT : Tg → D → M Unit
  | .v i, d => setS i (.val d)
  | .t l, d => match d with
    | .tup xs => bindTs l xs
    | .lst xs => bindTs l xs
    | _ => stk
def bindTs : List Tg → List D → M Unit
  | [], [] => ret ()
  | t :: l, x :: xs => bnd (bindT t x) fun _ => bindTs l xs
  | _, _ => stk
end
/-- data that stands still -/
def valM (s : Sl) : M D := match s with
  | .val d => ret d
  | _ => stk
def pureC : Ce → Bool
  | .rls _ => false
  | _ => true
/-- the mutable things among the arguments -/
def celIds : List Sl → List Nat
  | [] => []
  | .cel k :: r => k :: (celIds r).filter (· != k)
  | _ :: r => celIds r
def idxIn (k : Nat) : List Nat → Nat
  | [] => 0
  | x :: r => if x = k then 0 else idxIn k r + 1
def renS (ks : List Nat) : Sl → Sl
  | .cel k => .cel (idxIn k ks)
  | s => s
def putB : List Nat → List Ce → List Ce → List Ce
  | k :: ks, c :: cs', cs => (putB ks cs' cs).set k c
  | _, _, cs => cs
def backS (ks : List Nat) (n : Nat) : Sl → Sl
  | .cel j => match ks[j]? with
    | some k => .cel k
    | none => .cel (n + (j - ks.length))
  | s => s
def callB (fn : Fn) (args : List Sl) (ks : List Nat) (e : En) : Out Sl :=
  match fn (args.map (renS ks)) (ks.map fun k => e.cs.getD k .gone) with
  | .ok r cs' => match cs'.all pureC with
    | true => .ok (backS ks e.cs.length r) ⟨e.sl, putB ks cs' e.cs ++ cs'.drop ks.length⟩
    | false => .stuck
  | .exc x cs' => match cs'.all pureC with
    | true => .exc x ⟨e.sl, putB ks cs' e.cs ++ cs'.drop ks.length⟩
    | false => .stuck
  | .stuck => .stuck
def callM (fn : Fn) (args : List Sl) : M Sl := fun e => match (celIds args).all fun k => pureC (e.cs.getD k .gone) with
  | true => callB fn args (celIds args) e
  | false => .stuck
def intM (s : Sl) : M Int := fun e => match s with
  | .val (.int i) => .ok i e
  | _ => .stuck
def rangeL (lo : Int) (n : Nat) : List D := (List.range n).map fun i => .int (lo + (i : Nat))
def rangeC (lo c : Int) (n : Nat) : List D := (List.range n).map fun i => .int (lo + (i : Nat) * c)
def enumL (i : Nat) : List D → List D
  | [] => []
  | x :: r => .tup [.int i, x] :: enumL (i + 1) r
def zipL : List D → List D → List D
  | x :: xs, y :: ys => .tup [x, y] :: zipL xs ys
  | _, _ => []
def rngOk (i : Int) : Bool := decide (-4611686018427387904 ≤ i) && decide (i < 4611686018427387904)
def setAll (vs : List Nat) (l : List Sl) : List Sl := match vs with
  | [] => l
  | v :: r => (setAll r l).set v .und
def wipS (vs : List Nat) : M Unit := fun e => .ok () ⟨setAll vs e.sl, e.cs⟩
def celK : Sl → M Nat
  | .cel k => ret k
  | _ => stk
/-- a comprehension's turns: acc the items made so far, from the left -/
def compG {β : Type} (vs : List Nat) (tg : Tg) (cond : M Bool) (elt : M β) : List D → List β → M (List β)
  | [], acc => ret acc
  | d :: r, acc => bnd (wipS vs) fun _ => bnd (bindT tg d) fun _ => bnd cond fun b => match b with
    | true => bnd elt fun y => req (decide (acc.length < SZ)) (compG vs tg cond elt r (acc ++ [y]))
    | false => compG vs tg cond elt r acc
/-- the block of a comprehension: no exception leaves it, its names are its own -/
def blockM {α : Type} (m : M α) : M α := fun e => match m e with
  | .ok a e' => .ok a ⟨e.sl, e'.cs⟩
  | _ => .stuck
def chainM (r : Sl) (k : M Sl) : M Sl := match r with
  | .val (.bl true) => k
  | .val (.bl false) => ret (.val (.bl false))
  | _ => stk
def andM (s : Sl) (k : M Sl) : M Sl := match s with
  | .val (.bl true) => k
  | .val (.bl false) => ret (.val (.bl false))
  | _ => stk
def orM (s : Sl) (k : M Sl) : M Sl := match s with
  | .val (.bl true) => ret (.val (.bl true))
  | .val (.bl false) => k
  | _ => stk
def notM (s : Sl) : M Sl := match s with
  | .val (.bl b) => ret (.val (.bl (!b)))
  | _ => stk
def iteM {α : Type} (t : Bool) (a b : M α) : M α := match t with
  | true => a
  | false => b
def lstM (f : Nat) (ss : List Sl) : M Sl := match f with
  | 2 => match celsOf ss with
    | some ids => req (decide (ids.length ≤ SZ)) (newC (.rls ids))
    | none => stk
  | f => bnd (dOfs ss) fun ds => req (decide (ds.length ≤ SZ)) (newL f ds)
def compM (f : Nat) (vs : List Nat) (tg : Tg) (cond : M Bool) (elt : M Sl) (xs : List D) : M Sl := match f with
  | 2 => bnd (blockM (compG vs tg cond (bnd elt celK) xs [])) fun ids => newC (.rls ids)
  | f => bnd (blockM (compG vs tg cond (bnd elt dOf) xs [])) fun l => newL f l
/-- a list that is walked and lives on: its cell, what it holds -/
def livM (s : Sl) : M (Option Nat × List D) := match s with
  | .val (.lst xs) => ret (none, xs)
  | .cel k => fun e => match e.cs[k]? with
    | some (.lst xs) => .ok (some k, xs) e
    | _ => .stuck
  | _ => stk
/-- it is as it was -/
noncomputable def chk {α : Type} (c : Option Nat × List D) (a : α) : M α := match c.1 with
  | none => ret a
  | some k => fun e => @ite _ (e.cs[k]? = some (.lst c.2)) (Classical.propDecidable _) (.ok a e) .stuck
noncomputable def compCM (f : Nat) (vs : List Nat) (tg : Tg) (cond : M Bool) (elt : M Sl) (c : Option Nat × List D) : M Sl :=
  bnd (chk c ()) fun _ => bnd (blockM (compG vs tg (bnd cond (chk c)) (bnd (bnd elt dOf) (chk c)) c.2 [])) fun l => newL f l
def seqM (d : D) : M (List D) := match d with
  | .lst xs => ret xs
  | .frl xs => ret xs
  | .tup xs => ret xs
  | .str z => ret (z.map fun c => .str [c])
  | _ => stk
def enmM (d : D) : M (List D) := match d with
  | .lst xs => ret (enumL 0 xs)
  | _ => stk
def zipM (x y : D) : M (List D) := match x, y with
  | .lst xs, .lst ys => ret (zipL xs ys)
  | .tup xs, .tup ys => ret (zipL xs ys)
  | .lst xs, .tup ys => ret (zipL xs ys)
  | .tup xs, .lst ys => ret (zipL xs ys)
  | _, _ => stk
def chrM (s : Sl) : M (List D) := match s with
  | .val (.str z) => ret (z.map fun c => .str [c])
  | _ => stk
/-- o[i] = v -/
def putM (p t s : Sl) : M Unit := match p with
  | .cel k => bnd (rdOf t) fun i => bnd (dOf s) fun d => bnd (getC k) fun c => match c, i with
    | .lst xs, .int j => match ixP xs.length j with
      | some n => setC k (.lst (xs.set n d))
      | none => stk
    | _, _ => stk
  | _ => stk
inductive Fl where
  | nxt
  | rtn (s : Sl)
  | brk
  | cnt
def forK (fl : Fl) (k : M Fl) : M Fl := match fl with
  | .nxt => k
  | .cnt => k
  | .brk => ret .nxt
  | .rtn s => ret (.rtn s)
def whlK (b : Bool) (k : M Fl) : M Fl := match b with
  | true => k
  | false => ret .nxt
def seqK (fl : Fl) (k : M Fl) : M Fl := match fl with
  | .nxt => k
  | f => ret f
/-- two lists of mutable things, one behind the other: a new one -/
def addRM (s t : Sl) : M Sl := match s, t with
  | .cel k, .cel j => bnd (getC k) fun c => bnd (getC j) fun c' => match c, c' with
    | .rls a, .rls b => req (decide (a.length + b.length ≤ SZ)) (newC (.rls (a ++ b)))
    | _, _ => stk
  | _, _ => stk
/-! sorted by a key: what the key's lambda sees stands still -/
mutual
def fzOk : D → Bool
  | .dct _ _ => false
  | .lst xs => fzOks xs
  | .tup xs => fzOks xs
  | .frl xs => fzOks xs
  | _ => true
def fzOks : List D → Bool
  | [] => true
  | x :: xs => fzOk x && fzOks xs
end
mutual
def fzD : D → D
  | .lst xs => .frl (fzDs xs)
  | .tup xs => .tup (fzDs xs)
  | .frl xs => .frl (fzDs xs)
  | d => d
def fzDs : List D → List D
  | [] => []
  | x :: xs => fzD x :: fzDs xs
end
def fzV (d : D) : Sl := match fzOk d with
  | true => .val (fzD d)
  | false => .und
def fzS (cs : List Ce) : Sl → Sl
  | .val d => fzV d
  | .cel k => match cs[k]? with
    | some (.lst xs) => fzV (.lst xs)
    | _ => .und
  | .und => .und
  | .xc _ _ => .und
def keyM (m : M Sl) (i : Nat) (sl : List Sl) (d : D) : Option D := match bnd m dOf ⟨sl.set i (fzV d), []⟩ with
  | .ok k _ => some k
  | _ => none
def keysM (m : M Sl) (i : Nat) (sl : List Sl) : List D → Option (List D)
  | [] => some []
  | d :: r => match keyM m i sl d, keysM m i sl r with
    | some k, some l => some (k :: l)
    | _, _ => none
def srtBy (ks xs : List D) : List D := ((ks.zip xs).mergeSort fun a b => leD a.1 b.1).map Prod.snd
def srtLM (f i : Nat) (m : M Sl) (xs : List D) : M Sl := fun e => match keysM m i (e.sl.map (fzS e.cs)) xs with
  | some ks => req (srtOk ks && fzOks xs && decide (xs.length ≤ SZ)) (newL f (srtBy ks xs)) e
  | none => .stuck
def srtKM (rg : Bool) (f i : Nat) (m : M Sl) (s : Sl) : M Sl := match rg with
  | true => bnd (intM s) fun n => req (decide (0 ≤ n) && decide (n ≤ SZ)) (srtLM f i m (rangeL 0 n.toNat))
  | false => bnd (rdOf s) fun d => match d with
    | .lst xs => srtLM f i m xs
    | .frl xs => srtLM f i m xs
    | _ => stk
/-! exceptions: 0 PageError, 1 NoText, .. 11 NoDeed; 12 ValueError -/
def catches (c n : Nat) : Bool := c == 0 || c == n
def subX (c n : Nat) : Bool := c == 0 || c == 12 || c == n
def isxM (xs : List Nat) (c : Nat) (s : Sl) : M Sl := match s with
  | .xc n _ => req (xs.contains n) (ret (.val (.bl (subX c n))))
  | _ => stk
def isxTM (xs cs : List Nat) (s : Sl) : M Sl := match s with
  | .xc n _ => req (xs.contains n) (ret (.val (.bl (cs.any fun c => subX c n))))
  | _ => stk
def xrowM (s : Sl) : M Sl := match s with
  | .xc _ (some r) => ret (.val (.int r))
  | _ => stk
/-- nothing is raised -/
def nox (m : M Fl) : M Fl := fun e => match m e with
  | .ok fl e' => .ok fl e'
  | _ => .stuck
/-- a body, and what is done with what it raises (of the classes xs) -/
def tryM (xs : List Nat) (c : Nat) (m : M Fl) (k : Xn → M Fl) : M Fl := fun e => match m e with
  | .exc x e' => match xs.contains x.nm, catches c x.nm with
    | true, true => k x e'
    | true, false => .exc x e'
    | false, _ => .stuck
  | .ok fl e' => .ok fl e'
  | .stuck => .stuck
def tryK (i : Option Nat) (k : M Fl) (x : Xn) : M Fl := match i with
  | some i => bnd (setS i (.xc x.nm x.row)) fun _ => bnd (nox k) fun fl => bnd (setS i .und) fun _ => ret fl
  | none => nox k
noncomputable section
variable (cal : Nat → Fn)
mutual
def ev : CE → M Sl
  | .var i => getS i
  | .lit d => ret (.val d)
  | .bin f k a b => bnd (ev a) fun s => bnd (ev b) fun t => bnd (rdOf s) fun x => bnd (rdOf t) fun y => binD f k x y
  | .neg a => bnd (ev a) fun s => bnd (intM s) fun i => ret (.val (.int (-i)))
  | .cmp k a b => bnd (ev a) fun s => bnd (ev b) fun t => cmpM k s t
  | .chain k k' a b c => bnd (ev a) fun s => bnd (ev b) fun t => bnd (cmpM k s t) fun r => chainM r (bnd (ev c) fun u => cmpM k' t u)
  | .and2 a b => bnd (ev a) fun s => andM s (ev b)
  | .or2 a b => bnd (ev a) fun s => orM s (ev b)
  | .not1 a => bnd (ev a) notM
  | .ite c a b => bnd (bnd (ev c) truM) fun t => iteM t (ev a) (ev b)
  | .tup es => bnd (evL es) fun ss => bnd (dOfs ss) fun ds => req (decide (ds.length ≤ SZ)) (newT ds)
  | .lst f es => bnd (evL es) fun ss => lstM f ss
  | .dct f ks vs => bnd (evL vs) fun ss => bnd (dOfs ss) fun ds => req (keysOk ks && decide (ks.length = ds.length) && decide (ks.length ≤ 15)) (newD f ks ds)
  | .din neg k d => bnd (ev k) fun t => bnd (ev d) fun s => lookM s t (dinM neg)
  | .dget d k => bnd (ev d) fun s => bnd (ev k) fun t => lookM s t optS
  | .dgt2 d k x => bnd (ev d) fun s => bnd (rdOf s) fun y => req (isDct y) (bnd (ev k) fun t => bnd (ev x) fun u => lookM s t (getM u))
  | .idx a i => bnd (ev a) fun s => bnd (ev i) fun t => idxM s t
  | .slc f a lo hi => bnd (ev a) fun s => bnd (evO lo) fun l => bnd (evO hi) fun h => sliceM f s l h
  | .inRng a n => bnd (ev a) fun s => bnd (ev n) fun t => bnd (intM s) fun i => bnd (intM t) fun j => ret (.val (.bl (decide (0 ≤ i ∧ i < j))))
  | .rev f a => bnd (ev a) fun s => bnd (rdOf s) (revM f)
  | .lrng f a => bnd (ev a) fun s => bnd (intM s) fun n => req (decide (0 ≤ n) && decide (n ≤ SZ)) (newL f (rangeL 0 n.toNat))
  | .lrng2 f a b => bnd (ev a) fun s => bnd (ev b) fun t => bnd (intM s) fun i => bnd (intM t) fun j => req (decide (0 ≤ i) && decide (i ≤ SZ) && (decide (0 ≤ j) && decide (j ≤ SZ))) (newL f (rangeL i (j - i).toNat))
  | .addR a b => bnd (ev a) fun s => bnd (ev b) fun t => addRM s t
  | .call f es => bnd (evL es) fun ss => callM (cal f) ss
  | .frz a => bnd (ev a) fun s => bnd (dOf s) fun d => ret (.val d)
  | .bi b f es => bnd (evL es) fun ss => bnd (rdOfs ss) fun ds => biD f b ds
  | .mt m f o es => bnd (ev o) fun s => bnd (tyM m s) fun _ => bnd (evL es) fun ss => mtM f m s ss
  | .comp f vs tg it cond elt => bnd (evI it) fun xs => compM f vs tg (evC cond) (ev elt) xs
  | .srtK rg f i a b => bnd (ev a) fun s => srtKM rg f i (ev b) s
  | .compC f vs tg a cond elt => bnd (bnd (ev a) livM) fun c => compCM f vs tg (evC cond) (ev elt) c
  | .isx xs c a => bnd (ev a) (isxM xs c)
  | .isxT xs cs a => bnd (ev a) (isxTM xs cs)
  | .xrow a => bnd (ev a) xrowM
def evC : Option CE → M Bool
  | none => ret true
  | some c => bnd (ev c) truM
def evL : List CE → M (List Sl)
  | [] => ret []
  | e :: r => bnd (ev e) fun s => bnd (evL r) fun l => ret (s :: l)
def evO : Option CE → M (Option Int)
  | none => ret none
  | some e => bnd (ev e) fun s => bnd (intM s) fun i => ret (some i)
def evI : CI → M (List D)
  | .seq a => bnd (ev a) fun s => bnd (dOf s) seqM
  | .rng1 a => bnd (ev a) fun s => bnd (intM s) fun n => req (rngOk n) (ret (rangeL 0 n.toNat))
  | .rng2 a b => bnd (ev a) fun s => bnd (ev b) fun t => bnd (intM s) fun i => bnd (intM t) fun j => req (rngOk i && rngOk j) (ret (rangeL i (j - i).toNat))
  | .rng3 a b c => bnd (ev a) fun s => bnd (ev b) fun t => bnd (intM s) fun i => bnd (intM t) fun j => req (rngOk i && rngOk j && decide (c = -1)) (ret (rangeC i c (i - j).toNat))
  | .enm a => bnd (ev a) fun s => bnd (dOf s) enmM
  | .zip a b => bnd (ev a) fun s => bnd (ev b) fun t => bnd (dOf s) fun x => bnd (dOf t) fun y => zipM x y
  | .chr a => bnd (ev a) chrM
end

/-! ### statements -/
def forD (tg : Tg) (body : M Fl) : List D → M Fl
  | [] => ret .nxt
  | d :: r => bnd (bindT tg d) fun _ => bnd body fun fl => forK fl (forD tg body r)
def whl (c : M Bool) (body : M Fl) : Nat → M Fl
  | 0 => stk
  | n + 1 => bnd c fun b => whlK b (bnd body fun fl => forK fl (whl c body n))
mutual
def ex : CS → M Fl
  | .setv i e => bnd (ev cal e) fun s => bnd (setS i s) fun _ => ret .nxt
  | .setT l e => bnd (ev cal e) fun s => bnd (valM s) fun d => bnd (bindT (.t l) d) fun _ => ret .nxt
  | .par i j a b => bnd (ev cal a) fun s => bnd (ev cal b) fun t => bnd (setS i s) fun _ => bnd (setS j t) fun _ => ret .nxt
  | .par3 i j l a b c => bnd (ev cal a) fun s => bnd (ev cal b) fun t => bnd (ev cal c) fun u => bnd (setS i s) fun _ => bnd (setS j t) fun _ => bnd (setS l u) fun _ => ret .nxt
  | .sub o i e => bnd (ev cal e) fun s => bnd (ev cal o) fun p => bnd (ev cal i) fun t => bnd (putM p t s) fun _ => ret .nxt
  | .dput o i e => bnd (ev cal e) fun s => bnd (ev cal o) fun p => bnd (ev cal i) fun t => bnd (putM2 p t s) fun _ => ret .nxt
  | .expr e => bnd (ev cal e) fun _ => ret .nxt
  | .aug i k e => bnd (getS i) fun s => bnd (ev cal e) fun t => bnd (rdOf s) fun x => bnd (rdOf t) fun y => bnd (augD k x y) fun r => bnd (setS i r) fun _ => ret .nxt
  | .rtn e => bnd (ev cal e) fun s => ret (.rtn s)
  | .rtnN => ret (.rtn (.val .non))
  | .ite c a b => bnd (bnd (ev cal c) truM) fun t => iteM t (exs a) (exs b)
  | .fors tg it b => bnd (evI cal it) fun xs => forD tg (exs b) xs
  | .forC tg a b => bnd (bnd (ev cal a) livM) fun c => bnd (chk c ()) fun _ => forD tg (bnd (exs b) (chk c)) c.2
  | .whl n c b => whl (bnd (ev cal c) truM) (exs b) n
  | .frzv i => bnd (getS i) fun s => bnd (dOf s) fun d => bnd (setS i (.val d)) fun _ => ret .nxt
  | .pas => ret .nxt
  | .nev => stk
  | .brk => ret .brk
  | .cnt => ret .cnt
  | .rse c => fun e => .exc ⟨c, none⟩ e
  | .tryA xs c i b h => tryM xs c (exs b) (tryK i (ex h))
def exs : List CS → M Fl
  | [] => ret .nxt
  | s :: r => bnd (ex s) fun fl => seqK fl (exs r)
end
/-! ### functions -/
/-- what stays of the cells: the first m, which must hold data alone -/
def exitC (m : Nat) (cs : List Ce) : Option (List Ce) := if (cs.take m).all pureC then some (cs.take m) else none
def exitF (m : Nat) : Out Fl → FOut
  | .ok .nxt e => match exitC m e.cs with
    | some cs => .ok (.val .non) cs
    | none => .stuck
  | .ok (.rtn (.val d)) e => match exitC m e.cs with
    | some cs => .ok (.val d) cs
    | none => .stuck
  | .ok (.rtn (.cel j)) e => match exitC m e.cs with
    | some cs => if j < m then .ok (.cel j) cs else match e.cs[j]? with
      | some c => if pureC c then .ok (.cel m) (cs ++ [c]) else .stuck
      | none => .stuck
    | none => .stuck
  | .ok _ _ => .stuck
  | .exc x e => match exitC m e.cs with
    | some cs => .exc x cs
    | none => .stuck
  | .stuck => .stuck
def runF (n : Nat) (body : List CS) : Fn := fun args S => exitF S.length (exs cal body ⟨args ++ List.replicate (n - args.length) .und, S⟩)
end
/-- a function's names (how many), its body -/
structure CDef where
  n : Nat
  np : Nat
  body : List CS
def prC (cs : List (Nat × CDef)) (f : Nat) : CDef := (cs.lookup f).getD ⟨0, 0, []⟩
/-- the functions of a program, to a depth -/
noncomputable def calF (P : Nat → CDef) : Nat → Nat → Fn
  | 0 => fun _ _ _ => .stuck
  | k + 1 => fun f args S => if args.length = (P f).np then runF (calF P k) (P f).n (P f).body args S else .stuck
end DL
/-! DL, part b: what data is in the abstract heap; judgements; the rules. -/
namespace DL
open PySem L2

abbrev sv (s : List Nat) : V := .str ⟨s.toArray⟩
mutual
inductive Dr (K : PySem.W.Frag) (G : Hp) : V → D → Prop
  | non : Dr K G .non .non
  | bl (b : Bool) : Dr K G (.bl b) (.bl b)
  | int (i : Int) : Dr K G (.int i) (.int i)
  | str (s : List Nat) : Dr K G (.str ⟨s.toArray⟩) (.str s)
  | lst {a : Addr} {xs : List V} {ds : List D} : G a = some (.lst xs) → Drs K G xs ds → Dr K G (.ref a) (.lst ds)
  | tup {a : Addr} {xs : List V} {ds : List D} : SqT K G a xs → Drs K G xs ds → Dr K G (.ref a) (.tup ds)
  | dct {a : Addr} {kvs : List (Key × V)} {ks vs : List D} : G a = some (.dK kvs) → Drs K G (kvs.map fun p => kV p.1) ks → Drs K G (kvs.map fun p => p.2) vs → Dr K G (.ref a) (.dct ks vs)
  | frl {a : Addr} {xs : List V} {ds : List D} : SqL K G a xs → Drs K G xs ds → Dr K G (.ref a) (.frl ds)
inductive Drs (K : PySem.W.Frag) (G : Hp) : List V → List D → Prop
  | nil : Drs K G [] []
  | cons {v : V} {vs : List V} {d : D} {ds : List D} : Dr K G v d → Drs K G vs ds → Drs K G (v :: vs) (d :: ds)
end
def LeH (A B : Hp) : Prop := ∀ b o, A b = some o → B b = some o
theorem LeH.refl (A : Hp) : LeH A A := fun _ _ h => h
theorem LeH.trans {A B C : Hp} (h : LeH A B) (k : LeH B C) : LeH A C := fun b o e => k b o (h b o e)
theorem LeH.seqL {K : PySem.W.Frag} {A B : Hp} {a : Addr} {xs : List V} (l : LeH A B) (h : SqL K A a xs) : SqL K B a xs := by
  rcases h with (h | ⟨o, h⟩) | h
  · exact .inl (.inl (l _ _ h))
  · exact .inl (.inr ⟨o, l _ _ h⟩)
  · exact .inr h
theorem LeH.seqT {K : PySem.W.Frag} {A B : Hp} {a : Addr} {xs : List V} (l : LeH A B) (h : SqT K A a xs) : SqT K B a xs := by
  rcases h with (h | ⟨o, h⟩) | h
  · exact .inl (.inl (l _ _ h))
  · exact .inl (.inr ⟨o, l _ _ h⟩)
  · exact .inr h
theorem LeH.upd {A : Hp} {p : Addr} {o : HO} (h : A p = none) : LeH A (upd A p o) := fun b u e => by rw [upd_ne (ne_of_none e h)]; exact e
mutual
theorem Dr.mono {K : PySem.W.Frag} {A B : Hp} (l : LeH A B) : ∀ {v : V} {d : D}, Dr K A v d → Dr K B v d
  | _, _, .non => .non
  | _, _, .bl b => .bl b
  | _, _, .int i => .int i
  | _, _, .str s => .str s
  | _, _, .lst h t => .lst (l _ _ h) (Drs.mono l t)
  | _, _, .tup h t => .tup (l.seqT h) (Drs.mono l t)
  | _, _, .dct h t u => .dct (l _ _ h) (Drs.mono l t) (Drs.mono l u)
  | _, _, .frl h t => .frl (l.seqL h) (Drs.mono l t)
theorem Drs.mono {K : PySem.W.Frag} {A B : Hp} (l : LeH A B) : ∀ {v : List V} {d : List D}, Drs K A v d → Drs K B v d
  | _, _, .nil => .nil
  | _, _, .cons h t => .cons (Dr.mono l h) (Drs.mono l t)
end
section
variable {K : PySem.W.Frag} {G : Hp}
theorem Drs.length : ∀ {vs : List V} {ds : List D}, Drs K G vs ds → vs.length = ds.length
  | _, _, .nil => rfl
  | _, _, .cons _ t => by simp [Drs.length t]
theorem Drs.append : ∀ {vs ws : List V} {ds es : List D}, Drs K G vs ds → Drs K G ws es → Drs K G (vs ++ ws) (ds ++ es)
  | _, _, _, _, .nil, k => k
  | _, _, _, _, .cons h t, k => .cons h (Drs.append t k)
theorem Drs.get : ∀ {vs : List V} {ds : List D} {i : Nat} {d : D}, Drs K G vs ds → ds[i]? = some d → ∃ v, vs[i]? = some v ∧ Dr K G v d
  | _, _, _, _, .nil, e => by simp at e
  | _, _, 0, _, .cons h _, e => by simp at e; subst e; exact ⟨_, rfl, h⟩
  | _, _, i + 1, d, .cons _ t, e => by
    obtain ⟨v, h1, h2⟩ := Drs.get (i := i) (d := d) t (by simpa using e)
    exact ⟨v, by simpa using h1, h2⟩
theorem Drs.get' : ∀ {vs : List V} {ds : List D} {i : Nat} {v : V}, Drs K G vs ds → vs[i]? = some v → ∃ d, ds[i]? = some d ∧ Dr K G v d
  | _, _, _, _, .nil, e => by simp at e
  | _, _, 0, _, .cons h _, e => by simp at e; subst e; exact ⟨_, rfl, h⟩
  | _, _, i + 1, d, .cons _ t, e => by
    obtain ⟨v, h1, h2⟩ := Drs.get' (i := i) (v := d) t (by simpa using e)
    exact ⟨v, by simpa using h1, h2⟩
theorem Drs.drop : ∀ {vs : List V} {ds : List D} (n : Nat), Drs K G vs ds → Drs K G (vs.drop n) (ds.drop n)
  | _, _, 0, h => h
  | _, _, _ + 1, .nil => .nil
  | _, _, n + 1, .cons _ t => Drs.drop n t
theorem Drs.take : ∀ {vs : List V} {ds : List D} (n : Nat), Drs K G vs ds → Drs K G (vs.take n) (ds.take n)
  | _, _, 0, h => .nil
  | _, _, _ + 1, .nil => .nil
  | _, _, n + 1, .cons h t => .cons h (Drs.take n t)
theorem Drs.set : ∀ {vs : List V} {ds : List D} (n : Nat) {v : V} {d : D}, Drs K G vs ds → Dr K G v d → Drs K G (vs.set n v) (ds.set n d)
  | _, _, _, _, _, .nil, _ => .nil
  | _, _, 0, _, _, .cons _ t, k => .cons k t
  | _, _, n + 1, _, _, .cons h t, k => .cons h (Drs.set n t k)
theorem Drs.eraseIdx : ∀ {vs : List V} {ds : List D} (n : Nat), Drs K G vs ds → Drs K G (vs.eraseIdx n) (ds.eraseIdx n)
  | _, _, _, .nil => .nil
  | _, _, 0, .cons _ t => t
  | _, _, n + 1, .cons h t => .cons h (Drs.eraseIdx n t)
theorem Drs.dropLast {vs : List V} {ds : List D} (h : Drs K G vs ds) : Drs K G vs.dropLast ds.dropLast := by
  rw [List.dropLast_eq_take, List.dropLast_eq_take, h.length]
  exact h.take _
theorem Drs.rep {vs : List V} {ds : List D} (h : Drs K G vs ds) : ∀ k : Nat, Drs K G (List.replicate k vs).flatten (List.replicate k ds).flatten
  | 0 => .nil
  | k + 1 => by
    rw [List.replicate_succ, List.replicate_succ, List.flatten_cons, List.flatten_cons]
    exact h.append (h.rep k)
end

/-! ### ghosts, cells -/
/-- what never changes any more; the addresses of the mutable things -/
structure Gh where
  G : Hp
  adr : List Addr
structure GLe (g g' : Gh) : Prop where
  le : LeH g.G g'.G
  ad : ∃ l, g'.adr = g.adr ++ l
theorem GLe.refl (g : Gh) : GLe g g := ⟨LeH.refl _, [], by simp⟩
theorem GLe.trans {a b c : Gh} (h : GLe a b) (k : GLe b c) : GLe a c := by
  obtain ⟨l, e⟩ := h.ad
  obtain ⟨m, f⟩ := k.ad
  exact ⟨h.le.trans k.le, l ++ m, by rw [f, e, List.append_assoc]⟩
theorem GLe.get {g g' : Gh} (h : GLe g g') {k : Nat} {a : Addr} (e : g.adr[k]? = some a) : g'.adr[k]? = some a := by
  obtain ⟨l, q⟩ := h.ad
  rw [q]
  obtain ⟨h1, h2⟩ := List.getElem?_eq_some_iff.mp e
  rw [List.getElem?_append_left h1]
  exact e
theorem GLe.mem {g g' : Gh} (h : GLe g g') {a : Addr} (e : a ∈ g.adr) : a ∈ g'.adr := by
  obtain ⟨l, q⟩ := h.ad
  rw [q]
  exact List.mem_append_left _ e
/-- the addresses of the exception classes, by their numbers -/
class Xb where
  C : Nat → Addr
variable [xb : Xb]
/-- an exception's own dict -/
def rowR (G : Hp) (d : Option Addr) : Option Int → Prop
  | none => d = none
  | some r => ∃ (dd : Addr) (fs : List (Str × V)), d = some dd ∧ G dd = some (.xd fs) ∧ fs.lookup ("row" : Str) = some (V.int r)
def xcO (a : Addr) (oe : Obj) : HO := .ext fun h => h.get? a = some oe
def RepS (K : PySem.W.Frag) (g : Gh) (v : V) : Sl → Prop
  | .und => False
  | .val d => Dr K g.G v d
  | .cel k => ∃ a, g.adr[k]? = some a ∧ v = .ref a
  | .xc n row => ∃ (a : Addr) (oe : Obj) (d : Option Addr), v = .ref a ∧ g.G a = some (xcO a oe) ∧ Zc (.ref (Xb.C n)) d oe ∧ (∃ vs, oe.data = .fields vs) ∧ rowR g.G d row
theorem rowR.mono {G G' : Hp} {d : Option Addr} {r : Option Int} (l : LeH G G') (h : rowR G d r) : rowR G' d r := by
  cases r with
  | none => exact h
  | some r => obtain ⟨dd, fs, h1, h2, h3⟩ := h; exact ⟨dd, fs, h1, l _ _ h2, h3⟩
theorem RepS.mono {K : PySem.W.Frag} {g g' : Gh} {v : V} {s : Sl} (l : GLe g g') (h : RepS K g v s) : RepS K g' v s := by
  cases s with
  | und => exact h
  | val d => exact Dr.mono l.le h
  | cel k => obtain ⟨a, e, r⟩ := h; exact ⟨a, l.get e, r⟩
  | xc n row => obtain ⟨a, oe, d, h1, h2, h3, h4, h5⟩ := h; exact ⟨a, oe, d, h1, l.le _ _ h2, h3, h4, h5.mono l.le⟩
def CeAt (K : PySem.W.Frag) (g : Gh) (H : Hp) (a : Addr) : Ce → Prop
  | .gone => True
  | .lst ds => g.G a = none ∧ ∃ xs, H a = some (.lst xs) ∧ Drs K g.G xs ds
  | .dct ks vs => g.G a = none ∧ ∃ kvs : List (Key × V), H a = some (.dK kvs) ∧ Drs K g.G (kvs.map fun p => kV p.1) ks ∧ Drs K g.G (kvs.map fun p => p.2) vs
  | .rls ids => g.G a = none ∧ ∃ as : List Addr, H a = some (.lst (as.map V.ref)) ∧ ids.map (fun i => g.adr[i]?) = as.map some
theorem CeAt.mono {K : PySem.W.Frag} {g g' : Gh} {H H' : Hp} {a : Addr} {c : Ce} (l : GLe g g') (h : CeAt K g H a c) (hn : g.G a = none → g'.G a = none) (hH : ∀ o, H a = some o → H' a = some o) : CeAt K g' H' a c := by
  cases c with
  | gone => trivial
  | lst ds => obtain ⟨n, xs, e, r⟩ := h; exact ⟨hn n, xs, hH _ e, r.mono l.le⟩
  | dct ks vs => obtain ⟨n, xs, e, r, q⟩ := h; exact ⟨hn n, xs, hH _ e, r.mono l.le, q.mono l.le⟩
  | rls ids =>
    obtain ⟨n, as, e, r⟩ := h
    refine ⟨hn n, as, hH _ e, ?_⟩
    rw [← r]
    have : ∀ (ids : List Nat) (as : List Addr), ids.map (fun i => g.adr[i]?) = as.map some → ids.map (fun i => g'.adr[i]?) = ids.map (fun i => g.adr[i]?) := by
      intro ids
      induction ids with
      | nil => intro _ _; rfl
      | cons i r ih =>
        intro as e
        cases as with
        | nil => simp at e
        | cons a as =>
          simp only [List.map_cons, List.cons.injEq] at e
          rw [List.map_cons, List.map_cons, ih as e.2, e.1, l.get e.1]
    exact this ids as r
/-- the tables of code objects that a run may let grow -/
class Tb where
  T : List (Addr × Str)
variable [Tb]
/-- what a cell's address holds -/
def celO : HO → Prop
  | .tbl _ => False
  | .ext _ => False
  | _ => True
def notTb (o : HO) : Prop := ∀ ps, o ≠ .tbl ps
theorem celO.nt {o : HO} (h : celO o) : notTb o := fun ps z => by rw [z] at h; exact h
theorem celO.ne {o : HO} (h : celO o) (c : Addr) (q : Str) : o ≠ LamX.CodeO c q := fun z => by rw [z] at h; exact h
theorem tabs_at {H : Hp} (t : LamX.Tabs Tb.T H) {p : Addr × Str} (h : p ∈ Tb.T) : ∃ ps, H p.1 = some (.tbl ps) := by
  obtain ⟨ps, h1, _⟩ := t p h
  exact ⟨ps, h1⟩
theorem tabs_new {H : Hp} (t : LamX.Tabs Tb.T H) {p : Addr} {o : HO} (h : H p = none) : LamX.Tabs Tb.T (upd H p o) := t.ext fun b u q => by rw [upd_ne (ne_of_none q h)]; exact q
theorem tabs_but {H H' : Hp} (t : LamX.Tabs Tb.T H) {a : Addr} (h : ∀ o, H a = some o → celO o) (k : ∀ b, b ≠ a → H' b = H b) : LamX.Tabs Tb.T H' := fun p hp => by
  obtain ⟨ps, h1, h2, h3⟩ := t p hp
  refine ⟨ps, ?_, h2, fun pos cv hc => ?_⟩
  · rw [k _ fun z => (h _ (z ▸ h1)).nt ps rfl]; exact h1
  · obtain ⟨c, e1, e2⟩ := h3 pos cv hc
    exact ⟨c, e1, by rw [k _ fun z => (h _ (z ▸ e2)).ne _ _ rfl]; exact e2⟩
structure Sto (K : PySem.W.Frag) (cs : List Ce) (H : Hp) (g : Gh) : Prop where
  gh : LeH g.G H
  len : g.adr.length = cs.length
  nod : g.adr.Nodup
  thr : ∀ a ∈ g.adr, ∃ o, H a = some o ∧ celO o
  cel : ∀ (k : Nat) (a : Addr) (c : Ce), g.adr[k]? = some a → cs[k]? = some c → CeAt K g H a c
  tab : LamX.Tabs Tb.T H
  gtb : ∀ b ps, g.G b ≠ some (.tbl ps)
structure Rel (K : PySem.W.Frag) (e : En) (σ : St) (H : Hp) (g : Gh) : Prop where
  len : e.sl.length = σ.length
  slt : ∀ (i : Nat) (s : Sl), e.sl[i]? = some s → s = .und ∨ ∃ v, σ[i]? = some (some v) ∧ RepS K g v s
  sto : Sto K e.cs H g
/-- nothing, or a table -/
def nC (H : Hp) (b : Addr) : Prop := ∀ o, H b = some o → ∃ ps, o = .tbl ps
theorem nC.of {H : Hp} {b : Addr} (h : H b = none) : nC H b := fun o q => by rw [h] at q; cases q
theorem nC.no {H : Hp} {b : Addr} {o : HO} (h : nC H b) (e : H b = some o) (c : celO o) : False := by
  obtain ⟨ps, rfl⟩ := h o e
  exact c
/-- from one state to a later one -/
structure Stp (g : Gh) (H : Hp) (g' : Gh) (H' : Hp) : Prop where
  le : GLe g g'
  keep : ∀ b o, H b = some o → b ∉ g.adr → notTb o → H' b = some o
  anew : ∀ a ∈ g'.adr, a ∈ g.adr ∨ nC H a
  gnew : ∀ b o, g'.G b = some o → g.G b = some o ∨ nC H b ∨ b ∈ g.adr
theorem Stp.refl (g : Gh) (H : Hp) : Stp g H g H := ⟨GLe.refl g, fun _ _ h _ _ => h, fun _ h => .inl h, fun _ _ h => .inl h⟩
theorem Stp.free {g g' : Gh} {H H' : Hp} (s : Stp g H g' H') {b : Addr} (h : nC H' b) : nC H b ∨ b ∈ g.adr := by
  by_cases hb : b ∈ g.adr
  · exact .inr hb
  · refine .inl fun o e => Classical.byContradiction fun n => ?_
    obtain ⟨ps, z⟩ := h o (s.keep b o e hb fun ps z => n ⟨ps, z⟩)
    exact n ⟨ps, z⟩
theorem Stp.trans {g g1 g2 : Gh} {H H1 H2 : Hp} (a : Stp g H g1 H1) (b : Stp g1 H1 g2 H2) : Stp g H g2 H2 where
  le := a.le.trans b.le
  keep := fun c o e hc ht => b.keep c o (a.keep c o e hc ht) (fun h => by
    rcases a.anew c h with z | z
    · exact hc z
    · obtain ⟨ps, q⟩ := z o e
      exact ht ps q) ht
  anew := fun c h => by
    rcases b.anew c h with z | z
    · exact a.anew c z
    · rcases a.free z with q | q
      · exact .inr q
      · exact .inl q
  gnew := fun c o h => by
    rcases b.gnew c o h with z | z | z
    · exact a.gnew c o z
    · rcases a.free z with q | q
      · exact .inr (.inl q)
      · exact .inr (.inr q)
    · rcases a.anew c z with q | q
      · exact .inr (.inr q)
      · exact .inr (.inl q)
/-- what is read of a thing -/
inductive Rd3 (K : PySem.W.Frag) (G H : Hp) : V → D → Prop
  | non : Rd3 K G H .non .non
  | bl (b : Bool) : Rd3 K G H (.bl b) (.bl b)
  | int (i : Int) : Rd3 K G H (.int i) (.int i)
  | str (s : List Nat) : Rd3 K G H (.str ⟨s.toArray⟩) (.str s)
  | lst {a : Addr} {xs : List V} {ds : List D} : H a = some (.lst xs) → Drs K G xs ds → Rd3 K G H (.ref a) (.lst ds)
  | tup {a : Addr} {xs : List V} {ds : List D} : SqT K G a xs → Drs K G xs ds → Rd3 K G H (.ref a) (.tup ds)
  | dct {a : Addr} {kvs : List (Key × V)} {ks vs : List D} : H a = some (.dK kvs) → Drs K G (kvs.map fun p => kV p.1) ks → Drs K G (kvs.map fun p => p.2) vs → Rd3 K G H (.ref a) (.dct ks vs)
  | frl {a : Addr} {xs : List V} {ds : List D} : SqL K G a xs → Drs K G xs ds → Rd3 K G H (.ref a) (.frl ds)
theorem Rd3.of {K : PySem.W.Frag} {G H : Hp} {v : V} {d : D} (h : Dr K G v d) (l : LeH G H) : Rd3 K G H v d := by
  cases h with
  | non => exact .non
  | bl b => exact .bl b
  | int i => exact .int i
  | str s => exact .str s
  | lst h t => exact .lst (l _ _ h) t
  | tup h t => exact .tup h t
  | dct h t u => exact .dct (l _ _ h) t u
  | frl h t => exact .frl h t

/-! ### what is wanted of a computation -/
section
variable {α β ρ ρ' : Type} {K : PySem.W.Frag} {C : Nat → Addr}
/-- an exception in flight -/
def XRel (C : Nat → Addr) (x : Xn) (cls : Value) (d : Option Addr) (G : Hp) : Prop :=
  cls = .ref (C x.nm) ∧ rowR G d x.row
def Post (K : PySem.W.Frag) (C : Nat → Addr) (R : Gh → ρ → α → Prop) (W : WX) (σ : St) (g : Gh) (H : Hp) (o : Out α) (Q : ρ → Hp → Prop) : Prop :=
  match o with
  | .ok a e' => ∀ r g' H', Rel K e' σ H' g' → Stp g H g' H' → R g' r a → Q r H'
  | .exc x e' => ∀ cls d g' H', Rel K e' σ H' g' → Stp g H g' H' → XRel C x cls d g'.G → W cls d σ H'
  | .stuck => False
def tM (K : PySem.W.Frag) (C : Nat → Addr) (R : Gh → ρ → α → Prop) (W : WX) (m : M α) : St → Hp → (ρ → Hp → Prop) → Prop :=
  fun σ H Q => ∃ e g, Rel K e σ H g ∧ Post K C R W σ g H (m e) Q
variable {R1 : Gh → ρ → α → Prop} {R2 : Gh → ρ' → β → Prop} {W : WX} {σ : St} {g g1 : Gh} {H H1 : Hp} {Q : ρ → Hp → Prop} {Q2 : ρ' → Hp → Prop} {m : M α} {f : α → M β} {e : En}
theorem Post.shift {o : Out α} (s : Stp g H g1 H1) (h : Post K C R1 W σ g H o Q) : Post K C R1 W σ g1 H1 o Q := by
  cases o with
  | ok a e' => exact fun r g' H' re st q => h r g' H' re (s.trans st) q
  | exc x e' => exact fun c d g' H' re st q => h c d g' H' re (s.trans st) q
  | stuck => exact h
theorem Post.mono {o : Out α} {Q' : ρ → Hp → Prop} (h : Post K C R1 W σ g H o Q) (k : ∀ r H', Q r H' → Q' r H') : Post K C R1 W σ g H o Q' := by
  cases o with
  | ok a e' => exact fun r g' H' re st q => k r H' (h r g' H' re st q)
  | exc x e' => exact h
  | stuck => exact h
theorem tM.mono {Q' : ρ → Hp → Prop} (h : tM K C R1 W m σ H Q) (k : ∀ r H', Q r H' → Q' r H') : tM K C R1 W m σ H Q' := by
  obtain ⟨e, g, r, p⟩ := h
  exact ⟨e, g, r, p.mono k⟩
/-- behind the first of two -/
def Kn (K : PySem.W.Frag) (C : Nat → Addr) (R1 : Gh → ρ → α → Prop) (R2 : Gh → ρ' → β → Prop) (W : WX) (σ : St) (g : Gh) (H : Hp) (f : α → M β) (Q2 : ρ' → Hp → Prop) : ρ → Hp → Prop :=
  fun r H1 => ∃ a e1 g1, Rel K e1 σ H1 g1 ∧ Stp g H g1 H1 ∧ R1 g1 r a ∧ Post K C R2 W σ g1 H1 (f a e1) Q2
theorem Post.bind (h : Post K C R2 W σ g H (bnd m f e) Q2) : Post K C R1 W σ g H (m e) (Kn K C R1 R2 W σ g H f Q2) := by
  unfold bnd at h
  cases hm : m e with
  | ok a e' =>
    rw [hm] at h
    exact fun r g' H' re st q => ⟨a, e', g', re, st, q, h.shift st⟩
  | exc x e' => rw [hm] at h; exact h
  | stuck => rw [hm] at h; exact h
/-- the first of two runs, then what is wanted of the rest -/
theorem tM.bind {Q1 : ρ → Hp → Prop} (h : tM K C R2 W (bnd m f) σ H Q2)
    (k : ∀ (r : ρ) (H1 : Hp) (a : α) (e1 : En) (g1 : Gh), Rel K e1 σ H1 g1 → R1 g1 r a → Post K C R2 W σ g1 H1 (f a e1) Q2 → Q1 r H1) : tM K C R1 W m σ H Q1 := by
  obtain ⟨e, g, r, p⟩ := h
  exact ⟨e, g, r, p.bind.mono fun r H1 ⟨a, e1, g1, h1, _, h3, h4⟩ => k r H1 a e1 g1 h1 h3 h4⟩
theorem Post.bindTo {Q1 : ρ → Hp → Prop} (re : Rel K e σ H g) (h : Post K C R2 W σ g H (bnd m f e) Q2)
    (k : ∀ (r : ρ) (H1 : Hp) (a : α) (e1 : En) (g1 : Gh), Rel K e1 σ H1 g1 → Stp g H g1 H1 → R1 g1 r a → Post K C R2 W σ g1 H1 (f a e1) Q2 → Q1 r H1) : tM K C R1 W m σ H Q1 :=
  ⟨e, g, re, h.bind.mono fun r H1 ⟨a, e1, g1, h1, h2, h3, h4⟩ => k r H1 a e1 g1 h1 h2 h3 h4⟩
theorem tM.imp {m' : M α} (h : tM K C R1 W m σ H Q) (k : ∀ e g, Rel K e σ H g → Post K C R1 W σ g H (m e) Q → Post K C R1 W σ g H (m' e) Q) : tM K C R1 W m' σ H Q := by
  obtain ⟨e, g, r, p⟩ := h
  exact ⟨e, g, r, k e g r p⟩
theorem Post.req {b : Bool} (h : Post K C R1 W σ g H (DL.req b m e) Q) : b = true ∧ Post K C R1 W σ g H (m e) Q := by
  cases b with
  | true => exact ⟨rfl, h⟩
  | false => exact h.elim
end
end DL
/-! DL, part c: cells made, read, handed over; the operations by values. -/
namespace DL
open PySem L2
variable [xb : Xb] [Tb]
section
variable {α ρ : Type} {K : PySem.W.Frag} {C : Nat → Addr} {R : Gh → ρ → α → Prop} {W : WX} {σ : St} {g : Gh} {H : Hp} {Q : ρ → Hp → Prop} {e : En} {v : V}
theorem Rel.gfree (re : Rel K e σ H g) {p : Addr} (hp : H p = none) : g.G p = none := by
  cases q : g.G p with
  | none => rfl
  | some o => rw [re.sto.gh p o q] at hp; cases hp
theorem Rel.afree (re : Rel K e σ H g) {p : Addr} (hp : H p = none) : p ∉ g.adr := fun h => by
  obtain ⟨o, q, _⟩ := re.sto.thr p h
  rw [q] at hp; cases hp
/-- slots follow the ghosts -/
theorem Rel.slots {e' : En} (re : Rel K e σ H g) {g' : Gh} {H' : Hp} (l : GLe g g') (hs : e'.sl = e.sl) (st : Sto K e'.cs H' g') : Rel K e' σ H' g' :=
  ⟨by rw [hs]; exact re.len, fun i s q => by
    rw [hs] at q
    rcases re.slt i s q with z | ⟨v, h1, h2⟩
    · exact .inl z
    · exact .inr ⟨v, h1, h2.mono l⟩, st⟩
theorem Gh.upd_le {g : Gh} {p : Addr} {o : HO} (h : g.G p = none) : GLe g ⟨upd g.G p o, g.adr⟩ := ⟨LeH.upd h, [], by simp⟩
/-- data is no table -/
theorem gtb_upd {G : Hp} (h : ∀ b ps, G b ≠ some (.tbl ps)) {p : Addr} {o : HO} (ho : notTb o) : ∀ b ps, upd G p o b ≠ some (.tbl ps) := fun b ps z => by
  by_cases e : b = p
  · rw [e, upd_same] at z
    exact ho ps (Option.some.inj z)
  · rw [upd_ne e] at z
    exact h b ps z
/-- new data at p -/
theorem Rel.newD (re : Rel K e σ H g) {p : Addr} (o : HO) (hp : H p = none) (ho : celO o := by exact True.intro) : Rel K e σ (upd H p o) ⟨upd g.G p o, g.adr⟩ ∧ Stp g H ⟨upd g.G p o, g.adr⟩ (upd H p o) := by
  have gf := re.gfree hp
  have af := re.afree hp
  refine ⟨re.slots (Gh.upd_le gf) rfl ⟨fun b u q => ?_, re.sto.len, re.sto.nod, fun a ha => ?_, fun k a c h1 h2 => ?_, tabs_new re.sto.tab hp, gtb_upd re.sto.gtb ho.nt⟩, ⟨Gh.upd_le gf, fun b u q hb _ => ?_, fun a ha => .inl ha, fun b u q => ?_⟩⟩
  · have q : upd g.G p o b = some u := q
    by_cases hb : b = p
    · subst hb; rw [upd_same] at q ⊢; exact q
    · rw [upd_ne hb] at q ⊢; exact re.sto.gh b u q
  · obtain ⟨u, q, z⟩ := re.sto.thr a ha
    exact ⟨u, by rw [upd_ne (ne_of_none q hp)]; exact q, z⟩
  · have hne : a ≠ p := fun z => af (z ▸ List.mem_of_getElem? h1)
    exact (re.sto.cel k a c h1 h2).mono (Gh.upd_le gf) (fun z => by show upd g.G p o a = none; rw [upd_ne hne]; exact z) fun u q => by rw [upd_ne hne]; exact q
  · rw [upd_ne (ne_of_none q hp)]; exact q
  · by_cases hb : b = p
    · subst hb; exact .inr (.inl (nC.of hp))
    · have q' : upd g.G p o b = some u := q
      rw [upd_ne hb] at q'; exact .inl q'
/-- a new cell at p -/
theorem Rel.newC (re : Rel K e σ H g) {p : Addr} {o : HO} {c : Ce} (hp : H p = none) (hc : CeAt K ⟨g.G, g.adr ++ [p]⟩ (upd H p o) p c) (ho : celO o := by exact True.intro) :
    Rel K ⟨e.sl, e.cs ++ [c]⟩ σ (upd H p o) ⟨g.G, g.adr ++ [p]⟩ ∧ Stp g H ⟨g.G, g.adr ++ [p]⟩ (upd H p o) := by
  have gf := re.gfree hp
  have af := re.afree hp
  have le : GLe g ⟨g.G, g.adr ++ [p]⟩ := ⟨LeH.refl _, [p], rfl⟩
  refine ⟨re.slots le rfl ⟨fun b u q => ?_, by simp [re.sto.len], ?_, fun a ha => ?_, fun k a c' h1 h2 => ?_, tabs_new re.sto.tab hp, re.sto.gtb⟩, ⟨le, fun b u q hb _ => ?_, fun a ha => ?_, fun b u q => .inl q⟩⟩
  · rw [upd_ne (ne_of_none (re.sto.gh b u q) hp)]; exact re.sto.gh b u q
  · show (g.adr ++ [p]).Nodup
    rw [List.nodup_append]
    refine ⟨re.sto.nod, by simp, fun a ha b hb z => ?_⟩
    rw [List.mem_singleton.mp hb] at z
    exact af (z ▸ ha)
  · rcases List.mem_append.mp ha with ha | ha
    · obtain ⟨u, q, z⟩ := re.sto.thr a ha
      exact ⟨u, by rw [upd_ne (ne_of_none q hp)]; exact q, z⟩
    · rw [List.mem_singleton.mp ha]; exact ⟨o, upd_same, ho⟩
  · have h1' : (g.adr ++ [p])[k]? = some a := h1
    have h2' : (e.cs ++ [c])[k]? = some c' := h2
    by_cases hk : k < g.adr.length
    · rw [List.getElem?_append_left hk] at h1'
      rw [List.getElem?_append_left (by rw [← re.sto.len]; exact hk)] at h2'
      have hne : a ≠ p := fun z => af (z ▸ List.mem_of_getElem? h1')
      exact (re.sto.cel k a c' h1' h2').mono le (fun z => z) fun u q => by rw [upd_ne hne]; exact q
    · have hk' : g.adr.length ≤ k := Nat.le_of_not_lt hk
      rw [List.getElem?_append_right hk'] at h1'
      rw [List.getElem?_append_right (by rw [← re.sto.len]; exact hk'), ← re.sto.len] at h2'
      have z : k - g.adr.length = 0 := by
        cases q : k - g.adr.length with
        | zero => rfl
        | succ n => rw [q] at h1'; simp at h1'
      rw [z] at h1' h2'
      simp at h1' h2'
      subst h1'; subst h2'
      exact hc
  · rw [upd_ne (ne_of_none q hp)]; exact q
  · rcases List.mem_append.mp ha with ha | ha
    · exact .inl ha
    · rw [List.mem_singleton.mp ha]; exact .inr (nC.of hp)
/-- a cell is handed over: data from now on -/
theorem Rel.gone (re : Rel K e σ H g) {k : Nat} {a : Addr} {o : HO} (hk : g.adr[k]? = some a) (ha : H a = some o) (hn : g.G a = none) :
    Rel K ⟨e.sl, e.cs.set k .gone⟩ σ H ⟨upd g.G a o, g.adr⟩ ∧ Stp g H ⟨upd g.G a o, g.adr⟩ H := by
  refine ⟨re.slots (Gh.upd_le hn) rfl ⟨fun b u q => ?_, by simp [re.sto.len], re.sto.nod, re.sto.thr, fun j b c h1 h2 => ?_, re.sto.tab, gtb_upd re.sto.gtb (fun ps z => ?_)⟩, ⟨Gh.upd_le hn, fun _ _ q _ _ => q, fun _ h => .inl h, fun b u q => ?_⟩⟩
  · have q : upd g.G a o b = some u := q
    by_cases hb : b = a
    · subst hb; rw [upd_same] at q; rw [← q]; exact ha
    · rw [upd_ne hb] at q; exact re.sto.gh b u q
  · by_cases hj : j = k
    · subst hj
      have h2' : (e.cs.set j Ce.gone)[j]? = some c := h2
      rw [List.getElem?_set_self (by rw [← re.sto.len]; exact (List.getElem?_eq_some_iff.mp hk).1)] at h2'
      cases h2'
      trivial
    · have h2' : (e.cs.set k Ce.gone)[j]? = some c := h2
      rw [List.getElem?_set_ne (Ne.symm hj)] at h2'
      have hne : b ≠ a := fun z => hj (nodup_ix_nat re.sto.nod h1 (z ▸ hk))
      exact (re.sto.cel j b c h1 h2').mono (Gh.upd_le hn) (fun z => by show upd g.G a o b = none; rw [upd_ne hne]; exact z) fun _ q => q
  · obtain ⟨u, q2, y⟩ := re.sto.thr a (List.mem_of_getElem? hk)
    rw [ha] at q2
    cases q2
    rw [z] at y
    exact y
  · by_cases hb : b = a
    · subst hb; exact .inr (.inr (List.mem_of_getElem? hk))
    · have q' : upd g.G a o b = some u := q
      rw [upd_ne hb] at q'; exact .inl q'
where
  nodup_ix_nat {l : List Addr} (hN : l.Nodup) {i j : Nat} {x : Addr} (a : l[i]? = some x) (b : l[j]? = some x) : i = j := by
    obtain ⟨h1, e1⟩ := List.getElem?_eq_some_iff.mp a
    obtain ⟨h2, e2⟩ := List.getElem?_eq_some_iff.mp b
    exact (List.getElem_inj hN).mp (e1.trans e2.symm)
theorem nodup_at {l : List Addr} (hN : l.Nodup) {i j : Nat} {x : Addr} (a : l[i]? = some x) (b : l[j]? = some x) : i = j := by
  obtain ⟨h1, e1⟩ := List.getElem?_eq_some_iff.mp a
  obtain ⟨h2, e2⟩ := List.getElem?_eq_some_iff.mp b
  exact (List.getElem_inj hN).mp (e1.trans e2.symm)
/-- a cell is written -/
theorem Rel.putC (re : Rel K e σ H g) {k : Nat} {a : Addr} {o : HO} {c : Ce} (hk : g.adr[k]? = some a) (hn : g.G a = none) (hc : CeAt K g (upd H a o) a c) (ho : celO o := by exact True.intro) :
    Rel K ⟨e.sl, e.cs.set k c⟩ σ (upd H a o) g ∧ Stp g H g (upd H a o) := by
  have ca : ∀ u, H a = some u → celO u := fun u q => by
    obtain ⟨u', q2, z⟩ := re.sto.thr a (List.mem_of_getElem? hk)
    rw [q] at q2; cases q2; exact z
  refine ⟨re.slots (GLe.refl g) rfl ⟨fun b u q => ?_, by simp [re.sto.len], re.sto.nod, fun b hb => ?_, fun j b c' h1 h2 => ?_, tabs_but re.sto.tab ca fun b hb => upd_ne hb, re.sto.gtb⟩, ⟨GLe.refl g, fun b u q hb _ => ?_, fun _ h => .inl h, fun _ _ q => .inl q⟩⟩
  · rw [upd_ne (ne_of_none q hn)]; exact re.sto.gh b u q
  · by_cases hba : b = a
    · subst hba; exact ⟨o, upd_same, ho⟩
    · obtain ⟨u, q, z⟩ := re.sto.thr b hb
      exact ⟨u, by rw [upd_ne hba]; exact q, z⟩
  · have h2' : (e.cs.set k c)[j]? = some c' := h2
    by_cases hj : j = k
    · subst hj
      rw [List.getElem?_set_self (by rw [← re.sto.len]; exact (List.getElem?_eq_some_iff.mp hk).1)] at h2'
      cases h2'
      rw [hk] at h1; cases h1
      exact hc
    · rw [List.getElem?_set_ne (Ne.symm hj)] at h2'
      have hne : b ≠ a := fun z => hj (nodup_at re.sto.nod h1 (z ▸ hk))
      exact (re.sto.cel j b c' h1 h2').mono (GLe.refl g) (fun z => z) fun _ q => by rw [upd_ne hne]; exact q
  · rw [upd_ne (fun (z : b = a) => hb (by rw [z]; exact List.mem_of_getElem? hk))]; exact q

/-! ### reading -/
theorem Rel.rd (re : Rel K e σ H g) {s : Sl} (r : RepS K g v s) {d : D} {e' : En} (h : rdOf s e = .ok d e') : e' = e ∧ Rd3 K g.G H v d := by
  unfold rdOf at h
  cases s with
  | und => cases h
  | xc _ _ => cases h
  | val x => cases h; exact ⟨rfl, Rd3.of r re.sto.gh⟩
  | cel k =>
    obtain ⟨a, hk, rfl⟩ := r
    simp only at h
    cases hc : e.cs[k]? with
    | none => rw [hc] at h; cases h
    | some c =>
      rw [hc] at h
      have ce := re.sto.cel k a c hk hc
      cases c with
      | gone => cases h
      | lst xs => cases h; obtain ⟨_, ys, q, t⟩ := ce; exact ⟨rfl, .lst q t⟩
      | dct ks vs => cases h; obtain ⟨_, kvs, q, t, u⟩ := ce; exact ⟨rfl, .dct q t u⟩
      | rls ids => cases h
theorem rd_noexc {s : Sl} {x : Xn} {e' : En} : rdOf s e ≠ .exc x e' := fun h => by
  unfold rdOf at h
  cases s with
  | und => cases h
  | xc _ _ => cases h
  | val x => cases h
  | cel k =>
    simp only at h
    split at h <;> cases h
theorem Post.rd {β : Type} {R2 : Gh → ρ → β → Prop} {f : D → M β} (re : Rel K e σ H g) {s : Sl} (r : RepS K g v s) (h : Post K C R2 W σ g H (bnd (rdOf s) f e) Q) : ∃ d, Rd3 K g.G H v d ∧ Post K C R2 W σ g H (f d e) Q := by
  unfold bnd at h
  cases hm : rdOf s e with
  | ok d e' =>
    rw [hm] at h
    obtain ⟨rfl, q⟩ := re.rd r hm
    exact ⟨d, q, h⟩
  | exc x e' => exact (rd_noexc hm).elim
  | stuck => rw [hm] at h; exact h.elim
/-- the same of the slots alone -/
theorem rd_slot {s : Sl} (h : Post K C R W σ g H (bnd (rdOf s) (fun _ : D => (stk : M α)) e) Q) : False := by
  unfold bnd at h
  cases hm : rdOf s e with
  | ok d e' => rw [hm] at h; exact h
  | exc x e' => exact (rd_noexc hm).elim
  | stuck => rw [hm] at h; exact h

/-! ### handing over -/
theorem inner_some : ∀ {cs : List Ce} {ids : List Nat} {l : List D}, inner cs ids = some l → ∀ i ∈ ids, ∃ xs, cs[i]? = some (.lst xs)
  | _, [], _, _, _, h => by cases h
  | cs, i :: r, l, h, j, hj => by
    unfold inner at h
    split at h
    · rename_i xs m h1 h2
      rcases List.mem_cons.mp hj with rfl | hj
      · exact ⟨xs, h1⟩
      · exact inner_some h2 j hj
    · cases h
/-- the inner lists first -/
theorem Rel.gones (re : Rel K e σ H g) : ∀ {ids : List Nat} {as : List Addr} {l : List D}, ids.Nodup → ids.map (fun i => g.adr[i]?) = as.map some → inner e.cs ids = some l →
    ∃ g', Rel K ⟨e.sl, gones e.cs ids⟩ σ H g' ∧ Stp g H g' H ∧ g'.adr = g.adr ∧ Drs K g'.G (as.map V.ref) l ∧ (∀ b, b ∉ as → g'.G b = g.G b) := by
  intro ids
  induction ids with
  | nil =>
    intro as l _ h1 h2
    cases as with
    | nil =>
      unfold inner at h2
      cases h2
      exact ⟨g, re, Stp.refl g H, rfl, .nil, fun _ _ => rfl⟩
    | cons a as => simp at h1
  | cons i r ih =>
    intro as l nd h1 h2
    cases as with
    | nil => simp at h1
    | cons a as =>
      simp only [List.map_cons, List.cons.injEq] at h1
      unfold inner at h2
      cases hi : e.cs[i]? with
      | none => rw [hi] at h2; simp at h2
      | some c =>
        cases hr : inner e.cs r with
        | none => rw [hi, hr] at h2; cases c <;> simp at h2
        | some m =>
          rw [hi, hr] at h2
          cases c with
          | lst xs =>
            simp only [Option.some.injEq] at h2
            subst h2
            obtain ⟨nd1, nd2⟩ := List.nodup_cons.mp nd
            obtain ⟨g', re', st, ea, dr, off⟩ := ih nd2 h1.2 hr
            have ce := re.sto.cel i a _ h1.1 hi
            obtain ⟨hn, ys, hy, ty⟩ := ce
            have ha' : a ∉ as := fun z => by
              obtain ⟨j, hj, ej⟩ : ∃ j ∈ r, g.adr[j]? = some a := by
                have : some a ∈ as.map some := List.mem_map_of_mem z
                rw [← h1.2] at this
                obtain ⟨j, hj, ej⟩ := List.mem_map.mp this
                exact ⟨j, hj, ej⟩
              exact nd1 (nodup_at re.sto.nod h1.1 ej ▸ hj)
            have hk' : g'.adr[i]? = some a := by rw [ea]; exact h1.1
            have hn' : g'.G a = none := by rw [off a ha']; exact hn
            obtain ⟨re2, st2⟩ := re'.gone hk' hy hn'
            refine ⟨_, re2, st.trans st2, ea, .cons (.lst upd_same (ty.mono (st.le.le.trans (Gh.upd_le hn').le))) (dr.mono (Gh.upd_le hn').le), fun b hb => ?_⟩
            show upd g'.G a _ b = g.G b
            rw [upd_ne fun z => hb (by rw [z]; exact List.mem_cons_self)]
            exact off b fun z => hb (List.mem_cons_of_mem _ z)
          | gone => simp at h2
          | dct ks vs => simp at h2
          | rls ids => simp at h2
theorem dOf_noexc {s : Sl} {x : Xn} {e' : En} : dOf s e ≠ .exc x e' := fun h => by
  unfold dOf at h
  cases s with
  | und => cases h
  | xc _ _ => cases h
  | val x => cases h
  | cel k =>
    simp only at h
    split at h
    · cases h
    · cases h
    · split at h <;> cases h
    · cases h
theorem gones_get : ∀ {ids : List Nat} {cs : List Ce} {k : Nat}, k ∉ ids → (gones cs ids)[k]? = cs[k]?
  | [], _, _, _ => rfl
  | i :: r, cs, k, h => by
    show ((gones cs r).set i .gone)[k]? = cs[k]?
    rw [List.getElem?_set_ne fun z => h (by rw [z]; exact List.mem_cons_self)]
    exact gones_get fun z => h (List.mem_cons_of_mem _ z)
theorem mem_of_map {ids : List Nat} {as : List Addr} (h : ids.map (fun i => g.adr[i]?) = as.map some) {a : Addr} (ha : a ∈ as) : ∃ i ∈ ids, g.adr[i]? = some a := by
  have : some a ∈ as.map some := List.mem_map_of_mem ha
  rw [← h] at this
  obtain ⟨j, hj, ej⟩ := List.mem_map.mp this
  exact ⟨j, hj, ej⟩
theorem Rel.d (re : Rel K e σ H g) {s : Sl} (r : RepS K g v s) {d : D} {e' : En} (h : dOf s e = .ok d e') : ∃ g', Rel K e' σ H g' ∧ Stp g H g' H ∧ Dr K g'.G v d ∧ e'.sl = e.sl ∧ g'.adr = g.adr := by
  unfold dOf at h
  cases s with
  | und => cases h
  | xc _ _ => cases h
  | val x => cases h; exact ⟨g, re, Stp.refl g H, r, rfl, rfl⟩
  | cel k =>
    obtain ⟨a, hk, rfl⟩ := r
    simp only at h
    cases hc : e.cs[k]? with
    | none => rw [hc] at h; cases h
    | some c =>
      rw [hc] at h
      have ce := re.sto.cel k a c hk hc
      cases c with
      | gone => cases h
      | lst xs =>
        cases h
        obtain ⟨hn, ys, q, t⟩ := ce
        obtain ⟨re', st⟩ := re.gone hk q hn
        exact ⟨_, re', st, .lst upd_same (t.mono (Gh.upd_le hn).le), rfl, rfl⟩
      | dct ks vs =>
        cases h
        obtain ⟨hn, kvs, q, t, u⟩ := ce
        obtain ⟨re', st⟩ := re.gone hk q hn
        exact ⟨_, re', st, .dct upd_same (t.mono (Gh.upd_le hn).le) (u.mono (Gh.upd_le hn).le), rfl, rfl⟩
      | rls ids =>
        simp only at h
        cases hi : inner e.cs ids with
        | none => rw [hi] at h; simp at h
        | some l =>
          by_cases nd : (k :: ids).Nodup
          · rw [hi, decide_eq_true nd] at h
            cases h
            obtain ⟨hn, as, q, t⟩ := ce
            obtain ⟨nd1, nd2⟩ := List.nodup_cons.mp nd
            obtain ⟨g', re', st, ea, dr, off⟩ := re.gones nd2 t hi
            have ha : a ∉ as := fun z => by
              obtain ⟨j, hj, ej⟩ := mem_of_map t z
              exact nd1 (nodup_at re.sto.nod hk ej ▸ hj)
            have hn' : g'.G a = none := by rw [off a ha]; exact hn
            obtain ⟨re2, st2⟩ := re'.gone (by rw [ea]; exact hk) q hn'
            exact ⟨_, re2, st.trans st2, .lst upd_same (dr.mono (Gh.upd_le hn').le), rfl, ea⟩
          · rw [hi, decide_eq_false nd] at h
            cases h
theorem Post.d {β : Type} {R2 : Gh → ρ → β → Prop} {f : D → M β} (re : Rel K e σ H g) {s : Sl} (r : RepS K g v s) (h : Post K C R2 W σ g H (bnd (dOf s) f e) Q) :
    ∃ d e' g', Rel K e' σ H g' ∧ Stp g H g' H ∧ Dr K g'.G v d ∧ Post K C R2 W σ g' H (f d e') Q := by
  unfold bnd at h
  cases hm : dOf s e with
  | ok d e' =>
    rw [hm] at h
    obtain ⟨g', re', st, q, _, _⟩ := re.d r hm
    exact ⟨d, e', g', re', st, q, h.shift st⟩
  | exc x e' => exact (dOf_noexc hm).elim
  | stuck => rw [hm] at h; exact h.elim
/-- several -/
inductive RepSs (K : PySem.W.Frag) (g : Gh) : List V → List Sl → Prop
  | nil : RepSs K g [] []
  | cons {v : V} {vs : List V} {s : Sl} {ss : List Sl} : RepS K g v s → RepSs K g vs ss → RepSs K g (v :: vs) (s :: ss)
theorem RepSs.mono {g g' : Gh} (l : GLe g g') : ∀ {vs : List V} {ss : List Sl}, RepSs K g vs ss → RepSs K g' vs ss
  | _, _, .nil => .nil
  | _, _, .cons h t => .cons (h.mono l) (RepSs.mono l t)
theorem RepSs.length : ∀ {vs : List V} {ss : List Sl}, RepSs K g vs ss → vs.length = ss.length
  | _, _, .nil => rfl
  | _, _, .cons h t => by simp [RepSs.length t]
theorem Post.ds {β : Type} {R2 : Gh → ρ → β → Prop} : ∀ {ss : List Sl} {vs : List V} {f : List D → M β} {g : Gh} {e : En}, Rel K e σ H g → RepSs K g vs ss → Post K C R2 W σ g H (bnd (dOfs ss) f e) Q →
    ∃ ds e' g', Rel K e' σ H g' ∧ Stp g H g' H ∧ Drs K g'.G vs ds ∧ Post K C R2 W σ g' H (f ds e') Q
  | [], _, f, g, e, re, .nil, h => ⟨[], e, g, re, Stp.refl _ _, .nil, h⟩
  | s :: ss, _, f, g, e, re, .cons r rs, h => by
    have h' : Post K C R2 W σ g H (bnd (dOf s) (fun d => bnd (dOfs ss) fun l => f (d :: l)) e) Q := by
      have : bnd (dOfs (s :: ss)) f e = bnd (dOf s) (fun d => bnd (dOfs ss) fun l => f (d :: l)) e := by
        simp only [dOfs, bnd]
        cases dOf s e with
        | ok d e' =>
          simp only
          cases dOfs ss e' with
          | ok l e2 => rfl
          | exc x e2 => rfl
          | stuck => rfl
        | exc x e' => rfl
        | stuck => rfl
      rw [← this]; exact h
    obtain ⟨d, e1, g1, re1, st1, q1, p1⟩ := Post.d re r h'
    obtain ⟨ds, e2, g2, re2, st2, q2, p2⟩ := Post.ds re1 (rs.mono st1.le) p1
    exact ⟨d :: ds, e2, g2, re2, st1.trans st2, .cons (q1.mono st2.le.le) q2, p2⟩
inductive Rd3s (K : PySem.W.Frag) (G H : Hp) : List V → List D → Prop
  | nil : Rd3s K G H [] []
  | cons {v : V} {vs : List V} {d : D} {ds : List D} : Rd3 K G H v d → Rd3s K G H vs ds → Rd3s K G H (v :: vs) (d :: ds)
theorem Post.rds {β : Type} {R2 : Gh → ρ → β → Prop} (re : Rel K e σ H g) : ∀ {ss : List Sl} {vs : List V} {f : List D → M β}, RepSs K g vs ss → Post K C R2 W σ g H (bnd (rdOfs ss) f e) Q →
    ∃ ds, Rd3s K g.G H vs ds ∧ Post K C R2 W σ g H (f ds e) Q
  | [], _, f, .nil, h => ⟨[], .nil, h⟩
  | s :: ss, _, f, .cons r rs, h => by
    have h' : Post K C R2 W σ g H (bnd (rdOf s) (fun d => bnd (rdOfs ss) fun l => f (d :: l)) e) Q := by
      have : bnd (rdOfs (s :: ss)) f e = bnd (rdOf s) (fun d => bnd (rdOfs ss) fun l => f (d :: l)) e := by
        simp only [rdOfs, bnd]
        cases rdOf s e with
        | ok d e' =>
          simp only
          cases rdOfs ss e' with
          | ok l e2 => rfl
          | exc x e2 => rfl
          | stuck => rfl
        | exc x e' => rfl
        | stuck => rfl
      rw [← this]; exact h
    obtain ⟨d, q1, p1⟩ := Post.rd re r h'
    obtain ⟨ds, q2, p2⟩ := Post.rds re rs p1
    exact ⟨d :: ds, .cons q1 q2, p2⟩
end
/-! ### answers -/
section
variable {ρ : Type} {K : PySem.W.Frag} {C : Nat → Addr} {W : WX} {σ : St} {g : Gh} {H : Hp} {e : En} {Q : VK}
theorem Post.ans (re : Rel K e σ H g) {s : Sl} {v : V} (h : Post K C (RepS K) W σ g H (ret s e) Q) (r : RepS K g v s) : Q v H := h v g H re (Stp.refl g H) r
theorem Post.newL (re : Rel K e σ H g) {f : Nat} {ds : List D} {xs : List V} (h : Post K C (RepS K) W σ g H (newL f ds e) Q) (t : Drs K g.G xs ds) : ∀ p, H p = none → Q (.ref p) (upd H p (.lst xs)) := by
  intro p hp
  unfold DL.newL at h
  split at h
  · obtain ⟨re', st⟩ := re.newD (.lst xs) hp
    exact h (.ref p) _ _ re' st (.lst upd_same (t.mono (Gh.upd_le (re.gfree hp)).le))
  · obtain ⟨re', st⟩ := re.newC (o := .lst xs) (c := .lst ds) hp ⟨re.gfree hp, xs, upd_same, t⟩
    refine h (.ref p) _ _ re' st ⟨p, ?_, rfl⟩
    show (g.adr ++ [p])[e.cs.length]? = some p
    rw [← re.sto.len]
    simp
theorem Post.newT (re : Rel K e σ H g) {ds : List D} {xs : List V} (h : Post K C (RepS K) W σ g H (ret (.val (.tup ds)) e) Q) (t : Drs K g.G xs ds) : ∀ p, H p = none → Q (.ref p) (upd H p (.tup xs)) := by
  intro p hp
  obtain ⟨re', st⟩ := re.newD (.tup xs) hp
  exact h (.ref p) _ _ re' st (.tup (SqT.of upd_same) (t.mono (Gh.upd_le (re.gfree hp)).le))
end
end DL
/-! DL, part d: the operations by values. -/
namespace DL
open PySem L2
variable [xb : Xb] [Tb]
theorem str_len (s : List Nat) : Str.length (⟨s.toArray⟩ : Str) = s.length := by show s.toArray.size = s.length; simp
theorem str_app (a b : List Nat) : (⟨a.toArray⟩ : Str) ++ (⟨b.toArray⟩ : Str) = ⟨(a ++ b).toArray⟩ := by
  show Str.mk (a.toArray ++ b.toArray) = _
  simp
theorem str_inj {a b : List Nat} : (⟨a.toArray⟩ : Str) = ⟨b.toArray⟩ ↔ a = b := by
  constructor
  · intro h
    have := congrArg (fun z : Str => z.cps.toList) h
    simpa using this
  · intro h; rw [h]
mutual
def toPy : D → PyData
  | .non => .none
  | .bl b => .bool b
  | .int i => .int i
  | .str s => .str ⟨s.toArray⟩
  | .lst xs => .list (toPys xs)
  | .tup xs => .tuple (toPys xs)
  | .dct _ _ => .dict []
  | .frl xs => .dict []
def toPys : List D → List PyData
  | [] => []
  | x :: xs => toPy x :: toPys xs
end
mutual
theorem py_ok : ∀ d : D, dep d ≤ 64 → (toPy d).canLay0 = true ∧ (toPy d).depth = dep d
  | .non, _ => ⟨rfl, rfl⟩
  | .bl b, _ => ⟨rfl, rfl⟩
  | .int i, _ => ⟨rfl, rfl⟩
  | .str s, h => by
    unfold dep at h
    by_cases c : s.all (· < 1114112) = true
    · refine ⟨?_, ?_⟩
      · show PyData.strOk ⟨s.toArray⟩ = true
        show (s.toArray).all (fun x => decide (x < 0x110000)) = true
        simpa using c
      · show 0 = dep (.str s)
        unfold dep
        rw [if_pos c]
    · rw [if_neg c] at h; omega
  | .lst xs, h => by
    unfold dep at h
    obtain ⟨h1, h2⟩ := pys_ok xs (by omega)
    refine ⟨h1, ?_⟩
    show PyData.depthAll (toPys xs) + 1 = dep (.lst xs)
    unfold dep
    rw [h2]; omega
  | .tup xs, h => by
    unfold dep at h
    obtain ⟨h1, h2⟩ := pys_ok xs (by omega)
    refine ⟨h1, ?_⟩
    show PyData.depthAll (toPys xs) + 1 = dep (.tup xs)
    unfold dep
    rw [h2]; omega
  | .dct _ _, h => by unfold dep at h; omega
  | .frl _, h => by unfold dep at h; omega
theorem pys_ok : ∀ xs : List D, deps xs ≤ 64 → PyData.canLayAll0 (toPys xs) = true ∧ PyData.depthAll (toPys xs) = deps xs
  | [], _ => ⟨rfl, rfl⟩
  | x :: xs, h => by
    unfold deps at h
    obtain ⟨h1, h2⟩ := py_ok x (by omega)
    obtain ⟨h3, h4⟩ := pys_ok xs (by omega)
    refine ⟨?_, ?_⟩
    · show ((toPy x).canLay0 && PyData.canLayAll0 (toPys xs)) = true
      rw [h1, h3]; rfl
    · show max (toPy x).depth (PyData.depthAll (toPys xs)) = deps (x :: xs)
      unfold deps
      rw [h2, h4]
end
theorem shaped_of {d : D} (h : dep d ≤ 64) : SeqAt.shaped (toPy d) = true := by
  obtain ⟨h1, h2⟩ := py_ok d h
  show ((toPy d).canLay0 && decide ((toPy d).depth ≤ 64)) = true
  rw [h1, h2, decide_eq_true h]; rfl
mutual
theorem eqv_py : ∀ d e : D, dep d ≤ 64 → dep e ≤ 64 → PyData.eqv (toPy d) (toPy e) = eqD d e := by
  intro d e hd he
  cases d with
  | dct _ _ => unfold dep at hd; omega
  | frl _ => unfold dep at hd; omega
  | non => cases e <;> first | rfl | (unfold dep at he; omega)
  | bl b => cases e <;> first | rfl | (unfold dep at he; omega)
  | int i => cases e <;> first | rfl | (unfold dep at he; omega)
  | str s =>
    cases e with
    | str t =>
      show ((⟨s.toArray⟩ : Str) == ⟨t.toArray⟩) = (s == t)
      rw [Bool.eq_iff_iff, beq_iff_eq, beq_iff_eq, str_inj]
    | dct _ _ => unfold dep at he; omega
    | frl _ => unfold dep at he; omega
    | _ => rfl
  | lst xs =>
    cases e with
    | lst ys => exact eqvs_py xs ys (by unfold dep at hd; omega) (by unfold dep at he; omega)
    | dct _ _ => unfold dep at he; omega
    | frl _ => unfold dep at he; omega
    | _ => rfl
  | tup xs =>
    cases e with
    | tup ys => exact eqvs_py xs ys (by unfold dep at hd; omega) (by unfold dep at he; omega)
    | dct _ _ => unfold dep at he; omega
    | frl _ => unfold dep at he; omega
    | _ => rfl
termination_by d e => sizeOf d
theorem eqvs_py : ∀ xs ys : List D, deps xs ≤ 64 → deps ys ≤ 64 → PyData.eqvAll (toPys xs) (toPys ys) = eqDs xs ys := by
  intro xs ys hx hy
  cases xs with
  | nil => cases ys <;> rfl
  | cons x xs =>
    cases ys with
    | nil => rfl
    | cons y ys =>
      unfold deps at hx hy
      show (PyData.eqv (toPy x) (toPy y) && PyData.eqvAll (toPys xs) (toPys ys)) = (eqD x y && eqDs xs ys)
      rw [eqv_py x y (by omega) (by omega), eqvs_py xs ys (by omega) (by omega)]
termination_by xs ys => sizeOf xs
end
mutual
theorem Dr.dp {K : PySem.W.Frag} {H : Hp} : ∀ {v : V} {d : D}, dep d ≤ 64 → Dr K H v d → Dp K H v (toPy d)
  | _, _, _, .non => .non
  | _, _, _, .bl b => .bl b
  | _, _, _, .int i => .int i
  | _, _, _, .str s => .str _
  | _, _, hd, .lst h t => .lst (SqL.of h) (Drs.dp (by unfold dep at hd; omega) t)
  | _, _, hd, .tup h t => .tup h (Drs.dp (by unfold dep at hd; omega) t)
  | _, _, hd, .dct h t u => by unfold dep at hd; omega
  | _, _, hd, .frl h t => by unfold dep at hd; omega
theorem Drs.dp {K : PySem.W.Frag} {H : Hp} : ∀ {v : List V} {d : List D}, deps d ≤ 64 → Drs K H v d → DpAll K H v (toPys d)
  | _, _, _, .nil => .nil
  | _, _, hd, .cons h t => .cons (Dr.dp (by unfold deps at hd; omega) h) (Drs.dp (by unfold deps at hd; omega) t)
end
theorem Rd3.dp {K : PySem.W.Frag} {G H : Hp} {v : V} {d : D} (l : LeH G H) (hd : dep d ≤ 64) (h : Rd3 K G H v d) : Dp K H v (toPy d) := by
  cases h with
  | non => exact .non
  | bl b => exact .bl b
  | int i => exact .int i
  | str s => exact .str _
  | lst h t => exact .lst (SqL.of h) (Drs.dp (by unfold dep at hd; omega) (t.mono l))
  | tup h t => exact .tup (l.seqT h) (Drs.dp (by unfold dep at hd; omega) (t.mono l))
  | dct h t u => unfold dep at hd; omega
  | frl h t => unfold dep at hd; omega

def opK : BinK → Operator
  | .add => .Add
  | .sub => .Sub
  | .mul => .Mult
  | .fdiv => .FloorDiv
  | .mod => .Mod
  | .pow => .Pow
theorem small_of {a : Int} (h : small64 a = true) : -(2 ^ 64) < a ∧ a < 2 ^ 64 := by
  unfold small64 at h
  simp only [Bool.and_eq_true, decide_eq_true_eq] at h
  omega
section
variable {K : PySem.W.Frag} {C : Nat → Addr} {W : WX} {σ : St} {g : Gh} {H : Hp} {e : En} {Q : VK} {X : Cx}
theorem szl : sizeLine = 16777216 := sizeLine_eq
/-- what an operation's rule must answer -/
def BinOk (K : PySem.W.Frag) (C : Nat → Addr) (r : R2) (F : D → D → M Sl) : Prop :=
  ∀ (W : WX) (σ : St) (g : Gh) (H : Hp) (e : En) (Q : VK) (x y : V) (a b : D), Rel K e σ H g → Rd3 K g.G H x a → Rd3 K g.G H y b → Post K C (RepS K) W σ g H (F a b e) Q → r x y H Q
theorem bin_add (f : Nat) : ∃ r, OpR X (binaryOp .Add) r ∧ BinOk X.K C r (binD f .add) := by
  refine ⟨_, op_add.or (op_add_str.or (op_catA.or op_cat)), fun W σ g H e Q x y a b re hx hy h => ?_⟩
  cases hx <;> cases hy <;> try exact h.elim
  case int.int i j => exact .inl ⟨_, _, rfl, rfl, Post.ans re h (.int _)⟩
  case str.str s t =>
    obtain ⟨c, h⟩ := h.req
    refine .inr (.inl ⟨_, _, rfl, rfl, ?_, ?_⟩)
    · rw [str_len, str_len, szl]; exact of_decide_eq_true c
    · rw [str_app]; exact h.ans re (.str _)
  case tup.tup a1 xs ds h1 t1 a2 ys es h2 t2 =>
    obtain ⟨c, h⟩ := h.req
    have c := of_decide_eq_true c
    refine .inr (.inr (.inl ⟨_, _, _, _, rfl, rfl, re.sto.gh.seqT h1, re.sto.gh.seqT h2, ?_, ?_, ?_, fun _ _ => h.newT re (t1.append t2)⟩))
    · rw [t1.length, t2.length, szl]; exact c
    · intro z
      subst z
      cases t1
      exact h.ans re (.tup h2 t2)
    · intro _ z
      subst z
      cases t2
      rw [List.append_nil] at h
      exact h.ans re (.tup h1 t1)
  case lst.lst a1 xs ds h1 t1 a2 ys es h2 t2 =>
    obtain ⟨c, h⟩ := h.req
    refine .inr (.inr (.inr ⟨_, _, _, _, rfl, rfl, h1, h2, ?_, h.newL re (t1.append t2)⟩))
    rw [t1.length, t2.length, szl]; exact of_decide_eq_true c
theorem bin_sub (f : Nat) : ∃ r, OpR X (binaryOp .Sub) r ∧ BinOk X.K C r (binD f .sub) := by
  refine ⟨_, op_sub, fun W σ g H e Q x y a b re hx hy h => ?_⟩
  cases hx <;> cases hy <;> first
    | exact h.elim
    | exact ⟨_, _, rfl, rfl, h.ans re (.int _)⟩
theorem bin_mul (f : Nat) : ∃ r, OpR X (binaryOp .Mult) r ∧ BinOk X.K C r (binD f .mul) := by
  refine ⟨_, op_mul.or op_rep, fun W σ g H e Q x y a b re hx hy h => ?_⟩
  cases hx <;> cases hy <;> try exact h.elim
  case int.int i j =>
    obtain ⟨c, h⟩ := h.req
    refine .inl ⟨_, _, rfl, rfl, ?_, h.ans re (.int _)⟩
    rcases Bool.or_eq_true_iff.mp c with c | c
    · exact .inl (small_of c)
    · exact .inr (small_of c)
  case lst.int a1 xs ds h1 t1 k =>
    obtain ⟨c, h⟩ := h.req
    simp only [Bool.and_eq_true, decide_eq_true_eq] at c
    refine .inr ⟨_, _, _, rfl, rfl, h1, by omega, by omega, ?_, h.newL re (t1.rep k.toNat)⟩
    rw [t1.length, szl]; exact c.2
theorem bin_fdiv (f : Nat) : ∃ r, OpR X (binaryOp .FloorDiv) r ∧ BinOk X.K C r (binD f .fdiv) := by
  refine ⟨_, op_fdiv, fun W σ g H e Q x y a b re hx hy h => ?_⟩
  cases hx <;> cases hy <;> try exact h.elim
  case int.int i j =>
    obtain ⟨c, h⟩ := h.req
    simp only [Bool.and_eq_true, decide_eq_true_eq] at c
    exact ⟨_, _, rfl, rfl, c, h.ans re (.int _)⟩
theorem bin_mod (f : Nat) : ∃ r, OpR X (binaryOp .Mod) r ∧ BinOk X.K C r (binD f .mod) := by
  refine ⟨_, op_mod, fun W σ g H e Q x y a b re hx hy h => ?_⟩
  cases hx <;> cases hy <;> try exact h.elim
  case int.int i j =>
    obtain ⟨c, h⟩ := h.req
    exact ⟨_, _, rfl, rfl, of_decide_eq_true c, h.ans re (.int _)⟩
theorem bin_pow (f : Nat) : ∃ r, OpR X (binaryOp .Pow) r ∧ BinOk X.K C r (binD f .pow) := by
  refine ⟨_, op_pow, fun W σ g H e Q x y a b re hx hy h => ?_⟩
  cases hx <;> cases hy <;> try exact h.elim
  case int.int i j =>
    obtain ⟨c, h⟩ := h.req
    simp only [Bool.and_eq_true, decide_eq_true_eq] at c
    exact ⟨_, _, rfl, rfl, ⟨c.1.1, c.1.2, by omega⟩, h.ans re (.int _)⟩
theorem bin_ok (f : Nat) : ∀ k : BinK, ∃ r, OpR X (binaryOp (opK k)) r ∧ BinOk X.K C r (binD f k)
  | .add => bin_add f
  | .sub => bin_sub f
  | .mul => bin_mul f
  | .fdiv => bin_fdiv f
  | .mod => bin_mod f
  | .pow => bin_pow f
theorem OpR.inp {r : R2} (h : ∀ v u, inplaceOp .Add v u = binaryOp .Add v u) (o : OpR X (binaryOp .Add) r) : OpR X (inplaceOp .Add) r := by
  have : inplaceOp .Add = binaryOp .Add := funext fun v => funext fun u => h v u
  rw [this]; exact o
theorem aug_ok : ∀ k : BinK, ∃ r, OpR X (inplaceOp (opK k)) r ∧ BinOk X.K C r (augD k)
  | .add => by
    refine ⟨_, iop_add.or iop_add_str, fun W σ g H e Q x y a b re hx hy h => ?_⟩
    cases hx <;> cases hy <;> try exact h.elim
    case int.int i j => exact .inl ⟨_, _, rfl, rfl, Post.ans re h (.int _)⟩
    case str.str s t =>
      obtain ⟨c, h⟩ := Post.req (b := decide (s.length + t.length ≤ SZ)) h
      refine .inr ⟨_, _, rfl, rfl, ?_, ?_⟩
      · rw [str_len, str_len, szl]; exact of_decide_eq_true c
      · rw [str_app]; exact h.ans re (.str _)
  | .sub => by
    refine ⟨_, iop_sub, fun W σ g H e Q x y a b re hx hy h => ?_⟩
    cases hx <;> cases hy <;> first
      | exact h.elim
      | exact ⟨_, _, rfl, rfl, Post.ans re h (.int _)⟩
  | .mul => ⟨_, iop_mul, fun W σ g H e Q x y a b re hx hy h => by cases a <;> cases b <;> exact h.elim⟩
  | .fdiv => ⟨_, iop_fdiv, fun W σ g H e Q x y a b re hx hy h => by cases a <;> cases b <;> exact h.elim⟩
  | .mod => ⟨_, iop_mod, fun W σ g H e Q x y a b re hx hy h => by cases a <;> cases b <;> exact h.elim⟩
  | .pow => ⟨_, fun pins s σ H x y v u Q I rx ry (h : False) => h.elim, fun W σ g H e Q x y a b re hx hy h => by cases a <;> cases b <;> exact h.elim⟩

/-! ### comparisons -/
def opC : CmpK → CmpOp
  | .eq => .Eq
  | .ne => .NotEq
  | .lt => .Lt
  | .le => .LtE
  | .gt => .Gt
  | .ge => .GtE
  | .isN => .Is
  | .notN => .IsNot
  | .inn => .In
  | .nin => .NotIn
def CmpOk (K : PySem.W.Frag) (C : Nat → Addr) (r : R2) (k : CmpK) : Prop :=
  ∀ (W : WX) (σ : St) (g : Gh) (H : Hp) (e : En) (Q : VK) (x y : V) (s t : Sl), Rel K e σ H g → RepS K g x s → RepS K g y t → Post K C (RepS K) W σ g H (cmpM k s t e) Q → r x y H Q
/-- from the values -/
theorem cmp_of {r : R2} {k : CmpK} (hk : ∀ s t, cmpM k s t = bnd (rdOf s) fun x => bnd (rdOf t) fun y => match cmpD k x y with | some b => ret (.val (.bl b)) | none => stk)
    (h : ∀ (W : WX) (σ : St) (g : Gh) (H : Hp) (e : En) (Q : VK) (x y : V) (a b : D) (c : Bool), Rel K e σ H g → Rd3 K g.G H x a → Rd3 K g.G H y b → cmpD k a b = some c → Q (.bl c) H → r x y H Q) : CmpOk K C r k := by
  intro W σ g H e Q x y s t re hx hy p
  rw [hk] at p
  obtain ⟨a, ha, p⟩ := Post.rd re hx p
  obtain ⟨b, hb, p⟩ := Post.rd re hy p
  cases hc : cmpD k a b with
  | none => rw [hc] at p; exact p.elim
  | some c => rw [hc] at p; exact h W σ g H e Q x y a b c re ha hb hc (p.ans re (.bl c))
theorem dec_sv {s t : List Nat} : decide (V.str ⟨s.toArray⟩ = V.str ⟨t.toArray⟩) = (s == t) := by
  rw [Bool.eq_iff_iff, decide_eq_true_eq, beq_iff_eq]
  constructor
  · intro h; injection h with h; exact str_inj.mp h
  · intro h; rw [h]
theorem lts_eq (a b : List Nat) : decide (((⟨a.toArray⟩ : Str).cps.toList) < ((⟨b.toArray⟩ : Str).cps.toList)) = ltS a b := by
  unfold ltS
  simp
theorem ints_of : ∀ {vs : List V} {ds : List D} {l : List Int}, Drs K G vs ds → intsOf ds = some l → vs = l.map V.int
  | _, _, _, .nil, h => by cases h; rfl
  | _, _, l, .cons (d := d) (ds := ds) a t, h => by
    cases a <;> first | (cases h; done) | skip
    case int i =>
      have h : (match intsOf ds with | some l => some (i :: l) | none => none) = some l := h
      cases hr : intsOf ds with
      | none => rw [hr] at h; cases h
      | some m => rw [hr] at h; cases h; rw [ints_of t hr]; rfl
theorem ltI_eq : ∀ xs ys : List Int, HT.lexLt xs ys = ltI xs ys
  | [], [] => rfl
  | [], _ :: _ => rfl
  | _ :: _, [] => rfl
  | x :: xs, y :: ys => by
    have ih := ltI_eq xs ys
    show (if x = y then HT.lexLt xs ys else decide (x < y)) = if x = y then ltI xs ys else decide (x < y)
    rw [ih]
theorem cmp_lt (hu : X.A.units + 64 < cLine) : ∃ r, OpR X (compareOp .Lt) r ∧ CmpOk X.K C r .lt := by
  refine ⟨_, (op_lt.or op_lt_str).or (op_ltT (by omega)), cmp_of (fun _ _ => rfl) fun W σ g H e Q x y a b c re hx hy hc q => ?_⟩
  cases hx <;> cases hy <;> (first | (cases hc; done) | skip)
  case int.int i j => cases hc; exact .inl (.inl ⟨_, _, rfl, rfl, q⟩)
  case str.str s t => cases hc; exact .inl (.inr ⟨_, _, rfl, rfl, by rw [lts_eq]; exact q⟩)
  case tup.tup a1 xs ds h t a2 ys es h2 t2 =>
    have hc : (match intsOf ds, intsOf es with | some x, some y => some (ltI x y) | _, _ => none) = some c := hc
    cases h3 : intsOf ds with
    | none => rw [h3] at hc; cases hc
    | some ns =>
      cases h4 : intsOf es with
      | none => rw [h3, h4] at hc; cases hc
      | some ms =>
        rw [h3, h4] at hc
        cases hc
        refine .inr ⟨_, _, ns, ms, rfl, rfl, ?_, ?_, by rw [ltI_eq]; exact q⟩
        · rw [← ints_of t h3]; exact re.sto.gh.seqT h
        · rw [← ints_of t2 h4]; exact re.sto.gh.seqT h2
theorem cmp_le : ∃ r, OpR X (compareOp .LtE) r ∧ CmpOk X.K C r .le := by
  refine ⟨_, op_le.or op_le_str, cmp_of (fun _ _ => rfl) fun W σ g H e Q x y a b c re hx hy hc q => ?_⟩
  cases hx <;> cases hy <;> (first | (cases hc; done) | skip)
  case int.int i j => cases hc; exact .inl ⟨_, _, rfl, rfl, q⟩
  case str.str s t => cases hc; exact .inr ⟨_, _, rfl, rfl, by rw [lts_eq]; exact q⟩
theorem cmp_gt : ∃ r, OpR X (compareOp .Gt) r ∧ CmpOk X.K C r .gt := by
  refine ⟨_, op_gt.or op_gt_str, cmp_of (fun _ _ => rfl) fun W σ g H e Q x y a b c re hx hy hc q => ?_⟩
  cases hx <;> cases hy <;> (first | (cases hc; done) | skip)
  case int.int i j => cases hc; exact .inl ⟨_, _, rfl, rfl, q⟩
  case str.str s t => cases hc; exact .inr ⟨_, _, rfl, rfl, by rw [lts_eq]; exact q⟩
theorem cmp_ge : ∃ r, OpR X (compareOp .GtE) r ∧ CmpOk X.K C r .ge := by
  refine ⟨_, op_ge.or op_ge_str, cmp_of (fun _ _ => rfl) fun W σ g H e Q x y a b c re hx hy hc q => ?_⟩
  cases hx <;> cases hy <;> (first | (cases hc; done) | skip)
  case int.int i j => cases hc; exact .inl ⟨_, _, rfl, rfl, q⟩
  case str.str s t => cases hc; exact .inr ⟨_, _, rfl, rfl, by rw [lts_eq]; exact q⟩
theorem RepS.non {g : Gh} {v : V} {s : Sl} (h : RepS K g v s) : decide (v = .non) = isNonS s := by
  cases s with
  | und => exact h.elim
  | xc _ _ =>
    obtain ⟨a, oe, d, rfl, _⟩ := h
    exact decide_eq_false fun z => by cases z
  | cel k => obtain ⟨a, _, rfl⟩ := h; rfl
  | val d =>
    have h : Dr K g.G v d := h
    cases h <;> rfl
theorem cmp_isN : ∃ r, OpR X (compareOp .Is) r ∧ CmpOk X.K C r .isN := by
  refine ⟨_, op_isN, fun W σ g H e Q x y s t re hx hy h => ?_⟩
  obtain ⟨c, h⟩ := Post.req (b := isNonS t) h
  refine ⟨of_decide_eq_true (by rw [hy.non]; exact c), ?_⟩
  rw [hx.non]
  exact h.ans re (.bl _)
theorem cmp_notN : ∃ r, OpR X (compareOp .IsNot) r ∧ CmpOk X.K C r .notN := by
  refine ⟨_, op_notN, fun W σ g H e Q x y s t re hx hy h => ?_⟩
  obtain ⟨c, h⟩ := Post.req (b := isNonS t) h
  refine ⟨of_decide_eq_true (by rw [hy.non]; exact c), ?_⟩
  rw [hx.non]
  exact h.ans re (.bl _)
end
end DL
/-! DL, part e: in, subscripts, slices, dicts, built-in functions and methods by values. -/
namespace DL
open PySem L2
variable [xb : Xb] [Tb]
section
variable {K : PySem.W.Frag} {C : Nat → Addr} {W : WX} {σ : St} {g : Gh} {H G : Hp} {e : En} {Q : VK} {X : Cx}
theorem Dr.flat {v : V} {d : D} (h : Dr K G v d) (f : flatD d = true) : flatV v = true := by
  cases h <;> first | rfl | cases f
theorem Rd3.flat {v : V} {d : D} (h : Rd3 K G H v d) (f : flatD d = true) : flatV v = true := by
  cases h <;> first | rfl | cases f
theorem Drs.flat : ∀ {vs : List V} {ds : List D}, Drs K G vs ds → ds.all flatD = true → vs.all flatV = true
  | _, _, .nil, _ => rfl
  | _, _, .cons h t, f => by
    rw [List.all_cons, Bool.and_eq_true] at f
    rw [List.all_cons, h.flat f.1, Drs.flat t f.2]; rfl
theorem beq_sv {a b : List Nat} : ((⟨a.toArray⟩ : Str) == ⟨b.toArray⟩) = (a == b) := by
  rw [Bool.eq_iff_iff, beq_iff_eq, beq_iff_eq, str_inj]
theorem eqV_of {v w : V} {d x : D} (h : Dr K G v d) (k : Rd3 K G H w x) (f : flatD d = true) (f' : flatD x = true) : eqV v w = eqD d x := by
  cases h <;> first | cases f | skip
  all_goals (cases k <;> first | rfl | exact beq_sv | cases f')
theorem inV_of {w : V} {x : D} (k : Rd3 K G H w x) (f' : flatD x = true) : ∀ {vs : List V} {ds : List D}, Drs K G vs ds → ds.all flatD = true → inV w vs = inDs x ds
  | _, _, .nil, _ => rfl
  | _, _, .cons h t, f => by
    rw [List.all_cons, Bool.and_eq_true] at f
    have ih := inV_of k f' t f.2
    unfold inV inDs at ih ⊢
    rw [List.any_cons, List.any_cons, eqV_of h k f.1 f', ih]
theorem mem_sv (c : Nat) (s : List Nat) : decide (c ∈ (⟨s.toArray⟩ : Str).cps.toList) = s.contains c := by
  rw [Bool.eq_iff_iff]
  simp
/-! x in l, of things of any depth -/
theorem op_inDs (hu : X.A.units + 64 < cLine) : OpR X (compareOp .In) (fun x y H Q => ∃ d ds, Dp X.K H x d ∧ Dp X.K H y (.list ds) ∧ d.canLay0 = true ∧ (PyData.list ds).canLay0 = true ∧ d.depth ≤ 63 ∧ Q (.bl (ds.any fun z => PyData.eqv z d)) H) := by
  intro pins s σ H x y v u Q I rx ry h
  obtain ⟨d, ds, hd, he, sd, se, l, q⟩ := h
  obtain ⟨as, r1⟩ := Dp.reads I d x v hd rx
  obtain ⟨bs, r2⟩ := Dp.reads I (.list ds) y u he ry
  exact SeqAt.in_list_reads r2 r1 se sd (by omega) ⟨.bl _, H, I, rfl, q⟩
theorem op_notInDs (hu : X.A.units + 64 < cLine) : OpR X (compareOp .NotIn) (fun x y H Q => ∃ d ds, Dp X.K H x d ∧ Dp X.K H y (.list ds) ∧ d.canLay0 = true ∧ (PyData.list ds).canLay0 = true ∧ d.depth ≤ 63 ∧ Q (.bl (!ds.any fun z => PyData.eqv z d)) H) := by
  intro pins s σ H x y v u Q I rx ry h
  obtain ⟨d, ds, hd, he, sd, se, l, q⟩ := h
  obtain ⟨as, r1⟩ := Dp.reads I d x v hd rx
  obtain ⟨bs, r2⟩ := Dp.reads I (.list ds) y u he ry
  exact SeqAt.notIn_list_reads r2 r1 se sd (by omega) ⟨.bl _, H, I, rfl, q⟩
theorem any_py {x : D} (hx : dep x ≤ 64) : ∀ {ys : List D}, deps ys ≤ 64 → ((toPys ys).any fun z => PyData.eqv z (toPy x)) = inDs x ys
  | [], _ => rfl
  | y :: ys, h => by
    have h : max (dep y) (deps ys) ≤ 64 := h
    have ih := any_py hx (ys := ys) (by omega)
    show ((PyData.eqv (toPy y) (toPy x)) || ((toPys ys).any fun z => PyData.eqv z (toPy x))) = (eqD y x || inDs x ys)
    rw [ih, eqv_py y x (by omega) hx]
theorem cmp_inn (hu : X.A.units + 64 < cLine) : ∃ r, OpR X (compareOp .In) r ∧ CmpOk X.K C r .inn := by
  refine ⟨_, (op_in_seq.or (op_inDs hu)).or op_in_sign, cmp_of (fun _ _ => rfl) fun W σ g H e Q x y a b c re hx hy hc q => ?_⟩
  cases hy with
  | @tup a1 xs ds h t =>
    have hc' : (if (flatD a && ds.all flatD) = true then some (inDs a ds) else none) = some c := by rw [← hc]; cases a <;> rfl
    split at hc'
    · rename_i f
      rw [Bool.and_eq_true] at f
      refine .inl (.inl ⟨_, _, rfl, .inr (re.sto.gh.seqT h), hx.flat f.1, t.flat f.2, ?_⟩)
      rw [if_neg Bool.false_ne_true, inV_of hx f.1 t f.2, Option.some.inj hc']
      exact q
    · cases hc'
  | @lst a1 xs ds h t =>
    have hc' : (if (flatD a && ds.all flatD) = true then some (inDs a ds) else if dep a ≤ 63 ∧ dep (.lst ds) ≤ 64 then some (inDs a ds) else none) = some c := by rw [← hc]; cases a <;> rfl
    split at hc'
    · rename_i f
      rw [Bool.and_eq_true] at f
      refine .inl (.inl ⟨_, _, rfl, .inl (SqL.of h), hx.flat f.1, t.flat f.2, ?_⟩)
      rw [if_neg Bool.false_ne_true, inV_of hx f.1 t f.2, Option.some.inj hc']
      exact q
    · split at hc'
      · rename_i f
        refine .inl (.inr ⟨toPy a, toPys ds, hx.dp re.sto.gh (by omega), (Rd3.lst h t).dp re.sto.gh f.2, (py_ok a (by omega)).1, (py_ok (.lst ds) f.2).1, by rw [(py_ok a (by omega)).2]; exact f.1, ?_⟩)
        rw [any_py (by omega) (by have := f.2; have e : dep (.lst ds) = 1 + deps ds := rfl; omega), Option.some.inj hc']
        exact q
      · cases hc'
  | str s =>
    cases hx with
    | str z =>
      match z, hc with
      | [n], hc =>
        cases hc
        exact .inr ⟨n, _, rfl, rfl, by rw [mem_sv]; exact q⟩
      | [], hc => cases hc
      | _ :: _ :: _, hc => cases hc
    | _ => cases hc
  | _ => cases a <;> cases hc
theorem cmp_nin (hu : X.A.units + 64 < cLine) : ∃ r, OpR X (compareOp .NotIn) r ∧ CmpOk X.K C r .nin := by
  refine ⟨_, (op_notIn_seq.or (op_notInDs hu)).or op_notIn_sign, cmp_of (fun _ _ => rfl) fun W σ g H e Q x y a b c re hx hy hc q => ?_⟩
  cases hy with
  | @tup a1 xs ds h t =>
    have hc' : (if (flatD a && ds.all flatD) = true then some (!inDs a ds) else none) = some c := by rw [← hc]; cases a <;> rfl
    split at hc'
    · rename_i f
      rw [Bool.and_eq_true] at f
      refine .inl (.inl ⟨_, _, rfl, .inr (re.sto.gh.seqT h), hx.flat f.1, t.flat f.2, ?_⟩)
      rw [if_pos rfl, inV_of hx f.1 t f.2, Option.some.inj hc']
      exact q
    · cases hc'
  | @lst a1 xs ds h t =>
    have hc' : (if (flatD a && ds.all flatD) = true then some (!inDs a ds) else if dep a ≤ 63 ∧ dep (.lst ds) ≤ 64 then some (!inDs a ds) else none) = some c := by rw [← hc]; cases a <;> rfl
    split at hc'
    · rename_i f
      rw [Bool.and_eq_true] at f
      refine .inl (.inl ⟨_, _, rfl, .inl (SqL.of h), hx.flat f.1, t.flat f.2, ?_⟩)
      rw [if_pos rfl, inV_of hx f.1 t f.2, Option.some.inj hc']
      exact q
    · split at hc'
      · rename_i f
        refine .inl (.inr ⟨toPy a, toPys ds, hx.dp re.sto.gh (by omega), (Rd3.lst h t).dp re.sto.gh f.2, (py_ok a (by omega)).1, (py_ok (.lst ds) f.2).1, by rw [(py_ok a (by omega)).2]; exact f.1, ?_⟩)
        rw [any_py (by omega) (by have := f.2; have e : dep (.lst ds) = 1 + deps ds := rfl; omega), Option.some.inj hc']
        exact q
      · cases hc'
  | str s =>
    cases hx with
    | str z =>
      match z, hc with
      | [n], hc =>
        cases hc
        exact .inr ⟨n, _, rfl, rfl, by rw [mem_sv]; exact q⟩
      | [], hc => cases hc
      | _ :: _ :: _, hc => cases hc
    | _ => cases hc
  | _ => cases a <;> cases hc
/-! ### subscripts, slices -/
theorem atI_of {vs : List V} {ds : List D} {i : Int} {d : D} (t : Drs K G vs ds) (h : atP ds i = some d) : ∃ v, atI vs i = some v ∧ Dr K G v d := by
  unfold atP ixP at h
  unfold atI ixN
  rw [t.length]
  split at h
  · rename_i j hj
    obtain ⟨v, h1, h2⟩ := t.get h
    exact ⟨v, by rw [hj]; exact h1, h2⟩
  · cases h
theorem Post.opt {o : Option D} (re : Rel K e σ H g) (h : Post K C (RepS K) W σ g H (optS o e) Q) : ∃ d, o = some d ∧ ∀ v, Dr K g.G v d → Q v H := by
  cases o with
  | none => exact h.elim
  | some d => exact ⟨d, rfl, fun v r => Post.ans re h r⟩
theorem ix_ok : ∃ r, IxR X r ∧ ∀ (W : WX) (σ : St) (g : Gh) (H : Hp) (e : En) (Q : VK) (x y : V) (s t : Sl), Rel X.K e σ H g → RepS X.K g x s → RepS X.K g y t → Post X.K C (RepS X.K) W σ g H (idxM s t e) Q → r x y H Q := by
  refine ⟨_, ix_seq, fun W σ g H e Q x y s t re hx hy h => ?_⟩
  obtain ⟨i, hi, h⟩ := Post.rd re hy h
  cases s with
  | und => exact hx.elim
  | xc _ _ => cases hi <;> exact h.elim
  | cel k =>
    obtain ⟨a, hk, rfl⟩ := hx
    cases hi <;> first | exact h.elim | skip
    case int j =>
      simp only at h
      cases hc : e.cs[k]? with
      | none => rw [hc] at h; exact h.elim
      | some c =>
        rw [hc] at h
        have ce := re.sto.cel k a c hk hc
        cases c with
        | gone => exact h.elim
        | dct _ _ => exact h.elim
        | lst xs =>
          obtain ⟨d, hd, q⟩ := Post.opt re h
          obtain ⟨_, ys, hy, ty⟩ := ce
          obtain ⟨v, hv, rv⟩ := atI_of ty hd
          exact .inl ⟨_, _, _, _, rfl, rfl, SqL.of hy, hv, q v rv⟩
        | rls ids =>
          obtain ⟨_, as, hy, ty⟩ := ce
          simp only at h
          cases ha : atP ids j with
          | none => rw [ha] at h; exact h.elim
          | some m =>
            rw [ha] at h
            unfold atP at ha
            cases hp : ixP ids.length j with
            | none => rw [hp] at ha; cases ha
            | some n =>
              rw [hp] at ha
              have hl : ids.length = as.length := by simpa using congrArg List.length ty
              have e1 : (ids.map fun i => g.adr[i]?)[n]? = some (g.adr[m]?) := by rw [List.getElem?_map]; simp only at ha; rw [ha]; rfl
              rw [ty, List.getElem?_map] at e1
              cases e2 : as[n]? with
              | none => rw [e2] at e1; cases e1
              | some b =>
                rw [e2] at e1
                have e3 : g.adr[m]? = some b := (Option.some.inj e1).symm
                refine .inl ⟨_, _, _, .ref b, rfl, rfl, SqL.of hy, ?_, h (.ref b) g H re (Stp.refl g H) ⟨b, e3, rfl⟩⟩
                unfold atI ixN
                unfold ixP at hp
                rw [List.length_map, ← hl, hp]
                show (as.map V.ref)[n]? = _
                rw [List.getElem?_map, e2]; rfl
  | val d =>
    have hx : Dr X.K g.G x d := hx
    cases hx with
    | lst h1 t1 =>
      cases hi <;> first | exact h.elim | skip
      case int j =>
        obtain ⟨d, hd, q⟩ := Post.opt re h
        obtain ⟨v, hv, rv⟩ := atI_of t1 hd
        exact .inl ⟨_, _, _, _, rfl, rfl, SqL.of (re.sto.gh _ _ h1), hv, q v rv⟩
    | frl h1 t1 =>
      cases hi <;> first | exact h.elim | skip
      case int j =>
        obtain ⟨d, hd, q⟩ := Post.opt re h
        obtain ⟨v, hv, rv⟩ := atI_of t1 hd
        exact .inl ⟨_, _, _, _, rfl, rfl, re.sto.gh.seqL h1, hv, q v rv⟩
    | tup h1 t1 =>
      cases hi <;> first | exact h.elim | skip
      case int j =>
        obtain ⟨d, hd, q⟩ := Post.opt re h
        obtain ⟨v, hv, rv⟩ := atI_of t1 hd
        exact .inr (.inl ⟨_, _, _, _, rfl, rfl, re.sto.gh.seqT h1, hv, q v rv⟩)
    | str z =>
      cases hi <;> first | exact h.elim | skip
      case int j =>
        simp only at h
        cases hz : decide (z.length ≤ SZ) with
        | false => rw [hz] at h; exact h.elim
        | true =>
          cases hc : atP z j with
          | none => rw [hz, hc] at h; exact h.elim
          | some c =>
            rw [hz, hc] at h
            refine .inr (.inr ⟨_, _, c, rfl, rfl, ?_, ?_, h _ g H re (Stp.refl g H) (.str [c])⟩)
            · rw [str_len, szl]; exact of_decide_eq_true hz
            · unfold atP ixP at hc
              unfold atI ixN
              simp only [List.toList_toArray]
              split at hc
              · rename_i n hn; rw [hn]; exact hc
              · cases hc
    | non => cases i <;> exact h.elim
    | bl b => cases i <;> exact h.elim
    | int b => cases i <;> exact h.elim
    | dct _ _ _ => cases i <;> exact h.elim
theorem ixB_eq (n d : Nat) (o : Option Int) : HT.sIx n d o = ixB n d o := by
  cases o <;> rfl
theorem Drs.cut {vs : List V} {ds : List D} (t : Drs K G vs ds) (lo hi : Option Int) : Drs K G (cutV vs lo hi) (cutL ds lo hi) := by
  unfold cutV cutL
  rw [ixB_eq, ixB_eq, t.length]
  exact (t.drop _).take _
theorem cut_whole {ds : List D} {lo hi : Option Int} (h : HT.sIx ds.length 0 lo = 0 ∧ HT.sIx ds.length ds.length hi = ds.length) : cutL ds lo hi = ds := by
  unfold cutL
  rw [← ixB_eq, ← ixB_eq, h.1, h.2]
  simp
theorem sl_ok (f : Nat) : ∃ r, SlR X r ∧ ∀ (W : WX) (σ : St) (g : Gh) (H : Hp) (e : En) (Q : VK) (x : V) (s : Sl) (lo hi : Option Int), Rel X.K e σ H g → RepS X.K g x s → Post X.K C (RepS X.K) W σ g H (sliceM f s lo hi e) Q → r x lo hi H Q := by
  refine ⟨_, sl_list.or (sl_tupA.or sl_str), fun W σ g H e Q x s lo hi re hx h => ?_⟩
  obtain ⟨d, hd, h⟩ := Post.rd re hx h
  cases hd <;> first | exact h.elim | skip
  case lst h1 t1 => exact .inl ⟨_, _, rfl, SqL.of h1, Post.newL re h (t1.cut lo hi)⟩
  case frl h1 t1 => exact .inl ⟨_, _, rfl, re.sto.gh.seqL h1, Post.newL re h (t1.cut lo hi)⟩
  case tup h1 t1 =>
    refine .inr (.inl ⟨_, _, rfl, re.sto.gh.seqT h1, fun z => ?_, fun _ => Post.newT re h (t1.cut lo hi)⟩)
    rw [t1.length] at z
    have h' := h
    simp only [cut_whole z] at h'
    exact Post.ans re h' (.tup h1 t1)
  case str z =>
    obtain ⟨c, h⟩ := Post.req h
    refine .inr (.inr ⟨_, rfl, ?_, ?_⟩)
    · rw [str_len, szl]; exact of_decide_eq_true c
    · have e1 : cutS ⟨z.toArray⟩ lo hi = ⟨(cutL z lo hi).toArray⟩ := by
        unfold cutS cutL
        rw [ixB_eq, ixB_eq, str_len]
      rw [e1]
      exact Post.ans re h (.str _)

/-! ### dicts -/
theorem keyD_of {v : V} {d : D} (h : Rd3 K G H v d) (f : keyD d = true) : ∃ k : Key, v = kV k ∧ ∀ (k' : Key) (d' : D), Dr K G (kV k') d' → eqD d' d = decide (k' = k) := by
  cases h <;> first | cases f | skip
  case int i =>
    refine ⟨.inl i, rfl, fun k' d' h' => ?_⟩
    cases k' with
    | inl j =>
      cases h'
      show (j == i) = decide ((Sum.inl j : Key) = Sum.inl i)
      rw [key_ll]
    | inr x =>
      have h' : Dr K G (.str x) d' := h'
      cases h'
      exact (key_rl _ _).symm
  case str s =>
    refine ⟨.inr ⟨s.toArray⟩, rfl, fun k' d' h' => ?_⟩
    cases k' with
    | inl j =>
      cases h'
      exact (key_lr _ _).symm
    | inr x =>
      have h' : Dr K G (.str x) d' := h'
      cases h' with
      | str t =>
        show (t == s) = decide ((Sum.inr _ : Key) = Sum.inr _)
        rw [key_rr, Bool.eq_iff_iff, beq_iff_eq, decide_eq_true_eq, str_inj]
theorem look_of {d : D} {k : Key} (hk : ∀ (k' : Key) (d' : D), Dr K G (kV k') d' → eqD d' d = decide (k' = k)) : ∀ {kvs : List (Key × V)} {ks vs : List D},
    Drs K G (kvs.map fun p => kV p.1) ks → Drs K G (kvs.map fun p => p.2) vs → (lookD d ks vs = none ∧ valV kvs k = none) ∨ ∃ x v, lookD d ks vs = some x ∧ valV kvs k = some v ∧ Dr K G v x
  | [], _, _, h1, h2 => by
    cases h1
    cases h2
    exact .inl ⟨rfl, rfl⟩
  | p :: kvs, _, _, h1, h2 => by
    cases h1 with
    | cons a1 t1 =>
      cases h2 with
      | cons a2 t2 =>
        rename_i x ks y vs
        have e := hk p.1 x a1
        by_cases c : p.1 = k
        · rw [decide_eq_true c] at e
          refine .inr ⟨y, p.2, ?_, valV_pos c, a2⟩
          show (if eqD x d = true then some y else _) = _
          rw [if_pos e]
        · rw [decide_eq_false c] at e
          rw [valV_neg c]
          have e2 : lookD d (x :: ks) (y :: vs) = lookD d ks vs := by
            show (if eqD x d = true then some y else _) = _
            rw [if_neg (by rw [e]; exact Bool.false_ne_true)]
          rw [e2]
          exact look_of hk t1 t2
theorem putV_of {d z : D} {k : Key} {w : V} (hk : ∀ (k' : Key) (d' : D), Dr K G (kV k') d' → eqD d' d = decide (k' = k)) (hz : Dr K G w z) : ∀ {kvs : List (Key × V)} {ks vs : List D},
    Drs K G (kvs.map fun p => kV p.1) ks → Drs K G (kvs.map fun p => p.2) vs → Drs K G ((kvs.map fun kv => if kv.1 = k then (kv.1, w) else kv).map fun p => p.2) (putVs d z ks vs) ∧ (kvs.map fun kv => if kv.1 = k then (kv.1, w) else kv).map (fun p => kV p.1) = kvs.map fun p => kV p.1
  | [], _, _, h1, h2 => by
    cases h1
    cases h2
    exact ⟨.nil, rfl⟩
  | p :: kvs, _, _, h1, h2 => by
    cases h1 with
    | cons a1 t1 =>
      cases h2 with
      | cons a2 t2 =>
        rename_i x ks y vs
        obtain ⟨i1, i2⟩ := putV_of hk hz t1 t2
        have e := hk p.1 x a1
        by_cases c : p.1 = k
        · rw [decide_eq_true c] at e
          refine ⟨?_, ?_⟩
          · show Drs K G ((if p.1 = k then (p.1, w) else p).2 :: _) ((if eqD x d = true then z else y) :: putVs d z ks vs)
            rw [if_pos c, if_pos e]
            exact .cons hz i1
          · show kV (if p.1 = k then (p.1, w) else p).1 :: _ = kV p.1 :: _
            rw [if_pos c, i2]
        · rw [decide_eq_false c] at e
          refine ⟨?_, ?_⟩
          · show Drs K G ((if p.1 = k then (p.1, w) else p).2 :: _) ((if eqD x d = true then z else y) :: putVs d z ks vs)
            rw [if_neg c, if_neg (by rw [e]; exact Bool.false_ne_true)]
            exact .cons a2 i1
          · show kV (if p.1 = k then (p.1, w) else p).1 :: _ = kV p.1 :: _
            rw [if_neg c, i2]
/-! ### equal things -/
theorem same_flat {v w : V} {d x : D} (h : Dr K G v d) (k : Dr K G w x) (s : same d x = true) (f : flatD d = true) : v = w := by
  cases h <;> first | (cases f; done) | skip
  all_goals (cases k <;> first | rfl | (cases s; done) | skip)
  case bl.bl a b => rw [eq_of_beq (show (a == b) = true from s)]
  case int.int a b => rw [eq_of_beq (show (a == b) = true from s)]
  case str.str a b => rw [eq_of_beq (show (a == b) = true from s)]
theorem dct_all {lvs : List (Key × V)} {ls ws : List D} (h1 : Drs K G (lvs.map fun p => kV p.1) ls) (h2 : Drs K G (lvs.map fun p => p.2) ws) : ∀ {kvs : List (Key × V)} {ks vs : List D},
    Drs K G (kvs.map fun p => kV p.1) ks → Drs K G (kvs.map fun p => p.2) vs → dctEq ks vs ls ws = true → ∀ p ∈ kvs, valV lvs p.1 = some p.2 ∧ flatB p.2 = true
  | [], _, _, _, _, _, p, hp => absurd hp (by simp)
  | q :: kvs, _, _, k1, k2, h, p, hp => by
    cases k1 with
    | cons a1 t1 =>
      cases k2 with
      | cons a2 t2 =>
        rename_i x ks y vs
        unfold dctEq at h
        rw [Bool.and_eq_true, Bool.and_eq_true] at h
        obtain ⟨⟨h3, h4⟩, h5⟩ := h
        rcases List.mem_cons.mp hp with e | e
        · subst e
          obtain ⟨k, e1, e2⟩ := keyD_of (H := G) (Rd3.of a1 (LeH.refl _)) h4
          have e3 : p.1 = k := by
            have := e2 p.1 x a1
            have r : eqD x x = true := by
              cases x <;> first | (cases h4; done) | exact beq_self_eq_true _
            rw [r] at this
            exact of_decide_eq_true this.symm
          rcases look_of e2 h1 h2 with ⟨z1, _⟩ | ⟨z, v, z1, z2, z3⟩
          · rw [z1] at h3; cases h3
          · rw [z1] at h3
            rw [Bool.and_eq_true] at h3
            have e4 : p.2 = v := same_flat a2 z3 h3.1 h3.2
            have e5 : flatV p.2 = true := a2.flat h3.2
            rw [e3, z2, e4]
            rw [e4] at e5
            refine ⟨rfl, ?_⟩
            cases v <;> first | rfl | cases e5
        · exact dct_all h1 h2 t1 t2 h5 p e
theorem cmp_eq (hu : X.A.units + 64 < cLine) : ∃ r, OpR X (compareOp .Eq) r ∧ CmpOk X.K C r .eq := by
  refine ⟨_, (op_eq.or (op_eqD hu)).or (op_eq_dictA (by omega)), cmp_of (fun _ _ => rfl) fun W σ g H e Q x y a b c re hx hy hc q => ?_⟩
  by_cases hs : ∃ s t, a = .str s ∧ b = .str t
  · obtain ⟨s, t, rfl, rfl⟩ := hs
    cases hx
    cases hy
    simp only [cmpD, Option.some.injEq] at hc
    subst hc
    refine .inl (.inl ⟨rfl, ?_⟩)
    rw [dec_sv]; exact q
  by_cases hd2 : ∃ ks vs ls ws, a = .dct ks vs ∧ b = .dct ls ws
  · obtain ⟨ks, vs, ls, ws, rfl, rfl⟩ := hd2
    cases hx with
    | dct h1 t1 u1 =>
      cases hy with
      | dct h2 t2 u2 =>
        have hc' : (if ks.length = ls.length ∧ dctEq ks vs ls ws = true then some true else none) = some c := hc
        split at hc'
        · rename_i f
          cases hc'
          have l1 := t1.length
          have l2 := t2.length
          rw [List.length_map] at l1 l2
          exact .inr ⟨_, _, _, _, rfl, rfl, h1, h2, by rw [l1, l2]; exact f.1, dct_all t2 u2 t1 u1 f.2, q⟩
        · cases hc'
  · have hc' : (if dep a ≤ 64 ∧ dep b ≤ 64 then some (eqD a b) else none) = some c := by
      rw [← hc]
      cases a <;> cases b <;> first | rfl | exact absurd ⟨_, _, rfl, rfl⟩ hs | exact absurd ⟨_, _, _, _, rfl, rfl⟩ hd2
    split at hc'
    · rename_i hd
      refine .inl (.inr ⟨toPy a, toPy b, hx.dp re.sto.gh hd.1, hy.dp re.sto.gh hd.2, shaped_of hd.1, shaped_of hd.2, ?_⟩)
      rw [eqv_py a b hd.1 hd.2, Option.some.inj hc']
      exact q
    · cases hc'
theorem cmp_ne (hu : X.A.units + 64 < cLine) : ∃ r, OpR X (compareOp .NotEq) r ∧ CmpOk X.K C r .ne := by
  refine ⟨_, (op_ne.or (op_neD hu)).or (op_ne_dictA (by omega)), cmp_of (fun _ _ => rfl) fun W σ g H e Q x y a b c re hx hy hc q => ?_⟩
  by_cases hs : ∃ s t, a = .str s ∧ b = .str t
  · obtain ⟨s, t, rfl, rfl⟩ := hs
    cases hx
    cases hy
    simp only [cmpD, Option.some.injEq] at hc
    subst hc
    refine .inl (.inl ⟨rfl, ?_⟩)
    rw [dec_sv]; exact q
  by_cases hd2 : ∃ ks vs ls ws, a = .dct ks vs ∧ b = .dct ls ws
  · obtain ⟨ks, vs, ls, ws, rfl, rfl⟩ := hd2
    cases hx with
    | dct h1 t1 u1 =>
      cases hy with
      | dct h2 t2 u2 =>
        have hc' : (if ks.length = ls.length ∧ dctEq ks vs ls ws = true then some false else none) = some c := hc
        split at hc'
        · rename_i f
          cases hc'
          have l1 := t1.length
          have l2 := t2.length
          rw [List.length_map] at l1 l2
          exact .inr ⟨_, _, _, _, rfl, rfl, h1, h2, by rw [l1, l2]; exact f.1, dct_all t2 u2 t1 u1 f.2, q⟩
        · cases hc'
  · have hc' : (if dep a ≤ 64 ∧ dep b ≤ 64 then some (!eqD a b) else none) = some c := by
      rw [← hc]
      cases a <;> cases b <;> first | rfl | exact absurd ⟨_, _, rfl, rfl⟩ hs | exact absurd ⟨_, _, _, _, rfl, rfl⟩ hd2
    split at hc'
    · rename_i hd
      refine .inl (.inr ⟨toPy a, toPy b, hx.dp re.sto.gh hd.1, hy.dp re.sto.gh hd.2, shaped_of hd.1, shaped_of hd.2, ?_⟩)
      rw [eqv_py a b hd.1 hd.2, Option.some.inj hc']
      exact q
    · cases hc'
theorem cmp_ok (hu : X.A.units + 64 < cLine) : ∀ k : CmpK, ∃ r, OpR X (compareOp (opC k)) r ∧ CmpOk X.K C r k
  | .eq => cmp_eq hu
  | .ne => cmp_ne hu
  | .lt => cmp_lt hu
  | .le => cmp_le
  | .gt => cmp_gt
  | .ge => cmp_ge
  | .isN => cmp_isN
  | .notN => cmp_notN
  | .inn => cmp_inn hu
  | .nin => cmp_nin hu

end
end DL
/-! DL, part x: sorted lists. -/
namespace DL
open PySem L2 PySem.W
variable [xb : Xb] [Tb]
mutual
theorem alk_py : ∀ x y : D, alkD x y = true → alike (toPy x) (toPy y) = true
  | .int _, y, h => by cases y <;> first | rfl | cases h
  | .str _, y, h => by cases y <;> first | rfl | cases h
  | .tup a, y, h => by
    cases y <;> first | (cases h; done) | skip
    case tup b =>
      show alikeAll (toPys a) (toPys b) = true
      exact alks_py a b h
  | .non, y, h => by cases y <;> cases h
  | .bl _, y, h => by cases y <;> cases h
  | .lst _, y, h => by cases y <;> cases h
  | .dct _ _, y, h => by cases y <;> cases h
  | .frl _, y, h => by cases y <;> cases h
theorem alks_py : ∀ xs ys : List D, alkDs xs ys = true → alikeAll (toPys xs) (toPys ys) = true
  | [], ys, _ => by cases ys <;> rfl
  | x :: xs, [], _ => rfl
  | x :: xs, y :: ys, h => by
    unfold alkDs at h
    rw [Bool.and_eq_true] at h
    show (alike (toPy x) (toPy y) && alikeAll (toPys xs) (toPys ys)) = true
    rw [alk_py x y h.1, alks_py xs ys h.2]; rfl
end
theorem lt_nat (a b : List Nat) : dataLt (.str ⟨a.toArray⟩) (.str ⟨b.toArray⟩) = decide (a < b) := by
  have := dataLe_str (β := PySem.Str) id
  have e := congrFun (congrFun this ⟨b.toArray⟩) ⟨a.toArray⟩
  rw [dataLe_eq] at e
  have e : (!dataLt (.str ⟨a.toArray⟩) (.str ⟨b.toArray⟩)) = decide (b ≤ a) := e
  have e3 : decide (a < b) = !decide (b ≤ a) := by
    by_cases h : a < b
    · rw [decide_eq_true h, decide_eq_false (List.not_le.mpr h)]; rfl
    · rw [decide_eq_false h, decide_eq_true (List.not_lt.mp h)]; rfl
  rw [e3, ← e]; simp
theorem lt_int (a b : Int) : dataLt (.int a) (.int b) = decide (a < b) := by
  have := dataLe_int (β := Int) id
  have e := congrFun (congrFun this b) a
  rw [dataLe_eq] at e
  have e : (!dataLt (.int a) (.int b)) = decide (b ≤ a) := e
  have e3 : decide (a < b) = !decide (b ≤ a) := by
    by_cases h : a < b
    · rw [decide_eq_true h, decide_eq_false (by omega)]; rfl
    · rw [decide_eq_false h, decide_eq_true (by omega)]; rfl
  rw [e3, ← e]; simp
mutual
theorem lt_py : ∀ x y : D, alkD x y = true → dep x ≤ 64 → dep y ≤ 64 → dataLt (toPy x) (toPy y) = ltD x y
  | .int a, y, h, _, _ => by
    cases y with
    | int b => exact lt_int a b
    | _ => cases h
  | .str a, y, h, _, _ => by
    cases y with
    | str b => exact lt_nat a b
    | _ => cases h
  | .tup a, y, h, h1, h2 => by
    cases y with
    | tup b =>
      have h1 : 1 + deps a ≤ 64 := h1
      have h2 : 1 + deps b ≤ 64 := h2
      show rowLt (toPys a) (toPys b) = ltDs a b
      exact lts_py a b h (by omega) (by omega)
    | _ => cases h
  | .non, y, h, _, _ => by cases y <;> cases h
  | .bl _, y, h, _, _ => by cases y <;> cases h
  | .lst _, y, h, _, _ => by cases y <;> cases h
  | .dct _ _, y, h, _, _ => by cases y <;> cases h
  | .frl _, y, h, _, _ => by cases y <;> cases h
theorem lts_py : ∀ xs ys : List D, alkDs xs ys = true → deps xs ≤ 64 → deps ys ≤ 64 → rowLt (toPys xs) (toPys ys) = ltDs xs ys
  | [], [], _, _, _ => rfl
  | [], y :: ys, _, _, _ => rfl
  | x :: xs, [], _, _, _ => rfl
  | x :: xs, y :: ys, h, h1, h2 => by
    unfold alkDs at h
    rw [Bool.and_eq_true] at h
    have h1 : max (dep x) (deps xs) ≤ 64 := h1
    have h2 : max (dep y) (deps ys) ≤ 64 := h2
    have e := dataLt_cons (alk_py x y h.1) (toPys xs) (toPys ys)
    have e : rowLt (toPy x :: toPys xs) (toPy y :: toPys ys) = if PyData.eqv (toPy x) (toPy y) = true then rowLt (toPys xs) (toPys ys) else dataLt (toPy x) (toPy y) := e
    show rowLt (toPy x :: toPys xs) (toPy y :: toPys ys) = _
    rw [e, eqv_py x y (by omega) (by omega), lts_py xs ys h.2 (by omega) (by omega), lt_py x y h.1 (by omega) (by omega)]
    rfl
end
theorem dep_of : ∀ {xs : List D} {x : D}, x ∈ xs → dep x ≤ deps xs
  | y :: ys, x, h => by
    show dep x ≤ max (dep y) (deps ys)
    rcases List.mem_cons.mp h with rfl | h
    · omega
    · have := dep_of h; omega
theorem py_depth {xs : List D} {x : D} (h : x ∈ xs) (hd : deps xs ≤ 60) : (toPy x).depth ≤ 60 := by
  have := dep_of h
  rw [(py_ok x (by omega)).2]; omega
/-- what pairs a value with its data -/
structure Pr2 (X : Cx) (H : Hp) (v : Value) (p : V × D) : Prop where
  r : RelV p.1 v
  d : Dp X.K H p.1 (toPy p.2)
theorem each2 {X : Cx} {H : Hp} : ∀ {us : List Value} {vs : List V} {ds : List D}, Vals vs us → DpAll X.K H vs (toPys ds) → EachIs (Pr2 X H) us (vs.zip ds)
  | _, [], [], .nil, _ => .nil
  | _, [], _ :: _, .nil, h => by cases h
  | _ :: _, v :: vs, [], _, h => by cases h
  | u :: us, v :: vs, d :: ds, .cons r t, .cons h k => .cons ⟨r, h⟩ (each2 t k)
theorem each_vals {X : Cx} {H : Hp} : ∀ {us : List Value} {ps : List (V × D)}, EachIs (Pr2 X H) us ps → Vals (ps.map Prod.fst) us
  | _, _, .nil => .nil
  | _, _, .cons h t => .cons h.r (each_vals t)
theorem drs_zip {K : PySem.W.Frag} {G : Hp} : ∀ {vs : List V} {ds : List D}, Drs K G vs ds → (vs.zip ds).map Prod.snd = ds ∧ ∀ p ∈ vs.zip ds, Dr K G p.1 p.2
  | _, _, .nil => ⟨rfl, fun p h => by cases h⟩
  | _, _, .cons h t => by
    obtain ⟨e1, e2⟩ := drs_zip t
    refine ⟨by rw [List.zip_cons_cons, List.map_cons, e1], fun p hp => ?_⟩
    rcases List.mem_cons.mp hp with rfl | hp
    · exact h
    · exact e2 p hp
theorem drs_maps {K : PySem.W.Frag} {G : Hp} : ∀ {ps : List (V × D)}, (∀ p ∈ ps, Dr K G p.1 p.2) → Drs K G (ps.map Prod.fst) (ps.map Prod.snd)
  | [], _ => .nil
  | p :: r, h => .cons (h p List.mem_cons_self) (drs_maps fun q hq => h q (List.mem_cons_of_mem _ hq))
theorem sz_le {n : Nat} (h : n ≤ SZ) : n ≤ sizeLine := by
  rw [sizeLine_eq]; exact h
def rSortedD (K : PySem.W.Frag) : List V → Hp → VK → Prop := fun vs H Q => ∃ (a : Addr) (xs : List V) (ds : List D) (G : Hp), vs = [V.ref a] ∧ SqL K H a xs ∧ srtOk ds = true ∧ LeH G H ∧ Drs K G xs ds ∧
  ∀ ys, Drs K G ys (ds.mergeSort leD) → ∀ p, H p = none → Q (.ref p) (upd H p (.lst ys))
theorem cr_sortedD {X : Cx} (hu : X.A.units + 64 < cLine) : CallR X (.builtin "sorted") (rSortedD X.K) := by
  intro pins s σ H vs us Q I r h
  obtain ⟨a, xs, ds, G, rfl, hs, ho, le, dr, q⟩ := h
  obtain ⟨its, rv, hl, hz⟩ := I.list hs
  obtain ⟨u, rfl, ru⟩ := vals1 r
  obtain rfl : u = Value.ref a := ru
  unfold srtOk at ho
  simp only [Bool.and_eq_true, Bool.or_eq_true, decide_eq_true_eq, List.all_eq_true] at ho
  obtain ⟨⟨⟨hal, htp⟩, hdep⟩, hlen⟩ := ho
  have dp : DpAll X.K H xs (toPys ds) := Drs.dp (by omega) (dr.mono le)
  have ea := each2 rv dp
  obtain ⟨z1, z2⟩ := drs_zip dr
  have zmem : ∀ p ∈ xs.zip ds, p.2 ∈ ds := fun p hp => by rw [← z1]; exact List.mem_map_of_mem hp
  have zlen : (xs.zip ds).length = ds.length := by rw [← congrArg List.length z1, List.length_map]
  refine sorted_data (enc := fun p : V × D => toPy p.2) (bs := xs.zip ds) (R := Pr2 X H) hl.isList ea (ea.mono fun v p h => Dp.reads I _ _ _ h.d h.r) ?_ ?_ (by rw [zlen]; exact sz_le hlen) ?_ fun out hlo eo => ?_
  · intro d hd d' hd'
    obtain ⟨p, hp, rfl⟩ := List.mem_map.mp hd
    obtain ⟨p', hp', rfl⟩ := List.mem_map.mp hd'
    exact alk_py _ _ (hal _ (zmem p hp) _ (zmem p' hp'))
  · rcases htp with h | h
    · refine .inl fun d hd => ?_
      obtain ⟨p, hp, rfl⟩ := List.mem_map.mp hd
      have := h _ (zmem p hp)
      obtain ⟨v, w⟩ := p
      cases w with
      | tup l =>
        cases l with
        | nil => cases this
        | cons b l => exact ⟨toPy b, toPys l, rfl⟩
      | _ => cases this
    · refine .inr fun d hd => ?_
      obtain ⟨p, hp, rfl⟩ := List.mem_map.mp hd
      have := h _ (zmem p hp)
      obtain ⟨v, w⟩ := p
      cases w with
      | int i => exact ⟨fun z => (by cases z), fun xs z => (by cases z)⟩
      | str i => exact ⟨fun z => (by cases z), fun xs z => (by cases z)⟩
      | _ => cases this
  · intro p hp
    have := py_depth (zmem p hp) hdep
    omega
  · have key : ((xs.zip ds).mergeSort (dataLe false fun p : V × D => toPy p.2)).map Prod.snd = ds.mergeSort leD := by
      rw [sort_maps (s := leD) Prod.snd, z1]
      intro p hp p' hp'
      rw [dataLe_eq]
      show (!dataLt (toPy p'.2) (toPy p.2)) = !ltD p'.2 p.2
      have d1 := dep_of (zmem p hp)
      have d2 := dep_of (zmem p' hp')
      rw [lt_py _ _ (hal _ (zmem p' hp') _ (zmem p hp)) (by omega) (by omega)]
    have hm : ∀ p ∈ (xs.zip ds).mergeSort (dataLe false fun p : V × D => toPy p.2), Dr X.K G p.1 p.2 := fun p hp => z2 p (List.mem_mergeSort.mp hp)
    have dout := drs_maps hm
    rw [key] at dout
    obtain ⟨n, hn⟩ := PyProof.Rows.sortedAll_at s.heap its (List.toArray out)
    refine ⟨.ref (s.heap.objs.size + 1), upd H (s.heap.objs.size + 1) (.lst _), I.laid (t' := s.toks) (fun b o e => PyProof.Rows.sortedAll_old e) (by omega) ⟨?_, out, n, each_vals eo, hn⟩, rfl, q _ dout _ (I.hok.fresh (by omega))⟩
    rw [List.length_map, List.length_mergeSort, zlen]; exact sz_le hlen
mutual
theorem py_inj : ∀ x y : D, alkD x y = true → toPy x = toPy y → x = y
  | .int a, y, h, e => by
    cases y with
    | int b => have e : PyData.int a = .int b := e; cases e; rfl
    | _ => cases h
  | .str a, y, h, e => by
    cases y with
    | str b =>
      have e : PyData.str ⟨a.toArray⟩ = .str ⟨b.toArray⟩ := e
      injection e with e
      rw [str_inj.mp e]
    | _ => cases h
  | .tup a, y, h, e => by
    cases y with
    | tup b =>
      have e : PyData.tuple (toPys a) = .tuple (toPys b) := e
      injection e with e
      rw [pys_inj a b h e]
    | _ => cases h
  | .non, y, h, _ => by cases y <;> cases h
  | .bl _, y, h, _ => by cases y <;> cases h
  | .lst _, y, h, _ => by cases y <;> cases h
  | .dct _ _, y, h, _ => by cases y <;> cases h
  | .frl _, y, h, _ => by cases y <;> cases h
theorem pys_inj : ∀ xs ys : List D, alkDs xs ys = true → toPys xs = toPys ys → xs = ys
  | [], [], _, _ => rfl
  | [], y :: ys, _, e => by cases (show ([] : List PyData) = toPy y :: toPys ys from e)
  | x :: xs, [], _, e => by cases (show toPy x :: toPys xs = ([] : List PyData) from e)
  | x :: xs, y :: ys, h, e => by
    unfold alkDs at h
    rw [Bool.and_eq_true] at h
    have e : toPy x :: toPys xs = toPy y :: toPys ys := e
    injection e with e1 e2
    rw [py_inj x y h.1 e1, pys_inj xs ys h.2 e2]
end
theorem minF_mem : ∀ (xs : List D) (x : D), minF x xs ∈ x :: xs
  | [], x => List.mem_cons_self
  | y :: r, x => by
    have := minF_mem r (if ltD y x then y else x)
    show minF (if ltD y x then y else x) r ∈ _
    rcases List.mem_cons.mp this with e | e
    · rw [e]; split <;> simp
    · exact List.mem_cons_of_mem _ (List.mem_cons_of_mem _ e)
theorem minD_py : ∀ (xs : List D) (x : D), (∀ a ∈ x :: xs, ∀ b ∈ x :: xs, alkD a b = true) → (∀ a ∈ x :: xs, dep a ≤ 64) → minD (toPy x) (toPys xs) = toPy (minF x xs)
  | [], x, _, _ => rfl
  | y :: r, x, h, hd => by
    have e : dataLt (toPy y) (toPy x) = ltD y x := lt_py y x (h y (by simp) x (by simp)) (hd y (by simp)) (hd x (by simp))
    have e2 : (if dataLt (toPy y) (toPy x) then toPy y else toPy x) = toPy (if ltD y x then y else x) := by
      rw [e]; split <;> rfl
    have hm : ∀ a ∈ (if ltD y x then y else x) :: r, a ∈ x :: y :: r := by
      intro a ha
      rcases List.mem_cons.mp ha with q | q
      · rw [q]; split <;> simp
      · exact List.mem_cons_of_mem _ (List.mem_cons_of_mem _ q)
    have ih := minD_py r (if ltD y x then y else x) (fun a ha b hb => h a (hm a ha) b (hm b hb)) fun a ha => hd a (hm a ha)
    show minD (if dataLt (toPy y) (toPy x) then toPy y else toPy x) (toPys r) = toPy (minF (if ltD y x then y else x) r)
    rw [e2, ih]
theorem toPys_mem : ∀ (ds : List D) (x : PyData), x ∈ toPys ds → ∃ d ∈ ds, toPy d = x
  | [], x, h => by cases (show x ∈ ([] : List PyData) from h)
  | d :: ds, x, h => by
    rcases List.mem_cons.mp (show x ∈ toPy d :: toPys ds from h) with e | e
    · exact ⟨d, List.mem_cons_self, e.symm⟩
    · obtain ⟨d', h1, h2⟩ := toPys_mem ds x e
      exact ⟨d', List.mem_cons_of_mem _ h1, h2⟩
theorem depthAll_le : ∀ (ds : List D) (n : Nat), (∀ d ∈ ds, (toPy d).depth ≤ n) → PyData.depthAll (toPys ds) ≤ n
  | [], n, _ => Nat.zero_le _
  | d :: ds, n, h => by
    have h1 := h d List.mem_cons_self
    have h2 := depthAll_le ds n fun d hd => h d (List.mem_cons_of_mem _ hd)
    show max (toPy d).depth (PyData.depthAll (toPys ds)) ≤ n
    omega
def rMinDT (K : PySem.W.Frag) : List V → Hp → VK → Prop := fun vs H Q => ∃ (a : Addr) (xs : List V) (ds : List D) (G : Hp), vs = [V.ref a] ∧ SqL K H a xs ∧ srtOk ds = true ∧ ds ≠ [] ∧ LeH G H ∧ Drs K G xs ds ∧
  ∀ v, Dr K G v (minT ds) → Q v H
theorem cr_minDT {X : Cx} (hc : X.calm = true) (hu : X.A.units + 64 < cLine) : CallR X (.builtin "min") (rMinDT X.K) := by
  intro pins s σ H vs us Q I r h
  obtain ⟨a, xs, ds, G, rfl, hs, ho, hne, le, dr, q⟩ := h
  obtain ⟨its, rv, hl, hz⟩ := I.list hs
  obtain ⟨u, rfl, ru⟩ := vals1 r
  obtain rfl : u = Value.ref a := ru
  unfold srtOk at ho
  simp only [Bool.and_eq_true, Bool.or_eq_true, decide_eq_true_eq, List.all_eq_true] at ho
  obtain ⟨⟨⟨hal, htp⟩, hdep⟩, hlen⟩ := ho
  have dp : DpAll X.K H xs (toPys ds) := Drs.dp (by omega) (dr.mono le)
  obtain ⟨as, ra⟩ := Dp.readsAll I (toPys ds) xs its dp rv
  cases ds with
  | nil => exact absurd rfl hne
  | cons d0 ds =>
    have ra : ReadsAll s.heap its.toArray.toList (toPy d0 :: toPys ds) as := by rw [List.toList_toArray]; exact ra
    have halk : ∀ d ∈ d0 :: ds, ∀ d' ∈ d0 :: ds, alkD d d' = true := fun d hd d' hd' => hal d hd d' hd'
    have hdp : ∀ d ∈ d0 :: ds, dep d ≤ 64 := fun d hd => by have := dep_of hd; omega
    refine min_list_data (I.ok.hd hc) hl.isList ra ?_ ?_ fun i v h' tk bs hv hr hk => ?_
    · refine ⟨fun x hx y hy => ?_, fun x hx e => ?_⟩
      · obtain ⟨d, hd, rfl⟩ := toPys_mem (d0 :: ds) x hx
        obtain ⟨d', hd', rfl⟩ := toPys_mem (d0 :: ds) y hy
        exact alk_py _ _ (halk d hd d' hd')
      · obtain ⟨d, hd, rfl⟩ := toPys_mem (d0 :: ds) x hx
        have := halk d hd d hd
        cases d <;> first | (cases this; done) | cases e
    · have hdd := depthAll_le (d0 :: ds) 60 fun d hd => py_depth hd hdep
      have hdd : PyData.depthAll (toPy d0 :: toPys ds) ≤ 60 := hdd
      omega
    · have hv : its[i]? = some v := by simpa using hv
      have hil : i < xs.length := by
        have := (List.getElem?_eq_some_iff.mp hv).1
        have := rv.length
        omega
      have hx : xs[i]? = some xs[i] := List.getElem?_eq_getElem hil
      obtain ⟨v', hv', rx⟩ := rv.get hx
      rw [hv] at hv'
      cases hv'
      generalize xs[i] = x at *
      obtain ⟨d, hd, dx⟩ := dr.get' hx
      obtain ⟨as', r1⟩ := Dp.reads I (toPy d) x v (dx.mono le |>.dp (hdp d (List.mem_of_getElem? hd))) rx
      have r2 := PyProof.Rows.Reads.keeps hk r1
      have e : minD (toPy d0) (toPys ds) = toPy d := (PyProof.Rows.reads_det (fun b o e _ => e) r2 hr).1
      rw [minD_py ds d0 halk hdp] at e
      have e2 : minF d0 ds = d := py_inj _ _ (halk _ (minF_mem ds d0) _ (List.mem_of_getElem? hd)) e
      exact ⟨x, H, I.kept hk, rx, q x (by show Dr X.K G x (minF d0 ds); rw [e2]; exact dx)⟩
end DL
/-! DL, part f: built-in functions and methods by values. -/
namespace DL
open PySem L2
variable [xb : Xb] [Tb]
section
variable {K : PySem.W.Frag} {C : Nat → Addr} {W : WX} {σ : St} {g : Gh} {H G : Hp} {e : En} {Q : VK} {X : Cx}
theorem bls_of : ∀ {vs : List V} {ds : List D} {l : List Bool}, Drs K G vs ds → blsOf ds = some l → vs = l.map V.bl
  | _, _, _, .nil, h => by cases h; rfl
  | _, _, l, .cons (d := d) (ds := ds) a t, h => by
    cases a <;> first | (cases h; done) | skip
    case bl i =>
      have h : (match blsOf ds with | some l => some (i :: l) | none => none) = some l := h
      cases hr : blsOf ds with
      | none => rw [hr] at h; cases h
      | some m => rw [hr] at h; cases h; rw [bls_of t hr]; rfl
def stOf (s : List Nat) : Str := ⟨s.toArray⟩
theorem strs_of : ∀ {vs : List V} {ds : List D} {l : List (List Nat)}, Drs K G vs ds → strsOf ds = some l → vs = (l.map stOf).map V.str
  | _, _, _, .nil, h => by cases h; rfl
  | _, _, l, .cons (d := d) (ds := ds) a t, h => by
    cases a <;> first | (cases h; done) | skip
    case str i =>
      have h : (match strsOf ds with | some l => some (i :: l) | none => none) = some l := h
      cases hr : strsOf ds with
      | none => rw [hr] at h; cases h
      | some m => rw [hr] at h; cases h; rw [strs_of t hr]; rfl
theorem maxI_mem : ∀ (a : Int) (l : List Int), maxI (a :: l) ∈ a :: l
  | a, [] => by simp [maxI]
  | a, b :: l => by
    have ih := maxI_mem b l
    show max a (maxI (b :: l)) ∈ _
    rcases Int.le_total a (maxI (b :: l)) with h | h
    · rw [Int.max_eq_right h]; exact List.mem_cons_of_mem _ ih
    · rw [Int.max_eq_left h]; exact List.mem_cons_self
theorem maxI_le : ∀ (a : Int) (l : List Int), ∀ y ∈ a :: l, y ≤ maxI (a :: l)
  | a, [], y, h => by rw [List.mem_singleton.mp h]; exact Int.le_refl _
  | a, b :: l, y, h => by
    show y ≤ max a (maxI (b :: l))
    rcases List.mem_cons.mp h with rfl | h
    · exact Int.le_max_left _ _
    · exact Int.le_trans (maxI_le b l y h) (Int.le_max_right _ _)
theorem minI_mem : ∀ (a : Int) (l : List Int), minI (a :: l) ∈ a :: l
  | a, [] => by simp [minI]
  | a, b :: l => by
    have ih := minI_mem b l
    show min a (minI (b :: l)) ∈ _
    rcases Int.le_total a (minI (b :: l)) with h | h
    · rw [Int.min_eq_left h]; exact List.mem_cons_self
    · rw [Int.min_eq_right h]; exact List.mem_cons_of_mem _ ih
theorem minI_le : ∀ (a : Int) (l : List Int), ∀ y ∈ a :: l, minI (a :: l) ≤ y
  | a, [], y, h => by rw [List.mem_singleton.mp h]; exact Int.le_refl _
  | a, b :: l, y, h => by
    show min a (minI (b :: l)) ≤ y
    rcases List.mem_cons.mp h with rfl | h
    · exact Int.min_le_left _ _
    · exact Int.le_trans (Int.min_le_right _ _) (minI_le b l y h)
def BiOk (K : PySem.W.Frag) (C : Nat → Addr) (r : List V → Hp → VK → Prop) (F : List D → M Sl) : Prop :=
  ∀ (W : WX) (σ : St) (g : Gh) (H : Hp) (e : En) (Q : VK) (vs : List V) (ds : List D), Rel K e σ H g → Rd3s K g.G H vs ds → Post K C (RepS K) W σ g H (F ds e) Q → r vs H Q
theorem Rd3s.one {vs : List V} {d : D} (h : Rd3s K G H vs [d]) : ∃ v, vs = [v] ∧ Rd3 K G H v d := by
  cases h with
  | cons a t => cases t; exact ⟨_, rfl, a⟩
theorem Rd3s.two {vs : List V} {d d' : D} (h : Rd3s K G H vs [d, d']) : ∃ v w, vs = [v, w] ∧ Rd3 K G H v d ∧ Rd3 K G H w d' := by
  cases h with
  | cons a t =>
    cases t with
    | cons b t => cases t; exact ⟨_, _, rfl, a, b⟩
/-- by the number of arguments -/
theorem bi1 {r : List V → Hp → VK → Prop} {F : List D → M Sl} (hF : ∀ ds e, (∀ d, ds ≠ [d]) → F ds e = .stuck)
    (h : ∀ (W : WX) (σ : St) (g : Gh) (H : Hp) (e : En) (Q : VK) (v : V) (d : D), Rel K e σ H g → Rd3 K g.G H v d → Post K C (RepS K) W σ g H (F [d] e) Q → r [v] H Q) : BiOk K C r F := by
  intro W σ g H e Q vs ds re hv p
  match ds, p, hv with
  | [d], p, hv =>
    obtain ⟨v, rfl, q⟩ := hv.one
    exact h W σ g H e Q v d re q p
  | [], p, hv => rw [hF [] e (fun d z => by cases z)] at p; exact p.elim
  | a :: b :: l, p, hv => rw [hF (a :: b :: l) e (fun d z => by cases z)] at p; exact p.elim
theorem bi2 {r : List V → Hp → VK → Prop} {F : List D → M Sl} (hF : ∀ ds e, (∀ d d', ds ≠ [d, d']) → F ds e = .stuck)
    (h : ∀ (W : WX) (σ : St) (g : Gh) (H : Hp) (e : En) (Q : VK) (v w : V) (d d' : D), Rel K e σ H g → Rd3 K g.G H v d → Rd3 K g.G H w d' → Post K C (RepS K) W σ g H (F [d, d'] e) Q → r [v, w] H Q) : BiOk K C r F := by
  intro W σ g H e Q vs ds re hv p
  match ds, p, hv with
  | [d, d'], p, hv =>
    obtain ⟨v, w, rfl, q, q'⟩ := hv.two
    exact h W σ g H e Q v w d d' re q q' p
  | [], p, hv => rw [hF [] e (fun d d' z => by cases z)] at p; exact p.elim
  | [a], p, hv => rw [hF [a] e (fun d d' z => by cases z)] at p; exact p.elim
  | a :: b :: c :: l, p, hv => rw [hF (a :: b :: c :: l) e (fun d d' z => by cases z)] at p; exact p.elim
def biV : Bi → Value
  | .len => .builtin "len"
  | .max2 => .builtin "max"
  | .min2 => .builtin "min"
  | .abs => .builtin "abs"
  | .int1 => .type "int"
  | .sum => .builtin "sum"
  | .maxL => .builtin "max"
  | .minL => .builtin "min"
  | .all => .builtin "all"
  | .any => .builtin "any"
  | .listOf => .type "list"
  | .tupleOf => .type "tuple"
  | .ord => .builtin "ord"
  | .str1 => .type "str"
  | .sorted => .builtin "sorted"
  | .dictOf => .type "dict"
  | .max3 => .builtin "max"
  | .isi _ => .builtin "isinstance"
theorem bi_len (f : Nat) : ∃ r, CallR X (biV .len) r ∧ BiOk X.K C r (biD f .len) := by
  refine ⟨_, call_len_seq.or call_len_str, bi1 (fun ds e h => ?_) fun W σ g H e Q v d re hv p => ?_⟩
  · match ds, h with
    | [], _ => rfl
    | [d], h => exact absurd rfl (h d)
    | _ :: _ :: _, _ => rfl
  · cases hv <;> first | exact p.elim | skip
    case lst h t => exact .inl ⟨_, _, rfl, .inl (SqL.of h), Post.ans re (s := .val (.int _)) p (by rw [t.length]; exact Dr.int _)⟩
    case tup h t => exact .inl ⟨_, _, rfl, .inr (re.sto.gh.seqT h), Post.ans re (s := .val (.int _)) p (by rw [t.length]; exact Dr.int _)⟩
    case frl h t => exact .inl ⟨_, _, rfl, .inl (re.sto.gh.seqL h), Post.ans re (s := .val (.int _)) p (by rw [t.length]; exact Dr.int _)⟩
    case str s =>
      have p : Post X.K C (RepS X.K) W σ g H ((match (if s.length ≤ SZ then some s.length else none) with | some n => ret (.val (.int n)) | none => stk : M Sl) e) Q := p
      by_cases c : s.length ≤ SZ
      · rw [if_pos c] at p
        refine .inr ⟨_, rfl, by rw [str_len, szl]; exact c, ?_⟩
        rw [str_len]
        exact Post.ans re (s := .val (.int _)) p (Dr.int _)
      · rw [if_neg c] at p; exact p.elim
theorem bi_max2 (f : Nat) (hc : X.calm = true) : ∃ r, CallR X (biV .max2) r ∧ BiOk X.K C r (biD f .max2) := by
  refine ⟨_, call_max2 hc, bi2 (fun ds e h => ?_) fun W σ g H e Q v w d d' re hv hw p => ?_⟩
  · match ds, h with
    | [], _ => rfl
    | [a], _ => cases a <;> rfl
    | [d, d'], h => exact absurd rfl (h d d')
    | a :: b :: c :: l, _ => cases a <;> cases b <;> rfl
  · cases hv <;> cases hw <;> first | exact p.elim | skip
    case int.int i j =>
      refine ⟨_, _, rfl, ?_⟩
      have : (if j > i then j else i) = max i j := by rw [Int.max_def]; split <;> split <;> omega
      rw [this]
      exact Post.ans re (s := .val (.int _)) p (.int _)
theorem bi_min2 (f : Nat) (hc : X.calm = true) : ∃ r, CallR X (biV .min2) r ∧ BiOk X.K C r (biD f .min2) := by
  refine ⟨_, call_min2 hc, bi2 (fun ds e h => ?_) fun W σ g H e Q v w d d' re hv hw p => ?_⟩
  · match ds, h with
    | [], _ => rfl
    | [a], _ => cases a <;> rfl
    | [d, d'], h => exact absurd rfl (h d d')
    | a :: b :: c :: l, _ => cases a <;> cases b <;> rfl
  · cases hv <;> cases hw <;> first | exact p.elim | skip
    case int.int i j =>
      refine ⟨_, _, rfl, ?_⟩
      have : (if j < i then j else i) = min i j := by rw [Int.min_def]; split <;> split <;> omega
      rw [this]
      exact Post.ans re (s := .val (.int _)) p (.int _)
theorem nm1 {m : Bi} {f : Nat} (h0 : ∀ e, biD f m [] e = .stuck) (h2 : ∀ a b l e, biD f m (a :: b :: l) e = .stuck) : ∀ ds e, (∀ d, ds ≠ [d]) → biD f m ds e = .stuck
  | [], e, _ => h0 e
  | [d], _, h => absurd rfl (h d)
  | a :: b :: l, e, _ => h2 a b l e
theorem bi_abs (f : Nat) : ∃ r, CallR X (biV .abs) r ∧ BiOk X.K C r (biD f .abs) := by
  refine ⟨_, call_abs, bi1 (nm1 (fun _ => rfl) (fun a b l e => by cases a <;> rfl)) fun W σ g H e Q v d re hv p => ?_⟩
  cases hv <;> first | exact p.elim | skip
  case int i =>
    refine ⟨_, rfl, ?_⟩
    have : (if i < 0 then -i else i) = (i.natAbs : Int) := by split <;> omega
    rw [this]
    exact Post.ans re (s := .val (.int _)) p (.int _)
theorem bi_int1 (f : Nat) : ∃ r, CallR X (biV .int1) r ∧ BiOk X.K C r (biD f .int1) := by
  refine ⟨_, call_int1, bi1 (nm1 (fun _ => rfl) (fun a b l e => by cases a <;> rfl)) fun W σ g H e Q v d re hv p => ?_⟩
  cases hv <;> first | exact p.elim | skip
  case int i => exact .inl ⟨_, rfl, Post.ans re (s := .val (.int _)) p (.int _)⟩
  case bl b => exact .inr ⟨_, rfl, Post.ans re (s := .val (.int _)) p (.int _)⟩
theorem bi_ord (f : Nat) : ∃ r, CallR X (biV .ord) r ∧ BiOk X.K C r (biD f .ord) := by
  refine ⟨_, call_ord, bi1 (nm1 (fun _ => rfl) (fun a b l e => by cases a <;> first | rfl | (rename_i s; match s with | [] => rfl | [_] => rfl | _ :: _ :: _ => rfl))) fun W σ g H e Q v d re hv p => ?_⟩
  cases hv <;> first | exact p.elim | skip
  case str s =>
    match s, p with
    | [c], p => exact ⟨_, rfl, rfl, Post.ans re (s := .val (.int _)) p (.int _)⟩
    | [], p => exact p.elim
    | _ :: _ :: _, p => exact p.elim
theorem bi_sum (f : Nat) (hc : X.calm = true) : ∃ r, CallR X (biV .sum) r ∧ BiOk X.K C r (biD f .sum) := by
  refine ⟨_, cr_sum hc, bi1 (nm1 (fun _ => rfl) (fun a b l e => by cases a <;> rfl)) fun W σ g H e Q v d re hv p => ?_⟩
  cases hv <;> first | exact p.elim | skip
  case lst a xs ds h t =>
    have p : Post X.K C (RepS X.K) W σ g H ((match intsOf ds with | some l => ret (.val (.int l.sum)) | none => stk : M Sl) e) Q := p
    cases hl : intsOf ds with
    | none => rw [hl] at p; exact p.elim
    | some l =>
      rw [hl] at p
      refine ⟨_, l, rfl, ?_, Post.ans re (s := .val (.int _)) p (.int _)⟩
      rw [← ints_of t hl]; exact SqL.of h
/-! max(tuple of ints) -/
theorem dp_ints {K : PySem.W.Frag} {H : Hp} : ∀ ns : List Int, DpAll K H (ns.map V.int) (ns.map PyData.int)
  | [] => .nil
  | n :: ns => .cons (.int n) (dp_ints ns)
theorem depth_ints : ∀ ns : List Int, PyData.depthAll (ns.map PyData.int) = 0
  | [] => rfl
  | n :: ns => by
    have := depth_ints ns
    show max (PyData.int n).depth (PyData.depthAll (ns.map PyData.int)) = 0
    rw [this]
    rfl
theorem fold_max : ∀ (ns : List Int) (n : Int), ns.foldl max n = maxI (n :: ns)
  | [], n => rfl
  | [b], n => rfl
  | b :: c :: r, n => by
    have ih := fold_max (c :: r) (max n b)
    show (c :: r).foldl max (max n b) = max n (max b (maxI (c :: r)))
    rw [ih]
    show max (max n b) (maxI (c :: r)) = _
    exact Int.max_assoc n b _
theorem cr_maxT (hc : X.calm = true) (hu : X.A.units + 64 < cLine) : CallR X (.builtin "max") (fun vs H Q => ∃ (a : Addr) (n : Int) (ns : List Int), vs = [V.ref a] ∧ SqT X.K H a ((n :: ns).map V.int) ∧ Q (.int (maxI (n :: ns))) H) := by
  intro pins s σ H vs us Q I r h
  obtain ⟨a, n, ns, rfl, hs, q⟩ := h
  obtain ⟨its, rv, hl, _⟩ := I.tuple hs
  obtain ⟨u, rfl, ru⟩ := vals1 r
  obtain rfl : u = Value.ref a := ru
  obtain ⟨as, ra⟩ := Dp.readsAll I ((n :: ns).map PyData.int) _ its (dp_ints (n :: ns)) rv
  have ra : ReadsAll s.heap its.toArray.toList (PyData.int n :: ns.map PyData.int) as := by rw [List.toList_toArray]; exact ra
  refine PySem.W.max_tuple_data (I.ok.hd hc) hl ra ?_ ?_ fun i v h' tk bs hv hr hk => ?_
  · refine ⟨fun x hx y hy => ?_, fun x hx e => ?_⟩
    · obtain ⟨i, _, rfl⟩ := List.mem_map.mp (show x ∈ (n :: ns).map PyData.int from hx)
      obtain ⟨j, _, rfl⟩ := List.mem_map.mp (show y ∈ (n :: ns).map PyData.int from hy)
      exact alk_py (.int i) (.int j) rfl
    · obtain ⟨i, _, rfl⟩ := List.mem_map.mp (show x ∈ (n :: ns).map PyData.int from hx)
      cases e
  · have := depth_ints (n :: ns)
    have e : PyData.depthAll (PyData.int n :: ns.map PyData.int) = 0 := this
    omega
  · rw [PySem.W.maxD_ints, fold_max] at hr
    cases hr
    exact ⟨.int _, H, I.kept hk, ⟨_, rfl⟩, q⟩
theorem bi_maxL (f : Nat) (hc : X.calm = true) (hu : X.A.units + 64 < cLine) : ∃ r, CallR X (biV .maxL) r ∧ BiOk X.K C r (biD f .maxL) := by
  refine ⟨_, (cr_max hc).or (cr_maxT hc hu), bi1 (nm1 (fun _ => rfl) (fun a b l e => by cases a <;> rfl)) fun W σ g H e Q v d re hv p => ?_⟩
  cases hv <;> first | exact p.elim | skip
  case lst a xs ds h t =>
    have p : Post X.K C (RepS X.K) W σ g H ((match intsOf ds with | some (a :: l) => ret (.val (.int (maxI (a :: l)))) | _ => stk : M Sl) e) Q := p
    cases hl : intsOf ds with
    | none => rw [hl] at p; exact p.elim
    | some l =>
      rw [hl] at p
      cases l with
      | nil => exact p.elim
      | cons b l =>
        refine .inl ⟨_, b :: l, rfl, by rw [← ints_of t hl]; exact SqL.of h, by simp, fun m h1 h2 => ?_⟩
        have : m = maxI (b :: l) := Int.le_antisymm (maxI_le b l m h1) (h2 _ (maxI_mem b l))
        rw [this]
        exact Post.ans re (s := .val (.int _)) p (.int _)
  case tup a xs ds h t =>
    have p : Post X.K C (RepS X.K) W σ g H ((match intsOf ds with | some (a :: l) => ret (.val (.int (maxI (a :: l)))) | _ => stk : M Sl) e) Q := p
    cases hl : intsOf ds with
    | none => rw [hl] at p; exact p.elim
    | some l =>
      rw [hl] at p
      cases l with
      | nil => exact p.elim
      | cons b l =>
        exact .inr ⟨_, b, l, rfl, by rw [← ints_of t hl]; exact re.sto.gh.seqT h, Post.ans re (s := .val (.int _)) p (.int _)⟩
theorem ints_none {K : PySem.W.Frag} {G : Hp} : ∀ {ds : List D}, intsOf ds = none → ds ≠ []
  | [], h => by cases h
  | _ :: _, _ => by simp
theorem bi_minL (f : Nat) (hc : X.calm = true) (hu : X.A.units + 64 < cLine) : ∃ r, CallR X (biV .minL) r ∧ BiOk X.K C r (biD f .minL) := by
  refine ⟨_, (cr_min hc).or (cr_minDT hc hu), bi1 (nm1 (fun _ => rfl) (fun a b l e => by cases a <;> rfl)) fun W σ g H e Q v d re hv p => ?_⟩
  cases hv <;> first | exact p.elim | skip
  case lst a xs ds h t =>
    have p : Post X.K C (RepS X.K) W σ g H ((match intsOf ds with | some (a :: l) => ret (.val (.int (minI (a :: l)))) | some [] => stk | none => DL.req (srtOk ds) (ret (.val (minT ds))) : M Sl) e) Q := p
    cases hl : intsOf ds with
    | none =>
      rw [hl] at p
      obtain ⟨ho, p⟩ := p.req
      exact .inr ⟨_, _, ds, g.G, rfl, SqL.of h, ho, ints_none (K := X.K) (G := g.G) hl, re.sto.gh, t, fun v hv => Post.ans re (s := .val _) p hv⟩
    | some l =>
      rw [hl] at p
      cases l with
      | nil => exact p.elim
      | cons b l =>
        refine .inl ⟨_, b :: l, rfl, by rw [← ints_of t hl]; exact SqL.of h, by simp, fun m h1 h2 => ?_⟩
        have : m = minI (b :: l) := Int.le_antisymm (h2 _ (minI_mem b l)) (minI_le b l m h1)
        rw [this]
        exact Post.ans re (s := .val (.int _)) p (.int _)
theorem bi_all (f : Nat) (hc : X.calm = true) : ∃ r, CallR X (biV .all) r ∧ BiOk X.K C r (biD f .all) := by
  refine ⟨_, cr_all hc, bi1 (nm1 (fun _ => rfl) (fun a b l e => by cases a <;> rfl)) fun W σ g H e Q v d re hv p => ?_⟩
  cases hv <;> first | exact p.elim | skip
  case lst a xs ds h t =>
    have p : Post X.K C (RepS X.K) W σ g H ((match blsOf ds with | some l => ret (.val (.bl (l.all id))) | none => stk : M Sl) e) Q := p
    cases hl : blsOf ds with
    | none => rw [hl] at p; exact p.elim
    | some l =>
      rw [hl] at p
      refine ⟨_, l, rfl, ?_, Post.ans re (s := .val (.bl _)) p (.bl _)⟩
      rw [← bls_of t hl]; exact SqL.of h
theorem bi_any (f : Nat) (hc : X.calm = true) : ∃ r, CallR X (biV .any) r ∧ BiOk X.K C r (biD f .any) := by
  refine ⟨_, cr_any hc, bi1 (nm1 (fun _ => rfl) (fun a b l e => by cases a <;> rfl)) fun W σ g H e Q v d re hv p => ?_⟩
  cases hv <;> first | exact p.elim | skip
  case lst a xs ds h t =>
    have p : Post X.K C (RepS X.K) W σ g H ((match blsOf ds with | some l => ret (.val (.bl (l.any id))) | none => stk : M Sl) e) Q := p
    cases hl : blsOf ds with
    | none => rw [hl] at p; exact p.elim
    | some l =>
      rw [hl] at p
      refine ⟨_, l, rfl, ?_, Post.ans re (s := .val (.bl _)) p (.bl _)⟩
      rw [← bls_of t hl]; exact SqL.of h
/-- list(text): its signs -/
theorem call_list_strT (hc : X.calm = true) : CallR X (.type "list") (fun xs H Q => ∃ z : List Nat, xs = [.str ⟨z.toArray⟩] ∧ z.length ≤ sizeLine ∧ ∀ l, H l = none → Q (.ref l) (upd H l (.lst (z.map fun c => V.str ⟨#[c]⟩)))) := by
  intro pins s σ H xs us Q I r h
  obtain ⟨z, rfl, hz, q⟩ := h
  obtain ⟨u, rfl, rx⟩ := vals1 r
  obtain ⟨t, rfl⟩ := rx
  refine call_list_str (I.ok.hd hc) ⟨z.toArray⟩ t (fun h' tk acc c' kp e it => ?_) (by simpa using hz)
  obtain ⟨is, ia⟩ := it
  have is : acc.size = z.length := by simpa using is
  have rv : Vals (z.map fun c => V.str ⟨#[c]⟩) acc.toList := by
    have gen : ∀ (l : List Nat) (m : List Value), m.length = l.length → (∀ (j : Nat) (v : Value), m[j]? = some v → ∃ c u, l[j]? = some c ∧ v = Value.str ⟨#[c]⟩ u) → Vals (l.map fun c => V.str ⟨#[c]⟩) m := by
      intro l
      induction l with
      | nil => intro m hm _; cases m with
        | nil => exact .nil
        | cons _ _ => simp at hm
      | cons c l ih => intro m hm h; cases m with
        | nil => simp at hm
        | cons v m =>
          obtain ⟨c', u, h1, rfl⟩ := h 0 v rfl
          cases h1
          exact .cons ⟨u, rfl⟩ (ih m (by simpa using hm) fun j v e => h (j + 1) v (by simpa using e))
    refine gen z acc.toList (by simpa using is) fun j v e => ?_
    obtain ⟨c, u, h1, h2⟩ := ia j v (by simpa using e)
    exact ⟨c, u, by simpa using h1, h2⟩
  exact ⟨.ref s.heap.objs.size, _, I.laid (t' := tk) kp (Nat.le_refl _) (show ObjOk X.prog X.w _ h' _ (.lst (z.map fun c => V.str ⟨#[c]⟩)) from ⟨by simpa using hz, acc.toList, c', rv, by simpa using e⟩), rfl, q _ (I.hok.fresh (Nat.le_refl _))⟩
theorem drs_signs {K : PySem.W.Frag} {G : Hp} : ∀ z : List Nat, Drs K G (z.map fun c => V.str ⟨#[c]⟩) (z.map fun c => D.str [c])
  | [] => .nil
  | c :: z => .cons (Dr.str [c]) (drs_signs z)
theorem bi_listOf (f : Nat) (hc : X.calm = true) : ∃ r, CallR X (biV .listOf) r ∧ BiOk X.K C r (biD f .listOf) := by
  refine ⟨_, call_list_of.or (call_list_strT hc), bi1 (nm1 (fun _ => rfl) (fun a b l e => by cases a <;> rfl)) fun W σ g H e Q v d re hv p => ?_⟩
  cases hv <;> first | exact p.elim | skip
  case lst a xs ds h t => exact .inl ⟨_, _, rfl, .inl (SqL.of h), Post.newL re p t⟩
  case frl a xs ds h t => exact .inl ⟨_, _, rfl, .inl (re.sto.gh.seqL h), Post.newL re p t⟩
  case tup a xs ds h t => exact .inl ⟨_, _, rfl, .inr (re.sto.gh.seqT h), Post.newL re p t⟩
  case str z =>
    have p : Post X.K C (RepS X.K) W σ g H ((req (decide (z.length ≤ SZ)) (newL f (z.map fun c => D.str [c])) : M Sl) e) Q := p
    by_cases c : z.length ≤ SZ
    · have p : Post X.K C (RepS X.K) W σ g H (newL f (z.map fun c => D.str [c]) e) Q := by simpa [req, c] using p
      exact .inr ⟨_, rfl, by rw [szl]; exact c, Post.newL re p (drs_signs z)⟩
    · exact absurd p (by simp [req, c, stk, Post])
theorem bi_tupleOf (f : Nat) : ∃ r, CallR X (biV .tupleOf) r ∧ BiOk X.K C r (biD f .tupleOf) := by
  refine ⟨_, call_tuple_of, bi1 (nm1 (fun _ => rfl) (fun a b l e => by cases a <;> rfl)) fun W σ g H e Q v d re hv p => ?_⟩
  cases hv <;> first | exact p.elim | skip
  case lst a xs ds h t => exact ⟨_, _, rfl, .inl ⟨SqL.of h, Post.newT re p t⟩⟩
  case tup a xs ds h t => exact ⟨_, _, rfl, .inr ⟨re.sto.gh.seqT h, Post.ans re (s := .val (.tup _)) p (.tup h t)⟩⟩
theorem Post.newD {K : PySem.W.Frag} {σ : St} {g : Gh} {H : Hp} {e : En} {Q : VK} {f : Nat} {ks vs : List D} {kvs : List (Key × V)} (re : Rel K e σ H g) (h : Post K C (RepS K) W σ g H (newD f ks vs e) Q) (t : Drs K g.G (kvs.map fun p => kV p.1) ks) (u : Drs K g.G (kvs.map fun p => p.2) vs) :
    ∀ p, H p = none → Q (.ref p) (upd H p (.dK kvs)) := by
  intro p hp
  unfold DL.newD at h
  split at h
  · obtain ⟨re', st⟩ := re.newD (.dK kvs) hp
    exact h (.ref p) _ _ re' st (.dct upd_same (t.mono (Gh.upd_le (re.gfree hp)).le) (u.mono (Gh.upd_le (re.gfree hp)).le))
  · obtain ⟨re', st⟩ := re.newC (o := .dK kvs) (c := .dct ks vs) hp ⟨re.gfree hp, kvs, upd_same, t, u⟩
    refine h (.ref p) _ _ re' st ⟨p, ?_, rfl⟩
    show (g.adr ++ [p])[e.cs.length]? = some p
    rw [← re.sto.len]; simp
theorem istr_eq (i : Int) : (⟨(strI i).toArray⟩ : Str) = PySem.Str.ofString (toString i) := by
  unfold strI
  rw [Array.toArray_toList]
theorem bi_str1 (f : Nat) : ∃ r, CallR X (biV .str1) r ∧ BiOk X.K C r (biD f .str1) := by
  refine ⟨_, call_str_int.or SkE.call_str_str, bi1 (nm1 (fun _ => rfl) (fun a b l e => by cases a <;> rfl)) fun W σ g H e Q v d re hv p => ?_⟩
  cases hv <;> first | exact p.elim | skip
  case int i =>
    have p : Post X.K C (RepS X.K) W σ g H (DL.req (decide (i.natAbs.log2 < 1920)) (ret (.val (.str (strI i)))) e) Q := p
    obtain ⟨ho, p⟩ := p.req
    refine .inl ⟨i, rfl, of_decide_eq_true ho, ?_⟩
    have := Post.ans re (s := .val (.str (strI i))) p (.str _)
    rw [istr_eq] at this
    exact this
  case str s => exact .inr ⟨_, rfl, Post.ans re (s := .val (.str _)) p (.str _)⟩
/-- a key -/
def keyOf : D → Key
  | .int i => .inl i
  | .str s => .inr ⟨s.toArray⟩
  | _ => .inl 0
theorem keyOf_dr {K : PySem.W.Frag} {G : Hp} {d : D} (h : keyD d = true) : Dr K G (kV (keyOf d)) d := by
  cases d <;> first | cases h | skip
  case int i => exact .int i
  case str s => exact .str s
theorem keyOf_eq (K : PySem.W.Frag) {x y : D} (hx : keyD x = true) (hy : keyD y = true) : eqD x y = decide (keyOf x = keyOf y) := by
  obtain ⟨k, e1, e2⟩ := keyD_of (K := K) (G := fun _ => none) (H := fun _ => none) (Rd3.of (keyOf_dr (K := K) (G := fun _ => none) hy) (LeH.refl _)) hy
  have : k = keyOf y := by
    cases y <;> first | cases hy | skip
    case int i =>
      cases k with
      | inl j => injection e1 with e1; rw [← e1]; rfl
      | inr z => cases e1
    case str s =>
      cases k with
      | inl j => cases e1
      | inr z => injection e1 with e1; rw [← e1]; rfl
  subst this
  exact e2 (keyOf x) x (keyOf_dr hx)
theorem keys_cons {x : D} {r : List D} (h : keysOk (x :: r) = true) : keyD x = true ∧ (∀ y ∈ r, eqD x y = false) ∧ keysOk r = true := by
  unfold keysOk at h
  simp only [Bool.and_eq_true] at h
  refine ⟨h.1.1, fun y hy => ?_, h.2⟩
  have := List.all_eq_true.mp h.1.2 y hy
  simpa using this
theorem keys_all : ∀ {ks : List D}, keysOk ks = true → ∀ k ∈ ks, keyD k = true
  | [], _, _, h => by cases h
  | x :: r, h, k, hk => by
    obtain ⟨h1, _, h3⟩ := keys_cons h
    rcases List.mem_cons.mp hk with rfl | hk
    · exact h1
    · exact keys_all h3 k hk
theorem merge_new (K : PySem.W.Frag) : ∀ {ks : List D} {vs : List V} {acc : List (Key × V)}, keysOk ks = true → (∀ k ∈ ks, ∀ p ∈ acc, p.1 ≠ keyOf k) → mergeK acc ((ks.map keyOf).zip vs) = acc ++ (ks.map keyOf).zip vs
  | [], _, _, _, _ => by simp [mergeK]
  | _ :: _, [], _, _, _ => by simp [mergeK]
  | k :: ks, v :: vs, acc, h, ha => by
    obtain ⟨h1, h2, h3⟩ := keys_cons h
    show mergeK (putK acc (keyOf k) v) ((ks.map keyOf).zip vs) = acc ++ ((keyOf k, v) :: (ks.map keyOf).zip vs)
    have e : putK acc (keyOf k) v = acc ++ [(keyOf k, v)] := by
      unfold putK
      rw [if_neg]
      intro z
      obtain ⟨p, hp, e⟩ := List.any_eq_true.mp z
      exact ha k List.mem_cons_self p hp (of_decide_eq_true e)
    rw [e, merge_new K h3 fun k' hk' p hp => ?_]
    · simp
    · rcases List.mem_append.mp hp with hp | hp
      · exact ha k' (List.mem_cons_of_mem _ hk') p hp
      · have e : p = (keyOf k, v) := by simpa using hp
        subst e
        have := h2 k' hk'
        rw [keyOf_eq K h1 (keys_all h3 k' hk')] at this
        exact of_decide_eq_false this
theorem pairsD_inv {d : D} {r ks vs : List D} (h : pairsD (d :: r) = some (ks, vs)) : ∃ k v ks' vs', d = .tup [k, v] ∧ ks = k :: ks' ∧ vs = v :: vs' ∧ pairsD r = some (ks', vs') := by
  unfold pairsD at h
  split at h
  · rename_i e; cases e
  · rename_i k v r' e
    injection e with e1 e2
    subst e1; subst e2
    cases hr : pairsD r with
    | none => rw [hr] at h; cases h
    | some z =>
      obtain ⟨a, b⟩ := z
      rw [hr] at h
      have h : some (k :: a, v :: b) = some (ks, vs) := h
      injection h with h
      injection h with h1 h2
      exact ⟨k, v, a, b, rfl, h1.symm, h2.symm, rfl⟩
  · cases h
theorem tup2_inv {K : PySem.W.Frag} {G : Hp} {x : V} {k v : D} (h : Dr K G x (.tup [k, v])) : ∃ q y1 y2, x = .ref q ∧ SqT K G q [y1, y2] ∧ Dr K G y1 k ∧ Dr K G y2 v := by
  generalize hd : D.tup [k, v] = d at h
  cases h with
  | @tup q ys es h1 t1 =>
    injection hd with hd
    subst hd
    cases t1 with
    | cons c1 t2 =>
      cases t2 with
      | cons c2 t3 =>
        cases t3
        exact ⟨_, _, _, rfl, h1, c1, c2⟩
  | _ => cases hd
theorem key_v {K : PySem.W.Frag} {G : Hp} {y : V} {k : D} (h : Dr K G y k) (hk : keyD k = true) : y = kV (keyOf k) := by
  cases h <;> first | rfl | cases hk
theorem keys_dr {K : PySem.W.Frag} {G : Hp} : ∀ ks : List D, (∀ k ∈ ks, keyD k = true) → Drs K G ((ks.map keyOf).map kV) ks
  | [], _ => .nil
  | k :: r, h => .cons (keyOf_dr (h k List.mem_cons_self)) (keys_dr r fun k' hk' => h k' (List.mem_cons_of_mem _ hk'))
theorem drs_cons {K : PySem.W.Frag} {G : Hp} {xs : List V} {d : D} {r : List D} (h : Drs K G xs (d :: r)) : ∃ x xr, xs = x :: xr ∧ Dr K G x d ∧ Drs K G xr r := by
  cases h with
  | cons a b => exact ⟨_, _, rfl, a, b⟩
theorem pairs_dr {K : PySem.W.Frag} {G H : Hp} (hGH : LeH G H) : ∀ {ds : List D} {xs : List V} {ks vs : List D}, Drs K G xs ds → pairsD ds = some (ks, vs) → keysOk ks = true →
    ∃ (ps : List Addr) (kvs : List (Key × V)), xs = ps.map V.ref ∧ Paired (fun p kv => SqT K H p [kV kv.1, kv.2]) ps kvs ∧ kvs.map (fun p => p.1) = ks.map keyOf ∧ Drs K G (kvs.map fun p => p.2) vs
  | [], xs, ks, vs, t, h, hk => by
    cases t
    cases h
    exact ⟨[], [], rfl, .nil, rfl, .nil⟩
  | d :: r, xs, ks, vs, t, h, hk => by
    obtain ⟨k, v, ks', vs', rfl, rfl, rfl, hr⟩ := pairsD_inv h
    obtain ⟨k1, _, k3⟩ := keys_cons hk
    obtain ⟨x, xr, rfl, a, b⟩ := drs_cons t
    obtain ⟨q, y1, y2, rfl, h1, c1, c2⟩ := tup2_inv a
    obtain ⟨ps, kvs, rfl, e2, e3, e4⟩ := pairs_dr hGH b hr k3
    have ek := key_v c1 k1
    subst ek
    exact ⟨q :: ps, (keyOf k, y2) :: kvs, rfl, .cons (hGH.seqT h1) e2, by rw [List.map_cons, e3]; rfl, .cons c2 e4⟩
theorem bi_dictOf (f : Nat) (hc : X.calm = true) : ∃ r, CallR X (biV .dictOf) r ∧ BiOk X.K C r (biD f .dictOf) := by
  refine ⟨_, call_dictD.or (call_dictP hc), bi1 (nm1 (fun _ => rfl) (fun a b l e => by cases a <;> rfl)) fun W σ g H e Q v d re hv p => ?_⟩
  cases hv <;> first | exact p.elim | skip
  case dct a kvs ks vs h t u => exact .inl ⟨a, kvs, rfl, .inl h, Post.newD re p t u⟩
  case lst a xs ds h t =>
    have p : Post X.K C (RepS X.K) W σ g H ((match pairsD ds with | some (ks, vs) => DL.req (keysOk ks) (newD f ks vs) | none => stk : M Sl) e) Q := p
    cases hp : pairsD ds with
    | none => rw [hp] at p; exact p.elim
    | some z =>
      obtain ⟨ks, vs⟩ := z
      rw [hp] at p
      obtain ⟨ho, p⟩ := p.req
      obtain ⟨ps, kvs, e1, e2, e3, e4⟩ := pairs_dr re.sto.gh t hp ho
      subst e1
      refine .inr ⟨a, ps, kvs, rfl, SqL.of h, e2, ?_⟩
      have ez : kvs = (ks.map keyOf).zip (kvs.map fun p => p.2) := by
        rw [← e3]
        clear e2 e3 e4 h t p
        induction kvs with
        | nil => rfl
        | cons q r ih => rw [List.map_cons, List.map_cons, List.zip_cons_cons, ← ih]
      have em : mergeK [] kvs = kvs := by
        rw [ez, merge_new X.K ho (by simp), List.nil_append]
      rw [em]
      refine Post.newD re p ?_ e4
      have : (kvs.map fun p => kV p.1) = (ks.map keyOf).map kV := by rw [← e3, List.map_map]; rfl
      rw [this]
      exact keys_dr ks (keys_all ho)
theorem nu_max2 (i j : Int) : nuMax2 (.int i) (.int j) = some (.int (max i j)) := by
  show (some (decide (i < j))).map (fun c => if c = true then V.int j else V.int i) = _
  by_cases h : i < j
  · rw [decide_eq_true h, Int.max_eq_right (by omega)]; rfl
  · rw [decide_eq_false h, Int.max_eq_left (by omega)]; rfl
theorem nu_max3 (i j k : Int) : nuMax3 (.int i) (.int j) (.int k) = some (.int (max (max i j) k)) := by
  unfold nuMax3
  rw [nu_max2]
  exact nu_max2 _ _
theorem bi_max3 (f : Nat) (hc : X.calm = true) : ∃ r, CallR X (biV .max3) r ∧ BiOk X.K C r (biD f .max3) := by
  refine ⟨_, call_max3Nu hc, fun W σ g H e Q vs ds re hv p => ?_⟩
  match ds, p, hv with
  | [d1, d2, d3], p, hv =>
    cases hv with
    | cons h1 t =>
      cases t with
      | cons h2 t =>
        cases t with
        | cons h3 t =>
          cases t
          cases h1 <;> first | exact p.elim | skip
          cases h2 <;> first | exact p.elim | skip
          cases h3 <;> first | exact p.elim | skip
          rename_i i j k
          exact ⟨_, _, _, .int (max (max i j) k), rfl, nu_max3 i j k, Post.ans re (s := .val (.int _)) p (.int _)⟩
  | [], p, hv => exact p.elim
  | [a], p, hv => cases a <;> exact p.elim
  | [a, b], p, hv => cases a <;> cases b <;> exact p.elim
  | a :: b :: c :: d :: l, p, hv => cases a <;> cases b <;> cases c <;> exact p.elim
/-! sorted(dict) -/
theorem srtd_unique {α : Type} {le : α → α → Prop} (anti : ∀ a b, le a b → le b a → a = b) : ∀ (l l' : List α), l.Perm l' → l.Pairwise le → l'.Pairwise le → l = l'
  | [], l', h, _, _ => (List.nil_perm.mp h).symm
  | a :: l, [], h, _, _ => absurd h.length_eq (by simp)
  | a :: l, b :: l', h, h1, h2 => by
    have e : a = b := by
      have ha : a ∈ b :: l' := h.subset List.mem_cons_self
      have hb : b ∈ a :: l := h.symm.subset List.mem_cons_self
      rcases List.mem_cons.mp ha with z | z
      · exact z
      · rcases List.mem_cons.mp hb with z' | z'
        · exact z'.symm
        · exact anti a b ((List.pairwise_cons.mp h1).1 b z') ((List.pairwise_cons.mp h2).1 a z)
    subst e
    rw [srtd_unique anti l l' ((List.perm_cons a).mp h) (List.pairwise_cons.mp h1).2 (List.pairwise_cons.mp h2).2]
def leSt (a b : List Nat) : Bool := !decide (b < a)
theorem leSt_iff (a b : List Nat) : leSt a b = true ↔ a ≤ b := by
  unfold leSt
  rw [Bool.not_eq_true', decide_eq_false_iff_not]
  exact Iff.rfl
theorem leSt_sort (zs : List (List Nat)) : (zs.map D.str).mergeSort leD = (zs.mergeSort leSt).map D.str := (List.map_mergeSort (r := leSt) (s := leD) (f := D.str) fun _ _ _ _ => rfl).symm
theorem rising_of : ∀ (r : List Str) (p : Str), PyProof.Rows.risingS p r = true → (p :: r).Pairwise fun a b => leSt a.cps.toList b.cps.toList = true
  | [], p, _ => List.pairwise_singleton _ _
  | x :: r, p, h => by
    have h : (!PySem.Spec.ltCps x.cps.toList p.cps.toList && PyProof.Rows.risingS x r) = true := h
    rw [Bool.and_eq_true, PyProof.Rows.ltCps_eq] at h
    have ih := rising_of r x h.2
    have hx : leSt p.cps.toList x.cps.toList = true := h.1
    refine List.pairwise_cons.mpr ⟨fun y hy => ?_, ih⟩
    rcases List.mem_cons.mp hy with e | e
    · subst e; exact hx
    · have := (List.pairwise_cons.mp ih).1 y e
      rw [leSt_iff] at *
      exact List.le_trans hx this
theorem sortedS_of : ∀ {ys : List Str}, PyProof.Rows.sortedS ys = true → ys.Pairwise fun a b => leSt a.cps.toList b.cps.toList = true
  | [], _ => .nil
  | x :: r, h => rising_of r x h
theorem strs_keys {K : PySem.W.Frag} {G : Hp} : ∀ {kvs : List (Key × V)} {ks : List D}, Drs K G (kvs.map fun p => kV p.1) ks → ks.all isStrD = true → ∃ zs : List (List Nat), ks = zs.map D.str ∧ kvs.map (·.1) = (zs.map fun z => (⟨z.toArray⟩ : Str)).map Sum.inr
  | [], _, h, _ => by cases h; exact ⟨[], rfl, rfl⟩
  | p :: kvs, _, h, f => by
    cases h with
    | cons a t =>
      rw [List.all_cons, Bool.and_eq_true] at f
      obtain ⟨zs, e1, e2⟩ := strs_keys t f.2
      obtain ⟨k, v⟩ := p
      cases k with
      | inl i => cases a; cases f.1
      | inr s =>
        rename_i d ds
        obtain ⟨z, e, hz⟩ : ∃ z : List Nat, d = D.str z ∧ s = ⟨z.toArray⟩ := by
          have a : Dr K G (V.str s) d := a
          cases a with
          | str z => exact ⟨z, rfl, rfl⟩
        subst e
        exact ⟨z :: zs, by rw [e1]; rfl, by rw [List.map_cons, e2, hz]; rfl⟩
theorem drs_strs {K : PySem.W.Frag} {G : Hp} : ∀ ys : List Str, Drs K G (ys.map V.str) ((ys.map fun s => s.cps.toList).map D.str)
  | [] => .nil
  | y :: ys => .cons (by
    have : y = ⟨y.cps.toList.toArray⟩ := by cases y; simp
    have h := Dr.str (K := K) (G := G) y.cps.toList
    rw [← this] at h
    exact h) (drs_strs ys)
theorem sorted_keys {K : PySem.W.Frag} {G : Hp} {ys : List Str} {zs : List (List Nat)} (hp : ys.Perm (zs.map fun z => (⟨z.toArray⟩ : Str))) (hs : PyProof.Rows.sortedS ys = true) : Drs K G (ys.map V.str) ((zs.map D.str).mergeSort leD) := by
  have h := drs_strs (K := K) (G := G) ys
  have e : ys.map (fun s => s.cps.toList) = zs.mergeSort leSt := by
    refine srtd_unique (le := fun a b => leSt a b = true) (fun a b h1 h2 => List.le_antisymm ((leSt_iff a b).mp h1) ((leSt_iff b a).mp h2)) _ _ ?_ ?_ ?_
    · refine (hp.map _).trans ?_
      rw [List.map_map]
      have : zs.map ((fun s : Str => s.cps.toList) ∘ fun z => (⟨z.toArray⟩ : Str)) = zs := (List.map_congr_left fun z _ => rfl).trans (List.map_id zs)
      rw [this]
      exact (List.mergeSort_perm zs leSt).symm
    · rw [List.pairwise_map]
      exact sortedS_of hs
    · exact List.pairwise_mergeSort (fun a b c h1 h2 => by
        rw [leSt_iff] at *
        exact List.le_trans h1 h2) (fun a b => by
        rw [Bool.or_eq_true, leSt_iff, leSt_iff]
        exact List.le_total a b) zs
  rw [leSt_sort, ← e]
  exact h
theorem bi_sorted (f : Nat) (hc : X.calm = true) (hu : X.A.units + 64 < cLine) : ∃ r, CallR X (biV .sorted) r ∧ BiOk X.K C r (biD f .sorted) := by
  refine ⟨_, (cr_sortedD hu).or (call_sortedD hc), bi1 (nm1 (fun _ => rfl) (fun a b l e => by cases a <;> rfl)) fun W σ g H e Q v d re hv p => ?_⟩
  cases hv <;> first | exact p.elim | skip
  case lst a xs ds h t =>
    have p : Post X.K C (RepS X.K) W σ g H (DL.req (srtOk ds) (newL f (ds.mergeSort leD)) e) Q := p
    obtain ⟨ho, p⟩ := p.req
    exact .inl ⟨_, _, ds, g.G, rfl, SqL.of h, ho, re.sto.gh, t, fun ys t' => Post.newL re p t'⟩
  case dct a kvs ks vs h t u =>
    have p : Post X.K C (RepS X.K) W σ g H (DL.req (ks.all isStrD && decide (ks.length < 64)) (newL f (ks.mergeSort leD)) e) Q := p
    obtain ⟨ho, p⟩ := p.req
    rw [Bool.and_eq_true, decide_eq_true_eq] at ho
    obtain ⟨zs, e1, e2⟩ := strs_keys t ho.1
    refine .inr ⟨_, kvs, zs.map fun z => (⟨z.toArray⟩ : Str), rfl, Rd.of h, e2, by rw [List.length_map]; have := ho.2; rw [e1, List.length_map] at this; exact this, fun ys q hp hs hq => ?_⟩
    have d := sorted_keys (K := X.K) (G := g.G) hp hs
    rw [← e1] at d
    exact Post.newL re p d q hq
/-- every built-in but isinstance -/
theorem bi_ok (hc : X.calm = true) (hu : X.A.units + 64 < cLine) (f : Nat) : ∀ m : Bi, (∀ T, m ≠ .isi T) → ∃ r, CallR X (biV m) r ∧ BiOk X.K C r (biD f m)
  | .len, _ => bi_len f
  | .max2, _ => bi_max2 f hc
  | .min2, _ => bi_min2 f hc
  | .abs, _ => bi_abs f
  | .int1, _ => bi_int1 f
  | .sum, _ => bi_sum f hc
  | .maxL, _ => bi_maxL f hc hu
  | .minL, _ => bi_minL f hc hu
  | .all, _ => bi_all f hc
  | .any, _ => bi_any f hc
  | .listOf, _ => bi_listOf f hc
  | .tupleOf, _ => bi_tupleOf f
  | .ord, _ => bi_ord f
  | .str1, _ => bi_str1 f
  | .sorted, _ => bi_sorted f hc hu
  | .dictOf, _ => bi_dictOf f hc
  | .max3, _ => bi_max3 f hc
  | .isi T, h => absurd rfl (h T)
def tyN : Nat → String
  | 0 => "int"
  | 1 => "bool"
  | 2 => "str"
  | 3 => "tuple"
  | 4 => "list"
  | 5 => "dict"
  | _ => "int"
theorem kitB_all : ∀ T : Nat, T < 6 → kitB "NoneType" (tyN T) = some false ∧ kitB "bool" (tyN T) = some (decide (T = 0) || decide (T = 1)) ∧ kitB "int" (tyN T) = some (decide (T = 0)) ∧ kitB "str" (tyN T) = some (decide (T = 2)) ∧
    kitB "tuple" (tyN T) = some (decide (T = 3)) ∧ kitB "list" (tyN T) = some (decide (T = 4)) ∧ kitB "dict" (tyN T) = some (decide (T = 5)) := by
  decide +kernel
theorem isi_ok {T : Nat} (hT : T < 6) : ∀ (W : WX) (σ : St) (g : Gh) (H : Hp) (e : En) (Q : VK) (v : V) (d : D), Rel X.K e σ H g → Rd3 X.K g.G H v d → Q (.bl (isiD T d)) H → rIsi X.K [v, .ty (tyN T)] H Q := by
  intro W σ g H e Q v d re hv q
  obtain ⟨k1, k2, k3, k4, k5, k6, k7⟩ := kitB_all T hT
  have fin : ∀ (t : Value) (b : Bool) (n : String), t = .type n → TyX X.K H v t → kitB n (tyN T) = some b → isiD T d = b → rIsi X.K [v, .ty (tyN T)] H Q := fun t b n e1 e2 e3 e4 => by
    subst e1
    exact ⟨v, .ty (tyN T), .type n, .type (tyN T), b, rfl, .ty _, e2, kit_ty e3, by rw [← e4]; exact q⟩
  have six : T = 0 ∨ T = 1 ∨ T = 2 ∨ T = 3 ∨ T = 4 ∨ T = 5 := by omega
  cases hv with
  | non => exact fin _ _ _ rfl (.base .non) k1 (by rcases six with rfl | rfl | rfl | rfl | rfl | rfl <;> rfl)
  | bl b => exact fin _ _ _ rfl (.base (.bl b)) k2 (by rcases six with rfl | rfl | rfl | rfl | rfl | rfl <;> rfl)
  | int b => exact fin _ _ _ rfl (.base (.int b)) k3 (by rcases six with rfl | rfl | rfl | rfl | rfl | rfl <;> rfl)
  | str b => exact fin _ _ _ rfl (.base (.str _)) k4 (by rcases six with rfl | rfl | rfl | rfl | rfl | rfl <;> rfl)
  | lst h t => exact fin _ _ _ rfl (.base (.lst h)) k6 (by rcases six with rfl | rfl | rfl | rfl | rfl | rfl <;> rfl)
  | dct h t u => exact fin _ _ _ rfl (.base (.dK h)) k7 (by rcases six with rfl | rfl | rfl | rfl | rfl | rfl <;> rfl)
  | tup h t =>
    rcases re.sto.gh.seqT h with (h | ⟨o, h⟩) | ⟨o, its, n, h1, h2, _⟩
    · exact fin _ _ _ rfl (.base (.tup h)) k5 (by rcases six with rfl | rfl | rfl | rfl | rfl | rfl <;> rfl)
    · exact fin _ _ _ rfl (.fTuple h) k5 (by rcases six with rfl | rfl | rfl | rfl | rfl | rfl <;> rfl)
    · exact fin _ _ _ rfl (.kTuple h1 h2) k5 (by rcases six with rfl | rfl | rfl | rfl | rfl | rfl <;> rfl)
  | frl h t =>
    rcases re.sto.gh.seqL h with (h | ⟨o, h⟩) | ⟨o, its, n, h1, h2, _⟩
    · exact fin _ _ _ rfl (.base (.lst h)) k6 (by rcases six with rfl | rfl | rfl | rfl | rfl | rfl <;> rfl)
    · exact fin _ _ _ rfl (.base (.frz h)) k6 (by rcases six with rfl | rfl | rfl | rfl | rfl | rfl <;> rfl)
    · exact fin _ _ _ rfl (.kList h1 h2) k6 (by rcases six with rfl | rfl | rfl | rfl | rfl | rfl <;> rfl)
end
end DL
/-! DL, part g: methods by values. -/
namespace DL
open PySem L2
variable [xb : Xb] [Tb]
section
variable {K : PySem.W.Frag} {C : Nat → Addr} {W : WX} {σ : St} {g : Gh} {H G : Hp} {e : En} {Q : VK} {X : Cx}
def mtId : Mt → String
  | .append => "list.append"
  | .extend => "list.extend"
  | .popL => "list.pop"
  | .popAt => "list.pop"
  | .clearL => "list.clear"
  | .index => "list.index"
  | .join => "str.join"
  | .split => "str.split"
  | .rpart => "str.rpartition"
def mtTy (m : Mt) : String := if isLstM m then "list" else "str"
def mtNm : Mt → Str
  | .append => "append"
  | .extend => "extend"
  | .popL => "pop"
  | .popAt => "pop"
  | .clearL => "clear"
  | .index => "index"
  | .join => "join"
  | .split => "split"
  | .rpart => "rpartition"
theorem mt_plain (m : Mt) : PlainAttrs (mtTy m) := by
  cases m <;> first | exact PySem.F.plainAttrs_list | exact PySem.F.plainAttrs_str
theorem mt_slot (m : Mt) : Slot (mtTy m) (mtNm m) (mtId m) := by
  cases m
  · exact PySem.F.slot_list_append
  · exact PySem.F.slot_list_extend
  · exact PySem.F.slot_list_pop
  · exact PySem.F.slot_list_pop
  · exact PySem.F.slot_list_clear
  · exact PySem.F.slot_list_index
  · exact PySem.F.slot_str_join
  · exact PySem.F.slot_str_split
  · exact PySem.F.slot_str_rpartition
theorem mt_type (m : Mt) : typeOf (.builtin (mtId m)) = pure (.type "method_descriptor") := by
  cases m
  · exact PySem.F.type_list_append
  · exact PySem.F.type_list_extend
  · exact PySem.F.type_list_pop
  · exact PySem.F.type_list_pop
  · exact PySem.F.type_list_clear
  · exact PySem.F.type_list_index
  · exact PySem.F.type_str_join
  · exact PySem.F.type_str_split
  · exact PySem.F.type_str_rpartition
/-- the receiver's type ahead of the arguments -/
theorem ty_ok {m : Mt} {v : V} {s : Sl} {e' : En} (re : Rel X.K e σ H g) (r : RepS X.K g v s) (h : tyM m s e = .ok () e') : e' = e ∧ tyV X.K (mtTy m) v H := by
  unfold tyM at h
  unfold mtTy
  cases hm : isLstM m with
  | true =>
    rw [hm] at h
    rw [if_pos rfl]
    cases s with
    | und => cases h
    | xc _ _ => cases h
    | cel k =>
      obtain ⟨a, hk, rfl⟩ := r
      simp only at h
      cases hc : e.cs[k]? with
      | none => rw [hc] at h; cases h
      | some c =>
        rw [hc] at h
        have ce := re.sto.cel k a c hk hc
        cases c with
        | lst xs => cases h; obtain ⟨_, ys, q, _⟩ := ce; exact ⟨rfl, .inl ⟨rfl, _, SqL.of q⟩⟩
        | rls ids => cases h; obtain ⟨_, ys, q, _⟩ := ce; exact ⟨rfl, .inl ⟨rfl, _, SqL.of q⟩⟩
        | gone => cases h
        | dct _ _ => cases h
    | val d =>
      have r : Dr X.K g.G v d := r
      cases r <;> first | (cases h; done) | skip
      case lst hh t => cases h; exact ⟨rfl, .inl ⟨rfl, _, SqL.of (re.sto.gh _ _ hh)⟩⟩
  | false =>
    rw [hm] at h
    rw [if_neg Bool.false_ne_true]
    cases s with
    | und => cases h
    | xc _ _ => cases h
    | cel k => cases h
    | val d =>
      have r : Dr X.K g.G v d := r
      cases r <;> first | (cases h; done) | skip
      case str s => cases h; exact ⟨rfl, rfl⟩
def MtOk (K : PySem.W.Frag) (C : Nat → Addr) (r : V → List V → Hp → VK → Prop) (F : Sl → List Sl → M Sl) : Prop :=
  ∀ (W : WX) (σ : St) (g : Gh) (H : Hp) (e : En) (Q : VK) (v : V) (vs : List V) (s : Sl) (ss : List Sl), Rel K e σ H g → RepS K g v s → RepSs K g vs ss → Post K C (RepS K) W σ g H (F s ss e) Q → r v vs H Q
/-- a cell's content -/
theorem Post.getC {β ρ : Type} {R2 : Gh → ρ → β → Prop} {Q : ρ → Hp → Prop} {f : Ce → M β} {k : Nat} {v : V} (re : Rel K e σ H g) (r : RepS K g v (.cel k)) (h : Post K C R2 W σ g H (bnd (getC k) f e) Q) :
    ∃ a c, g.adr[k]? = some a ∧ v = .ref a ∧ e.cs[k]? = some c ∧ CeAt K g H a c ∧ Post K C R2 W σ g H (f c e) Q := by
  obtain ⟨a, hk, rfl⟩ := r
  unfold bnd DL.getC at h
  cases hc : e.cs[k]? with
  | none => rw [hc] at h; exact h.elim
  | some c =>
    rw [hc] at h
    exact ⟨a, c, hk, rfl, rfl, re.sto.cel k a c hk hc, h⟩
/-- behind a store into a cell -/
theorem Post.setC {k : Nat} {a : Addr} {o : HO} {c : Ce} {d : D} {w : V} (re : Rel K e σ H g) (hk : g.adr[k]? = some a) (hn : g.G a = none) (hc : CeAt K g (upd H a o) a c)
    (h : Post K C (RepS K) W σ g H (bnd (setC k c) (fun _ => ret (.val d)) e) Q) (r : Dr K g.G w d) (ho : celO o := by exact True.intro) : Q w (upd H a o) := by
  obtain ⟨re', st⟩ := re.putC (o := o) hk hn hc ho
  exact h w g _ re' st r
theorem RepSs.nil_inv {vs : List V} (h : RepSs K g vs []) : vs = [] := by cases h; rfl
theorem RepSs.one_inv {vs : List V} {s : Sl} (h : RepSs K g vs [s]) : ∃ v, vs = [v] ∧ RepS K g v s := by
  cases h with
  | cons a t => cases t; exact ⟨_, rfl, a⟩
theorem mt_app (f : Nat) : ∃ r, MtR X (mtId .append) r ∧ MtOk X.K C r (mtM f .append) := by
  refine ⟨_, mt_append, fun W σ g H e Q v vs s ss re r rs h => ?_⟩
  match s, ss, h with
  | .cel k, [a], h =>
    obtain ⟨x, rfl, rx⟩ := rs.one_inv
    obtain ⟨p, c, hk, rfl, hc, ce, h⟩ := Post.getC re r h
    cases c with
    | gone => exact h.elim
    | dct _ _ => exact h.elim
    | lst xs0 =>
      obtain ⟨d, e1, g1, re1, st1, rd, h⟩ := Post.d re rx h
      obtain ⟨p', c', hk', ep, hc', ce', h⟩ := Post.getC re1 (r.mono st1.le) h
      cases ep
      cases c' with
      | lst xs =>
        obtain ⟨hz, h⟩ := Post.req h
        obtain ⟨hn, ys, hy, ty⟩ := ce'
        refine ⟨p, ys, x, rfl, rfl, hy, ?_, Post.setC (c := .lst (xs ++ [d])) re1 hk' hn ⟨hn, _, upd_same, ty.append (.cons rd .nil)⟩ h .non⟩
        rw [ty.length, szl]; exact of_decide_eq_true hz
      | gone => exact h.elim
      | dct _ _ => exact h.elim
      | rls _ => exact h.elim
    | rls ids =>
      match a, rx, h with
      | .cel j, rx, h =>
        obtain ⟨hz, h⟩ := Post.req h
        obtain ⟨hn, as, hy, ty⟩ := ce
        obtain ⟨b, hb, rfl⟩ := rx
        have hl : ids.length = as.length := by simpa using congrArg List.length ty
        refine ⟨p, _, .ref b, rfl, rfl, hy, ?_, Post.setC (c := .rls (ids ++ [j])) re hk hn ⟨hn, as ++ [b], ?_, ?_⟩ h .non⟩
        · rw [List.length_map, ← hl, szl]; exact of_decide_eq_true hz
        · rw [List.map_append]; exact upd_same
        · rw [List.map_append, List.map_append, ty, List.map_cons, hb]; rfl
      | .und, rx, h => exact h.elim
      | .val _, rx, h => exact h.elim
      | .xc _ _, rx, h => exact h.elim
  | .und, _, h => exact r.elim
  | .val _, [], h => exact h.elim
  | .xc _ _, [], h => exact h.elim
  | .val _, _ :: _, h => exact h.elim
  | .xc _ _, _ :: _, h => exact h.elim
  | .cel _, [], h => exact h.elim
  | .cel _, _ :: _ :: _, h => exact h.elim
theorem list_extend_tup (l : Addr) (items : Array Value) (n : Nat) (b : Addr) (items2 : Array Value) (n2 : Nat) (dd : Option Addr) (sl : Array (Option Value)) (hs0 : ¬(!items.isEmpty && Builtin.List.listTooLong (items.size + items2.size)) = true) (hs1 : items.size ≤ sizeLine) (hs2 : items.size + items2.size ≤ sizeLine + 1) :
    Meets (Builtin.«list.extend» ⟨[.ref l, .ref b], []⟩) (fun _ R s => s.heap.get? l = some { cls := .type "list", dict := none, data := .seq items n, slots := #[] } ∧ s.heap.get? b = some { cls := .type "tuple", dict := dd, data := .seq items2 n2, slots := sl } ∧ R (.ok (.ret Value.none)) { s with heap := s.heap.update l (Obj.mapSeq fun x => x ++ items2), toks := s.toks }) :=
  .of_wp fun prog w A R s h => by
    obtain ⟨hp, g, d, tk, os⟩ := s; obtain ⟨hl, hb, h⟩ := h; have f1 := AutoSeq1.idx_int; have f2 := AutoSeq1.sub_tuple_tuple; have f3 := AutoSeq1.sub_list_list; have f4 := AutoSeq1.sub_tuple_list; have f5 := AutoSeq1.sub_list_tuple;
    have hz' : (items ++ items2).size ≤ sizeLine + 1 := by rw [Array.size_append]; exact hs2
    wp_walk using (wpAny_updateSeq hl rfl (hz := hs1) (_hz' := hz')), AutoSeq1.wpAny_loadPart' hl, AutoSeq1.wpAny_loadPart' hb; exact ⟨_, rfl, h⟩
def rExtend2 (K : PySem.W.Frag) : V → List V → Hp → VK → Prop := fun x vs H Q => ∃ l b xs zs, x = .ref l ∧ vs = [.ref b] ∧ H l = some (.lst xs) ∧ (H b = some (.lst zs) ∨ SqT K H b zs) ∧ xs.length + zs.length ≤ sizeLine ∧ Q .non (upd H l (.lst (xs ++ zs)))
theorem mt_extend2 : MtM X "list.extend" (rExtend2 X.K) := by
  intro pins s σ H x vs v us Q I rx rv h
  obtain ⟨l, b, xs, zs, rfl, rfl, hH, hB | hB, hz, q⟩ := h
  · exact mt_extend pins s σ H _ _ v us Q I rx rv ⟨l, b, xs, zs, rfl, rfl, hH, hB, hz, q⟩
  · cases rx
    obtain ⟨u, rfl, ru⟩ := rv.one
    cases ru
    obtain ⟨z, its, n, r, hl, e⟩ := I.lstM hH
    obtain ⟨its2, r2, ⟨⟨oc, od, oda, osl⟩, e2, hcls, n2, hdat⟩, z2⟩ := I.tuple hB
    simp only at hcls hdat
    subst hcls; subst hdat
    have hl2 := r2.length
    have hsz : its.toArray.size + its2.toArray.size ≤ sizeLine := by rw [List.size_toArray, List.size_toArray]; omega
    have hlong : ¬ (!its.toArray.isEmpty && Builtin.List.listTooLong (its.toArray.size + its2.toArray.size)) = true := by
      rw [notLongL hsz, Bool.and_false]
      exact Bool.false_ne_true
    refine call_meets F.slot_list_extend ⟨_, e, rfl⟩ F.entry_list_extend (F.args_list_extend_2 _ _)
      (list_extend_tup l its.toArray n b its2.toArray n2 od osl hlong (by rw [List.size_toArray]; omega) (by omega)) ⟨e, e2, ?_⟩
    refine ⟨.non, _, I.lset (its' := its ++ its2) hH e (by simp) (r.append r2) ?_, rfl, q⟩
    rw [List.length_append]
    omega
theorem mt_ext (f : Nat) : ∃ r, MtR X (mtId .extend) r ∧ MtOk X.K C r (mtM f .extend) := by
  refine ⟨_, mt_extend2, fun W σ g H e Q v vs s ss re r rs h => ?_⟩
  match s, ss, h with
  | .cel k, [a], h =>
    obtain ⟨x, rfl, rx⟩ := rs.one_inv
    obtain ⟨d, rd, h⟩ := Post.rd re rx h
    obtain ⟨p, c, hk, rfl, hc, ce, h⟩ := Post.getC re r h
    cases c with
    | gone => exact h.elim
    | dct _ _ => exact h.elim
    | rls _ => exact h.elim
    | lst xs =>
      cases rd <;> first | exact h.elim | skip
      case lst bb zs b h1 t1 h =>
        obtain ⟨hz, h⟩ := Post.req h
        obtain ⟨hn, ys, hy, ty⟩ := ce
        refine ⟨p, bb, ys, zs, rfl, rfl, hy, .inl h1, ?_, Post.setC (c := .lst (xs ++ b)) re hk hn ⟨hn, _, upd_same, ty.append t1⟩ h .non⟩
        rw [ty.length, t1.length, szl]; exact of_decide_eq_true hz
      case tup bb zs b h1 t1 h =>
        obtain ⟨hz, h⟩ := Post.req h
        obtain ⟨hn, ys, hy, ty⟩ := ce
        refine ⟨p, bb, ys, zs, rfl, rfl, hy, .inr ?_, ?_, Post.setC (c := .lst (xs ++ b)) re hk hn ⟨hn, _, upd_same, ty.append t1⟩ h .non⟩
        · first | exact h1 | exact re.sto.gh.seqT h1
        · rw [ty.length, t1.length, szl]; exact of_decide_eq_true hz
  | .und, _, h => exact r.elim
  | .val _, [], h => exact h.elim
  | .xc _ _, [], h => exact h.elim
  | .val _, _ :: _, h => exact h.elim
  | .xc _ _, _ :: _, h => exact h.elim
  | .cel _, [], h => exact h.elim
  | .cel _, _ :: _ :: _, h => exact h.elim
theorem mt_popl (f : Nat) : ∃ r, MtR X (mtId .popL) r ∧ MtOk X.K C r (mtM f .popL) := by
  refine ⟨_, mt_pop, fun W σ g H e Q v vs s ss re r rs h => ?_⟩
  match s, ss, h with
  | .cel k, [], h =>
    cases rs.nil_inv
    obtain ⟨p, c, hk, rfl, hc, ce, h⟩ := Post.getC re r h
    cases c with
    | gone => exact h.elim
    | dct _ _ => exact h.elim
    | rls _ => exact h.elim
    | lst xs =>
      obtain ⟨hn, ys, hy, ty⟩ := ce
      have h : Post X.K C (RepS X.K) W σ g H ((match xs[xs.length - 1]? with | some d => bnd (DL.setC k (.lst xs.dropLast)) fun _ => ret (.val d) | none => stk : M Sl) e) Q := h
      cases hd : xs[xs.length - 1]? with
      | none => rw [hd] at h; exact h.elim
      | some d =>
        rw [hd] at h
        obtain ⟨w, hw, rw'⟩ := ty.get hd
        exact ⟨p, ys, w, rfl, rfl, hy, by rw [ty.length]; exact hw, Post.setC (c := .lst xs.dropLast) re hk hn ⟨hn, _, upd_same, ty.dropLast⟩ h rw'⟩
  | .und, _, h => exact r.elim
  | .val _, [], h => exact h.elim
  | .xc _ _, [], h => exact h.elim
  | .val _, _ :: _, h => exact h.elim
  | .xc _ _, _ :: _, h => exact h.elim
  | .cel _, _ :: _, h => exact h.elim
theorem mt_popat (f : Nat) : ∃ r, MtR X (mtId .popAt) r ∧ MtOk X.K C r (mtM f .popAt) := by
  refine ⟨_, mt_popAt, fun W σ g H e Q v vs s ss re r rs h => ?_⟩
  match s, ss, h with
  | .cel k, [a], h =>
    obtain ⟨x, rfl, rx⟩ := rs.one_inv
    obtain ⟨d, rd, h⟩ := Post.rd re rx h
    obtain ⟨p, c, hk, rfl, hc, ce, h⟩ := Post.getC re r h
    cases c with
    | gone => exact h.elim
    | dct _ _ => exact h.elim
    | rls _ => exact h.elim
    | lst xs =>
      cases rd <;> first | exact h.elim | skip
      case int i h =>
        obtain ⟨hn, ys, hy, ty⟩ := ce
        have h : Post X.K C (RepS X.K) W σ g H ((match ixP xs.length i with | some j => (match xs[j]? with | some d => req (decide (xs.length ≤ SZ)) (bnd (DL.setC k (.lst (xs.eraseIdx j))) fun _ => ret (.val d)) | none => stk) | none => stk : M Sl) e) Q := h
        cases hj : ixP xs.length i with
        | none => rw [hj] at h; exact h.elim
        | some j =>
          rw [hj] at h
          simp only at h
          cases hd : xs[j]? with
          | none => rw [hd] at h; exact h.elim
          | some d =>
            rw [hd] at h
            obtain ⟨hz, h⟩ := Post.req h
            have hz : xs.length ≤ 16777216 := of_decide_eq_true hz
            obtain ⟨w, hw, rw'⟩ := ty.get hd
            have h' : ixN xs.length i = some j := hj
            obtain ⟨h1, h2, h3, h4⟩ := ixN_seq h'
            refine ⟨p, ys, i, j, w, rfl, rfl, hy, by omega, by omega, by rw [ty.length]; exact h1, hw, Post.setC (c := .lst (xs.eraseIdx j)) re hk hn ⟨hn, _, upd_same, ty.eraseIdx j⟩ h rw'⟩
  | .und, _, h => exact r.elim
  | .val _, [], h => exact h.elim
  | .xc _ _, [], h => exact h.elim
  | .val _, _ :: _, h => exact h.elim
  | .xc _ _, _ :: _, h => exact h.elim
  | .cel _, [], h => exact h.elim
  | .cel _, _ :: _ :: _, h => exact h.elim
theorem mt_clr (f : Nat) : ∃ r, MtR X (mtId .clearL) r ∧ MtOk X.K C r (mtM f .clearL) := by
  refine ⟨_, mt_clear, fun W σ g H e Q v vs s ss re r rs h => ?_⟩
  match s, ss, h with
  | .cel k, [], h =>
    cases rs.nil_inv
    obtain ⟨p, c, hk, rfl, hc, ce, h⟩ := Post.getC re r h
    cases c with
    | gone => exact h.elim
    | dct _ _ => exact h.elim
    | rls _ => exact h.elim
    | lst xs =>
      obtain ⟨hn, ys, hy, ty⟩ := ce
      exact ⟨p, ys, rfl, rfl, hy, Post.setC (c := .lst []) re hk hn ⟨hn, _, upd_same, .nil⟩ h .non⟩
  | .und, _, h => exact r.elim
  | .val _, [], h => exact h.elim
  | .xc _ _, [], h => exact h.elim
  | .val _, _ :: _, h => exact h.elim
  | .xc _ _, _ :: _, h => exact h.elim
  | .cel _, _ :: _, h => exact h.elim
theorem join_len (sep : List Nat) : ∀ l : List (List Nat), ((l.map stOf).map (·.length)).sum + (l.map stOf).length * sep.length ≤ (joinS sep l).length + sep.length
  | [] => by simp [joinS]
  | [a] => by simp [joinS, stOf, str_len]
  | a :: b :: l => by
    have ih := join_len sep (b :: l)
    have e3 : joinS sep (a :: b :: l) = a ++ sep ++ joinS sep (b :: l) := rfl
    have e1 : Str.length (stOf a) = a.length := str_len a
    rw [List.map_cons, List.map_cons, List.sum_cons, List.length_cons, Nat.add_mul, Nat.one_mul, e3, List.length_append, List.length_append, e1]
    omega
theorem join_is (sep : List Nat) : ∀ l : List (List Nat), Str.join ⟨sep.toArray⟩ (l.map stOf) = ⟨(joinS sep l).toArray⟩
  | [] => rfl
  | [a] => rfl
  | a :: b :: l => by
    show stOf a ++ ⟨sep.toArray⟩ ++ Str.join ⟨sep.toArray⟩ ((b :: l).map stOf) = _
    rw [join_is sep (b :: l)]
    show (⟨a.toArray⟩ : Str) ++ ⟨sep.toArray⟩ ++ ⟨(joinS sep (b :: l)).toArray⟩ = ⟨(a ++ sep ++ joinS sep (b :: l)).toArray⟩
    rw [str_app, str_app]
theorem mt_joinD (f : Nat) : ∃ r, MtR X (mtId .join) r ∧ MtOk X.K C r (mtM f .join) := by
  refine ⟨_, mt_join, fun W σ g H e Q v vs s ss re r rs h => ?_⟩
  match s, ss, h with
  | .val (.str sep), [a], h =>
    obtain ⟨x, rfl, rx⟩ := rs.one_inv
    have r : Dr X.K g.G v (.str sep) := r
    cases r
    obtain ⟨d, rd, h⟩ := Post.rd re rx h
    cases rd <;> first | exact h.elim | skip
    case lst b zs es h1 t1 =>
      have h : Post X.K C (RepS X.K) W σ g H ((match strsOf es with | some l => req (decide ((joinS sep l).length + sep.length ≤ SZ)) (ret (.val (.str (joinS sep l)))) | none => stk : M Sl) e) Q := h
      cases hl : strsOf es with
      | none => rw [hl] at h; exact h.elim
      | some l =>
        rw [hl] at h
        obtain ⟨hz, h⟩ := Post.req h
        have hz := of_decide_eq_true hz
        refine ⟨_, b, l.map stOf, rfl, rfl, .inl (by rw [← strs_of t1 hl]; exact SqL.of h1), ?_, ?_⟩
        · rw [str_len]
          exact Nat.le_trans (join_len sep l) hz
        · have e1 : Txt.join ⟨sep.toArray⟩ (l.map stOf) = ⟨(joinS sep l).toArray⟩ := (TL.join_eq _ _).trans (join_is sep l)
          rw [e1]
          exact Post.ans re (s := .val (.str _)) h (.str _)
  | .und, _, h => exact r.elim
  | .val (.str _), [], h => exact h.elim
  | .val (.str _), _ :: _ :: _, h => exact h.elim
  | .val .non, _, h => exact h.elim
  | .val (.bl _), _, h => exact h.elim
  | .val (.int _), _, h => exact h.elim
  | .val (.lst _), _, h => exact h.elim
  | .val (.tup _), _, h => exact h.elim
  | .val (.dct _ _), _, h => exact h.elim
  | .val (.frl _), _, h => exact h.elim
  | .xc _ _, _, h => exact h.elim
  | .cel _, _, h => exact h.elim
theorem splitS_ne (c : Nat) : ∀ l, splitS c l ≠ []
  | [] => by simp [splitS]
  | x :: r => by
    have ih := splitS_ne c r
    unfold splitS
    split
    · simp
    · cases h : splitS c r with
      | nil => exact absurd h ih
      | cons w m => simp
theorem spl_is (c : Nat) : ∀ (l acc : List Nat), TL.spl [c] 0 acc l = (match splitS c l with | w :: m => (acc ++ w) :: m | [] => [acc])
  | [], acc => by simp [TL.spl, splitS]
  | x :: r, acc => by
    have e1 : TL.pre [c] (x :: r) = (x == c) := by
      show ((x :: r).take 1 == [c]) = _
      rw [Bool.eq_iff_iff]; simp
    have e2 : TL.spl [c] 0 acc (x :: r) = if TL.pre [c] (x :: r) = true then acc :: TL.spl [c] 0 [] r else TL.spl [c] 0 (acc ++ [x]) r := rfl
    rw [e2, e1]
    by_cases h : x = c
    · subst h
      have ih := spl_is x r []
      have e3 : splitS x (x :: r) = [] :: splitS x r := by
        show (if x = x then _ else _) = _
        rw [if_pos rfl]
      rw [if_pos (by simp), ih, e3]
      cases hs : splitS x r with
      | nil => exact absurd hs (splitS_ne x r)
      | cons w m => simp
    · have ih := spl_is c r (acc ++ [x])
      have e3 : splitS c (x :: r) = match splitS c r with | w :: l => (x :: w) :: l | [] => [[x]] := by
        show (if x = c then _ else _) = _
        exact if_neg h
      rw [if_neg (by simpa using h), ih, e3]
      cases hs : splitS c r with
      | nil => exact absurd hs (splitS_ne c r)
      | cons w m => simp
theorem mt_spl (f : Nat) : ∃ r, MtR X (mtId .split) r ∧ MtOk X.K C r (mtM f .split) := by
  refine ⟨_, mt_split, fun W σ g H e Q v vs s ss re r rs h => ?_⟩
  match s, ss, h with
  | .val (.str z), [a], h =>
    obtain ⟨x, rfl, rx⟩ := rs.one_inv
    have r : Dr X.K g.G v (.str z) := r
    cases r
    obtain ⟨d, rd, p⟩ := Post.rd re rx h
    clear h
    cases rd <;> first | exact p.elim | skip
    rename_i sep
    have h := p
    clear p
    revert h
    intro h
    · match sep, h with
      | [c], h =>
        obtain ⟨hz, h⟩ := Post.req h
        rw [Bool.and_eq_true] at hz
        have h1 : z.length + 2 ≤ 16777216 := of_decide_eq_true hz.1
        have h2 : c < 256 := of_decide_eq_true hz.2
        have hs : Txt.split ⟨z.toArray⟩ ⟨[c].toArray⟩ = (splitS c z).map stOf := by
          refine TL.map_tl_inj ?_
          rw [TL.split_spl ⟨z.toArray⟩ ⟨[c].toArray⟩ (by simp [TL.tl]) (TL.kind_ok (by simpa using h2))]
          show TL.spl [c] 0 [] (z.toArray.toList) = _
          rw [List.toList_toArray, spl_is, List.map_map]
          cases e : splitS c z with
          | nil => exact absurd e (splitS_ne c z)
          | cons w m =>
            show ([] ++ w) :: m = _
            simp [TL.tl, stOf, Function.comp_def]
        refine ⟨_, _, rfl, rfl, rfl, by rw [str_len, szl]; exact h1, ?_⟩
        rw [hs]
        refine Post.newL re h ?_
        clear hs h
        induction splitS c z with
        | nil => exact .nil
        | cons w m ih => exact .cons (.str w) ih
      | [], h => exact h.elim
      | _ :: _ :: _, h => exact h.elim
  | .und, _, h => exact r.elim
  | .val (.str _), [], h => exact h.elim
  | .val (.str _), _ :: _ :: _, h => exact h.elim
  | .val .non, _, h => exact h.elim
  | .val (.bl _), _, h => exact h.elim
  | .val (.int _), _, h => exact h.elim
  | .val (.lst _), _, h => exact h.elim
  | .val (.tup _), _, h => exact h.elim
  | .val (.dct _ _), _, h => exact h.elim
  | .val (.frl _), _, h => exact h.elim
  | .xc _ _, _, h => exact h.elim
  | .cel _, _, h => exact h.elim
/-- x.rpartition(sep), by the last place -/
theorem mt_rpartition : MtR X "str.rpartition" (fun x xs H Q => ∃ a b, x = .str a ∧ xs = [.str b] ∧ (b.length == 0) = false ∧ a.length ≤ sizeLine ∧
    ∀ p, H p = none → match Builtin.Str.lastOccurrence a b 0 a.length with
      | some i => Q (.ref p) (upd H p (.tup [.str (Builtin.Str.strSub a 0 i), .str b, .str (Builtin.Str.strSub a (i + b.length) a.length)]))
      | none => Q (.ref p) (upd H p (.tup [.str Str.empty, .str Str.empty, .str a]))) := by
  intro pins s σ H x xs v us Q I rx rs h
  obtain ⟨a, b, rfl, rfl, hb, hz, h⟩ := h
  obtain ⟨t, rfl⟩ := rx
  cases rs with
  | cons r1 rs =>
    cases rs
    obtain ⟨u, rfl⟩ := r1
    refine call_meets PySem.F.slot_str_rpartition (typeIs_str _ _ _) PySem.F.entry_str_rpartition (PySem.F.args_str_rpartition_2 _ _) (meets_str_rpartition a b t u hb hz) ?_
    revert h
    cases Builtin.Str.lastOccurrence a b 0 a.length with
    | none => intro h; exact laid_parts I h
    | some i => intro h; exact laid_parts I h
theorem lastIx_spec (c : Nat) : ∀ z : List Nat, (lastIx c z = none ∧ ∀ i : Nat, z[i]? ≠ some c) ∨ ∃ i : Nat, lastIx c z = some i ∧ z[i]? = some c ∧ ∀ k : Nat, i < k → z[k]? ≠ some c
  | [] => .inl ⟨rfl, fun i => by simp⟩
  | x :: r => by
    unfold lastIx
    rcases lastIx_spec c r with ⟨e, h⟩ | ⟨i, e, h1, h2⟩
    · rw [e]
      by_cases q : x = c
      · refine .inr ⟨0, by simp [q], by simp [q], fun k hk => ?_⟩
        obtain ⟨m, rfl⟩ : ∃ m, k = m + 1 := ⟨k - 1, by omega⟩
        simpa using h m
      · refine .inl ⟨by simp [q], fun k => ?_⟩
        cases k with
        | zero => simpa using q
        | succ m => simpa using h m
    · rw [e]
      refine .inr ⟨i + 1, rfl, by simpa using h1, fun k hk => ?_⟩
      obtain ⟨m, rfl⟩ : ∃ m, k = m + 1 := ⟨k - 1, by omega⟩
      simpa using h2 m (by omega)
theorem ext_one (z : List Nat) (i : Nat) (h : i < z.length) : (z.toArray.extract i (i + 1)).toList = [z[i]] := by
  rw [Array.toList_extract, List.extract_eq_take_drop]
  show (z.drop i).take (i + 1 - i) = _
  rw [List.drop_eq_getElem_cons h, show i + 1 - i = 1 by omega]
  rfl
theorem at_iff (c : Nat) (z : List Nat) (i : Nat) : StrLaws.At ⟨z.toArray⟩ ⟨[c].toArray⟩ (⟨z.toArray⟩ : Str).length i ↔ z[i]? = some c := by
  have e1 : (⟨z.toArray⟩ : Str).length = z.length := rfl
  have e2 : (⟨[c].toArray⟩ : Str).length = 1 := rfl
  unfold StrLaws.At
  rw [e1, e2]
  constructor
  · rintro ⟨h1, h2⟩
    have h3 : z.toArray.extract i (i + 1) = [c].toArray := eq_of_beq h2
    have h4 := congrArg Array.toList h3
    rw [ext_one z i (by omega)] at h4
    rw [List.getElem?_eq_getElem (by omega)]
    injection h4 with h5
    rw [h5]
  · intro h
    obtain ⟨h1, h2⟩ := List.getElem?_eq_some_iff.mp h
    refine ⟨by omega, ?_⟩
    have h3 : z.toArray.extract i (i + 1) = [c].toArray := Array.toList_inj.mp (by rw [ext_one z i h1, h2])
    show (z.toArray.extract i (i + 1) == [c].toArray) = true
    rw [h3]
    exact beq_self_eq_true _
theorem last_is (c : Nat) (z : List Nat) : Builtin.Str.lastOccurrence ⟨z.toArray⟩ ⟨[c].toArray⟩ 0 (⟨z.toArray⟩ : Str).length = lastIx c z := by
  rcases StrLaws.last_spec ⟨z.toArray⟩ ⟨[c].toArray⟩ with ⟨e, h⟩ | ⟨i, e, h1, h2⟩
  · rcases lastIx_spec c z with ⟨f, _⟩ | ⟨j, _, k1, _⟩
    · rw [e, f]
    · exact absurd ((at_iff c z j).mpr k1) (h j)
  · rcases lastIx_spec c z with ⟨_, k⟩ | ⟨j, f, k1, k2⟩
    · exact absurd ((at_iff c z i).mp h1) (k i)
    · rw [e, f]
      rcases Nat.lt_trichotomy i j with l | l | l
      · exact absurd ((at_iff c z j).mpr k1) (h2 j l)
      · rw [l]
      · exact absurd ((at_iff c z i).mp h1) (k2 i l)
theorem mt_rpart (f : Nat) : ∃ r, MtR X (mtId .rpart) r ∧ MtOk X.K C r (mtM f .rpart) := by
  refine ⟨_, mt_rpartition, fun W σ g H e Q v vs s ss re r rs h => ?_⟩
  match s, ss, h with
  | .val (.str z), [a], h =>
    obtain ⟨x, rfl, rx⟩ := rs.one_inv
    have r : Dr X.K g.G v (.str z) := r
    cases r
    obtain ⟨d, rd, p⟩ := Post.rd re rx h
    clear h
    cases rd <;> first | exact p.elim | skip
    rename_i sep
    match sep, p with
    | [c], h =>
      obtain ⟨hz, h⟩ := Post.req h
      have h1 : z.length ≤ 16777216 := of_decide_eq_true hz
      refine ⟨_, _, rfl, rfl, rfl, by rw [str_len, szl]; exact h1, fun p hp => ?_⟩
      rw [last_is]
      unfold rpartS at h
      cases hl : lastIx c z with
      | none =>
        rw [hl] at h
        exact Post.newT re h (.cons (.str []) (.cons (.str []) (.cons (.str z) .nil))) p hp
      | some i =>
        rw [hl] at h
        have s1 : Builtin.Str.strSub ⟨z.toArray⟩ 0 i = ⟨(z.take i).toArray⟩ := congrArg Str.mk (Array.toList_inj.mp (by rw [Array.toList_extract, List.extract_eq_take_drop]; rfl))
        have s2 : Builtin.Str.strSub ⟨z.toArray⟩ (i + (⟨[c].toArray⟩ : Str).length) (⟨z.toArray⟩ : Str).length = ⟨(z.drop (i + 1)).toArray⟩ := congrArg Str.mk (Array.toList_inj.mp (by
          rw [Array.toList_extract, List.extract_eq_take_drop]
          show (z.drop (i + 1)).take (z.length - (i + 1)) = z.drop (i + 1)
          exact List.take_of_length_le (by rw [List.length_drop]; omega)))
        show Q _ (upd H p (.tup [.str (Builtin.Str.strSub ⟨z.toArray⟩ 0 i), .str _, .str (Builtin.Str.strSub ⟨z.toArray⟩ (i + (⟨[c].toArray⟩ : Str).length) (⟨z.toArray⟩ : Str).length)]))
        rw [s1, s2]
        exact Post.newT re h (.cons (.str (z.take i)) (.cons (.str [c]) (.cons (.str (z.drop (i + 1))) .nil))) p hp
    | [], h => exact h.elim
    | _ :: _ :: _, h => exact h.elim
  | .und, _, h => exact r.elim
  | .val (.str _), [], h => exact h.elim
  | .val (.str _), _ :: _ :: _, h => exact h.elim
  | .val .non, _, h => exact h.elim
  | .val (.bl _), _, h => exact h.elim
  | .val (.int _), _, h => exact h.elim
  | .val (.lst _), _, h => exact h.elim
  | .val (.tup _), _, h => exact h.elim
  | .val (.dct _ _), _, h => exact h.elim
  | .val (.frl _), _, h => exact h.elim
  | .xc _ _, _, h => exact h.elim
  | .cel _, _, h => exact h.elim
theorem find_at {x : D} {w : V} (k : Rd3 K G H w x) (f' : flatD x = true) : ∀ {vs : List V} {ds : List D}, Drs K G vs ds → ds.all flatD = true → ∀ {i : Nat}, ds.findIdx? (fun y => eqD y x) = some i →
    (∃ z, vs[i]? = some z ∧ eqV z w = true) ∧ ∀ (m : Nat) (z' : V), m < i → vs[m]? = some z' → eqV z' w = false
  | _, _, .nil, _, i, h => by simp at h
  | v :: vs, d :: ds, .cons h t, f, i, hi => by
    rw [List.all_cons, Bool.and_eq_true] at f
    have e := eqV_of h k f.1 f'
    rw [List.findIdx?_cons] at hi
    cases c : eqD d x with
    | true =>
      rw [c] at hi
      rw [if_pos rfl] at hi
      cases hi
      exact ⟨⟨v, rfl, by rw [e, c]⟩, fun m z' hm => absurd hm (Nat.not_lt_zero _)⟩
    | false =>
      rw [c] at hi
      rw [if_neg Bool.false_ne_true] at hi
      cases hj : ds.findIdx? (fun y => eqD y x) with
      | none => rw [hj] at hi; cases hi
      | some j =>
        rw [hj] at hi
        cases hi
        obtain ⟨⟨z, h1, h2⟩, h3⟩ := find_at k f' t f.2 hj
        refine ⟨⟨z, by simpa using h1, h2⟩, fun m z' hm hz => ?_⟩
        cases m with
        | zero =>
          simp at hz
          subst hz
          rw [e, c]
        | succ m => exact h3 m z' (Nat.lt_of_succ_lt_succ hm) (by simpa using hz)
theorem mt_idx (f : Nat) : ∃ r, MtR X (mtId .index) r ∧ MtOk X.K C r (mtM f .index) := by
  refine ⟨_, mt_index, fun W σ g H e Q v vs s ss re r rs h => ?_⟩
  match ss, h with
  | [a], h =>
    obtain ⟨x, rfl, rx⟩ := rs.one_inv
    have h : Post X.K C (RepS X.K) W σ g H (bnd (rdOf s) (fun d => bnd (rdOf a) fun x => match d with
      | .lst xs => DL.req (flatD x && xs.all flatD) (match xs.findIdx? (fun y => eqD y x) with
        | some i => ret (.val (.int (i : Nat)))
        | none => stk)
      | _ => stk) e) Q := h
    obtain ⟨d, rd, h⟩ := Post.rd re r h
    obtain ⟨y, ry, h⟩ := Post.rd re rx h
    cases rd <;> first | exact h.elim | skip
    case lst p ys ds hp t _ =>
      obtain ⟨ho, h⟩ := h.req
      rw [Bool.and_eq_true] at ho
      cases hi : ds.findIdx? (fun z => eqD z y) with
      | none => rw [hi] at h; exact h.elim
      | some i =>
        rw [hi] at h
        obtain ⟨⟨z, z1, z2⟩, z3⟩ := find_at ry ho.1 t ho.2 hi
        exact ⟨_, ys, x, i, z, rfl, rfl, SqL.of hp, ry.flat ho.1, t.flat ho.2, z1, z2, z3, Post.ans re (s := .val (.int _)) h (.int _)⟩
  | [], h => exact h.elim
  | _ :: _ :: _, h => exact h.elim
theorem mt_ok (f : Nat) : ∀ m : Mt, ∃ r, MtR X (mtId m) r ∧ MtOk X.K C r (mtM f m)
  | .append => mt_app f
  | .extend => mt_ext f
  | .popL => mt_popl f
  | .popAt => mt_popat f
  | .clearL => mt_clr f
  | .index => mt_idx f
  | .join => mt_joinD f
  | .split => mt_spl f
  | .rpart => mt_rpart f
end
end DL
/-! DL, part X: exception classes. -/
namespace DL
open PySem L2 PySem.Spec PyProof.Rows
/-- the exception classes by their numbers -/
def xNm : Nat → Str
  | 0 => "PageError" | 1 => "NoText" | 2 => "NoRoom" | 3 => "NoPage" | 4 => "NoBubble" | 5 => "Twice" | 6 => "NoName" | 7 => "NoLayout" | 8 => "NoPanel" | 9 => "NoPlace" | 10 => "NoRow" | _ => "NoDeed"
theorem xNm_ok (n : Nat) : (xNm n == ("__debug__" : Str)) = false := by
  unfold xNm
  split <;> decide +kernel
theorem xNm_ok2 (n : Nat) : (xNm n == ("__classdict__" : Str)) = false := by
  unfold xNm
  split <;> decide +kernel
def bmV : List Value := [.type "ValueError", .type "Exception", .type "BaseException", .type "object"]
def xAd (K : PySem.W.Frag) (n : Nat) : Addr := match PySem.W.nsIn K mainGlobals (xNm n) with
  | some (some (.ref a)) => a
  | _ => 0
def isRefV : Option (Option Value) → Bool
  | some (some (.ref _)) => true
  | _ => false
def excB (K : PySem.W.Frag) (D : Addr) : Bool := decide (PySem.W.findIn K (.ref D) "__getattribute__" = some (some (.builtin "BaseException.__getattribute__"))) && decide (PySem.W.findIn K (.ref D) "__getattr__" = some none)
  && decide (PySem.W.subIn K (.ref D) (.type "BaseException") = some true) && PySem.W.hasDictIn K D && decide (PySem.W.findIn K (.ref D) "__class__" = some (some (.builtin "object.__class__")))
  && decide (PySem.W.specialIn K (.builtin "object.__class__") "__get__" = some (some (.builtin "getset_descriptor.__get__"))) && decide (PySem.W.takesIn K (.builtin "object.__class__") = some true) && decide (PySem.W.mroIn K D (.type "object") = some true)
def xOk1 (K : PySem.W.Frag) (n : Nat) : Bool := isRefV (PySem.W.nsIn K mainGlobals (xNm n)) && PySem.W.keepIn K (.ref (xAd K n)) && (decide (n < 2) || PySem.W.excIn K (xAd K n) bmV "ValueError.__new__") && decide (PySem.W.typeIn K (.ref (xAd K n)) = some (.type "type")) && excB K (xAd K n)
  && decide (PySem.W.kitOne K (.ref (xAd K n)) (.type "ValueError") = some true)
def xOk2 (K : PySem.W.Frag) (n m : Nat) : Bool := decide (PySem.W.exmOne K (.ref (xAd K n)) (.ref (xAd K m)) = some (catches m n)) && decide (PySem.W.kitOne K (.ref (xAd K n)) (.ref (xAd K m)) = some (catches m n))
def xOk (K : PySem.W.Frag) (xs : List Nat) : Bool := xs.all fun n => xOk1 K n && xs.all fun m => xOk2 K n m
structure XcOk (K : PySem.W.Frag) (mg : Str → Option Value) (C : Nat → Addr) (xs : List Nat) (n : Nat) : Prop where
  mg_ : mg (xNm n) = some (.ref (C n))
  kp : PySem.W.keepIn K (.ref (C n)) = true
  own : 2 ≤ n → PySem.W.excIn K (C n) bmV "ValueError.__new__" = true
  ty : PySem.W.typeIn K (.ref (C n)) = some (.type "type")
  cls : ExcC K (C n)
  kitV : PySem.W.kitOne K (.ref (C n)) (.type "ValueError") = some true
  exm : ∀ m ∈ xs, PySem.W.exmOne K (.ref (C n)) (.ref (C m)) = some (catches m n)
  kit : ∀ m ∈ xs, PySem.W.kitOne K (.ref (C n)) (.ref (C m)) = some (catches m n)
theorem xOk_at {K : PySem.W.Frag} {h : Heap} {mg : Str → Option Value} {xs : List Nat} (X : K.In h) (G : h.Ns mainGlobals mg) (q : xOk K xs = true) : ∀ n ∈ xs, XcOk K mg (xAd K) xs n := by
  intro n hn
  have h1 := List.all_eq_true.mp q n hn
  rw [Bool.and_eq_true] at h1
  obtain ⟨h1, h2⟩ := h1
  have h2 := fun m hm => List.all_eq_true.mp h2 m hm
  unfold xOk1 excB at h1
  simp only [Bool.and_eq_true, decide_eq_true_eq] at h1
  obtain ⟨⟨⟨⟨⟨k1, k2⟩, k3⟩, k4⟩, ⟨⟨⟨⟨⟨⟨⟨e1, e2⟩, e3⟩, e4⟩, e5⟩, e6⟩, e7⟩, e8⟩⟩, k6⟩ := h1
  refine ⟨?_, k2, fun hz => ?_, k4, ⟨e1, e2, e3, e4, e5, e6, e7, e8⟩, k6, fun m hm => ?_, fun m hm => ?_⟩
  · unfold isRefV at k1
    split at k1
    · rename_i a e
      have := PySem.W.mg_of X G e
      rw [this]
      unfold xAd
      rw [e]
    · cases k1
  · rcases Bool.or_eq_true_iff.mp k3 with z | z
    · have := of_decide_eq_true z; omega
    · exact z
  · have := h2 m hm
    unfold xOk2 at this
    simp only [Bool.and_eq_true, decide_eq_true_eq] at this
    exact this.1
  · have := h2 m hm
    unfold xOk2 at this
    simp only [Bool.and_eq_true, decide_eq_true_eq] at this
    exact this.2
end DL
/-! DL, part 1: what a def promises where no repr is under way. -/
namespace DL
open PySem PySem.Spec PyProof.Rows L2
/-- room, and nothing is being shown -/
structure RoomG (k : Nat) (A : Around) : Prop where
  room : Room k A
  gd : A.guards = some []
theorem RoomG.mono {j k : Nat} {A : Around} (r : RoomG k A) (h : j ≤ k) : RoomG j A := ⟨r.room.mono h, r.gd⟩
theorem guards_deeper (A : Around) (env : Env) : (A.deeper env).guards = A.guards := rfl
theorem RoomG.deeper {k : Nat} {A : Around} (r : RoomG (k + 1) A) (env : Env) : RoomG k (A.deeper env) := ⟨r.room.deeper env, (guards_deeper A env).trans r.gd⟩
/-- a def's promise at such a place -/
structure FnG (P : Program) (w : World) (K : PySem.W.Frag) (mg : Str → Option Value) (base : Heap) (CX : CXT) (k : Nat) (f : Addr) (fd : FuncData) (ps : List Str) (sp : Sp) : Prop where
  len : ∀ vs H Q E, sp vs H Q E → vs.length = ps.length
  run : ∀ (A : Around) (outer : List Env) (s : Shared) (H : Hp) (args : Args) (us : List Value) (vs : List V) (Q : VK) (E : XK), RoomG k A → Env0 P w K mg base A outer s H → BindsTo s fd args (ps.zip us) → Vals vs us → sp vs H Q E →
    codeAny (model P w) A (.call (.ref f) args) (CR CX outer P w H s Q E) s
theorem FnG.mono {P : Program} {w : World} {K : PySem.W.Frag} {mg : Str → Option Value} {base : Heap} {CX : CXT} {j k : Nat} {f : Addr} {fd : FuncData} {ps : List Str} {sp : Sp} (F : FnG P w K mg base CX j f fd ps sp) (h : j ≤ k) : FnG P w K mg base CX k f fd ps sp :=
  ⟨F.len, fun A outer s H args us vs Q E hr => F.run A outer s H args us vs Q E (hr.mono h)⟩
/-- by its body -/
theorem fnG_of {CX : CXT} {P : Program} {w : World} {K : PySem.W.Frag} {mg : Str → Option Value} {base : Heap} {k : Nat} {f : Addr} {name qual : Str} {params : Arguments} {body : List Stmt} {scope : Scope} {dV kV doc pm cdv ct oc : Value} {an od : Option Addr}
    {osl : Array (Option Value)} {N ps : List Str} {sp : Sp} (lk : K.lookup f = some ⟨oc, od, .func (PySem.W.fnOf name qual params body scope dV kV doc pm an cdv ct), osl⟩) (hcd : PySem.W.codeIn K cdv qual = true) (S : FnScope N ps scope)
    (len : ∀ vs H Q E, sp vs H Q E → vs.length = ps.length)
    (hbody : ∀ (A : Around) (outer : List Env) (s : Shared) (H : Hp) (vs : List V) (Q : VK) (E : XK), RoomG k (A.deeper (envOfC qual scope s.heap.objs.size f cdv)) → sp vs H Q E →
      ∃ t, PSs (cxOf CX P w K mg base N qual scope f cdv A outer s H E) body t ∧ t { nx := fun _ H' => Q .non H', rt := Q } (L2.start N vs) H) :
    FnG P w K mg base CX (k + 1) f (PySem.W.fnOf name qual params body scope dV kV doc pm an cdv ct) ps sp := by
  refine ⟨len, fun A outer s H args us vs Q E hr e0 hb r hsp => ?_⟩
  have up : ∀ b o, base.get? b = some o → s.heap.get? b = some o := fun b o e => (e0.bs b o e).1
  have KX := e0.mod.kin.keeps up
  have lim := e0.mod.nolimit.keeps up
  refine codeAny_call_function hr.room.depth (KX _ _ lk) rfl S.co S.gen rfl (PySem.W.codeRec_of KX hcd) (hb _ _ _ _ (wpAny_newFunctionEnv_cells S.kind (fun y hy => ?_) fun env he s1 x => ?_))
  · obtain ⟨n, v⟩ := y
    exact (S.par n (List.of_mem_zip hy).1).imp id fun q => ⟨q, PySem.W.cellsFrom_some _ _ _ (.inl q)⟩
  · subst he
    obtain ⟨t, ht, hq⟩ := hbody A outer s H vs Q E (hr.deeper _) hsp
    have I0 : Inv (cxOf CX P w K mg base N qual scope f cdv A outer s H E) [] (L2.start N vs) H s1 := inv_start S hr.room.hd e0 (len _ _ _ _ hsp) r x
    have fin : ∀ {σ' : L2.St} {H' : Hp} {v : V} {u : Value} {s' : Shared}, Inv (cxOf CX P w K mg base N qual scope f cdv A outer s H E) [] σ' H' s' → RelV v u → Q v H' → L2.CE outer P w H s Q u s' :=
      fun J rv q => ⟨_, _, J.os, J.bare, J.base, J.hok, rv, q⟩
    refine ⟨lim.keeps x.toInCall.keep, codeAny_func (wpAny_mono (ht.run [] s1 (L2.start N vs) H _ I0 hq) (fun fl s' hs => ?_) fun e s' hs => hs)⟩
    match fl, hs with
    | .ret u, ⟨v, σ', H', J, rv, q⟩ => exact fin J rv q
    | .next, ⟨σ', H', J, q⟩ => exact fin (v := V.non) (u := Value.none) J rfl q
    | .brk, ⟨_, _, _, q⟩ => exact q.elim
    | .cont, ⟨_, _, _, q⟩ => exact q.elim
section
variable {X : Cx} {CX : CXT} {k : Nat} {f : Addr} {fd : FuncData} {ps : List Str} {sp : Sp} {E : L2.St → XK} {x : Str} {p pos : Pos} {e : Expr} {es : List Expr} {t : TA}
/-- such a callee runs -/
theorem run_fnG {pins : List (Addr × Obj)} {σ : L2.St} {H : Hp} {s : Shared} {Q : VK} {us : List Value} {vs : List V} (F : FnG X.prog X.w X.K X.mg X.base CX k f fd ps sp) (hr : RoomG k X.A) (hb : Binds X.K fd ps []) (hx : PassesAt CX X σ (E σ))
    (I : Inv X pins σ H s) (r : Vals vs us) (h : sp vs H Q (E σ)) : wpAny (model X.prog X.w) X.A (call (.ref f) us) (EP X pins σ Q) X.xe s := by
  have b := hb s us I.kIn (by rw [List.append_nil, ← r.length]; exact F.len _ _ _ _ h)
  rw [List.append_nil] at b
  refine wpAny_call (codeAny_mono (F.run X.A X.stack s H ⟨us, []⟩ us vs Q (E σ) hr I.env0 b r h) fun c s' hq => ?_)
  match c, hq with
  | .error e, hq => exact hx pins H s e s' I hq
  | .ok (.ret u), hq => exact I.after hq
  | .ok .next, hq => exact hq.elim
  | .ok .brk, hq => exact hq.elim
  | .ok .cont, hq => exact hq.elim
theorem pe_callG (F : FnG X.prog X.w X.K X.mg X.base CX k f fd ps sp) (hr : RoomG k X.A) (hg : Gl X x) (hm : X.mg x = some (.ref f)) (hk : PySem.W.keepIn X.K (.ref f) = true) (hb : Binds X.K fd ps []) (hx : ∀ σ, PassesAt CX X σ (E σ))
    (ha : PA X (e :: es) t) (hdb : (x == ("__debug__" : Str)) = false) (he : starEach (e :: es) X.env = (false, eval e X.env) :: starEach es X.env) (hpl : (backTo pos (starEach es X.env)).any (·.1) = false) :
    PE X (.Call (.Name x p) (e :: es) [] pos) (tCallS sp E t) :=
  ⟨fun pins s σ H Q I h => wpAny_Call_Name_kw (ld_glob I hg hm (PySem.W.callWith_K (h₀ := X.base) I.ok.mod.kin hk (thn (ha.run pos pins s σ H _ I h) fun us s1 ⟨vs, H1, I1, r, q⟩ => ⟨I1.kIn, run_fnG F hr hb (hx σ) I1 r q⟩) he hpl) hdb)⟩
theorem pe_callG0 (F : FnG X.prog X.w X.K X.mg X.base CX k f fd ps sp) (hr : RoomG k X.A) (hg : Gl X x) (hm : X.mg x = some (.ref f)) (hk : PySem.W.keepIn X.K (.ref f) = true) (hb : Binds X.K fd ps []) (hx : ∀ σ, PassesAt CX X σ (E σ))
    (hdb : (x == ("__debug__" : Str)) = false) : PE X (.Call (.Name x p) [] [] pos) (tCallS sp E tNil) :=
  ⟨fun pins s σ H Q I h => wpAny_Call_Name_kw (ld_glob I hg hm (PySem.W.callWith_K0 I.kIn hk (run_fnG (us := []) F hr hb (hx σ) I .nil h)) hdb)⟩
end
end DL
/-! DL, part h: the rules of expressions. -/
namespace DL
open PySem L2
variable [xb : Xb] [Tb]
/-! ### the written text against the core -/
structure Gam where
  N : List Str
  sc : Scope
  glb : List (Str × D)
  fns : List (Nat × Str)
  /-- lambdas may be made: what these may call -/
  l0 : Option (List (Nat × Str))
  /-- the exception classes at hand -/
  xs : List Nat
def visB (Γ : Gam) (x : Str) : Bool := match Γ.sc.names.lookup x with
  | some .local | some .cell | some .free => true
  | _ => false
def locB (Γ : Gam) (x : Str) : Bool := match Γ.sc.names.lookup x with
  | some .local | some .cell => true
  | _ => false
def glB (Γ : Gam) (x : Str) : Bool := Γ.sc.names.lookup x == some .globalImplicit
def bNames : List Str := ["len", "max", "min", "abs", "int", "sum", "all", "any", "list", "tuple", "ord", "str", "isinstance", "range", "enumerate", "zip", "bool", "dict", "sorted", "set", "ValueError"]
def biNm : Bi → Str
  | .len => "len"
  | .max2 => "max"
  | .min2 => "min"
  | .abs => "abs"
  | .int1 => "int"
  | .sum => "sum"
  | .maxL => "max"
  | .minL => "min"
  | .all => "all"
  | .any => "any"
  | .listOf => "list"
  | .tupleOf => "tuple"
  | .ord => "ord"
  | .str1 => "str"
  | .sorted => "sorted"
  | .dictOf => "dict"
  | .max3 => "max"
  | .isi _ => "isinstance"
def notIsi : Bi → Bool
  | .isi _ => false
  | _ => true
theorem bi_name (b : Bi) : biNm b ∈ bNames := by
  cases b
  case isi T => show ("isinstance" : Str) ∈ bNames; decide +kernel
  all_goals decide +kernel
theorem bi_boot (b : Bi) : bootBuiltins (biNm b) = some (biV b) := by
  cases b
  case isi T => show bootBuiltins "isinstance" = some (.builtin "isinstance"); decide +kernel
  all_goals decide +kernel
theorem bi_dbg (b : Bi) : (biNm b == ("__debug__" : Str)) = false ∧ biNm b ≠ "__name__" := by
  cases b
  case isi T => show (("isinstance" : Str) == ("__debug__" : Str)) = false ∧ ("isinstance" : Str) ≠ "__name__"; decide +kernel
  all_goals decide +kernel
/-- what the context must be -/
structure Lam0 (X : Cx) (fn0 : List (Nat × Str)) (cal : Nat → Fn) (sp : Fn → Sp) : Prop where
  code : ∃ c P, X.env.code = .ref c ∧ LamX.TabB X.base X.mg c P ∧ (P, X.env.qual ++ "<lambda>") ∈ Tb.T ∧ ∀ p ∈ Tb.T, p.1 = P → p.2 = X.env.qual ++ "<lambda>"
  room : Room 1 X.A
  fun_ : ∀ f x, fn0.lookup f = some x → ∃ a fd k ps, X.mg x = some (.ref a) ∧ PySem.W.keepIn X.K (.ref a) = true ∧ Binds X.K fd ps [] ∧ FnG X.prog X.w X.K X.mg X.base (CX X.prog X.w) k a fd ps (sp (cal f)) ∧ RoomG (k + 1) X.A
structure Good (X : Cx) (Γ : Gam) (C : Nat → Addr) (W : WX) (cal : Nat → Fn) (sp : Bool → Fn → Sp) : Prop where
  hN : X.N = Γ.N
  nd : X.N.Nodup
  calm : X.calm = true
  kin : ∀ x, X.env.scope.names.lookup x = Γ.sc.names.lookup x ∨ (Γ.sc.names.lookup x = some .free ∧ X.env.scope.names.lookup x = some .cell)
  fnl : ∀ x, Γ.sc.names.lookup x = some .local ∨ Γ.sc.names.lookup x = some .cell → X.fn x = true ∨ X.env.scope.names.lookup x = some .local
  con : ∀ x d, Γ.glb.lookup x = some d → ∃ u v, X.mg x = some u ∧ RelV v u ∧ ∀ G, Dr X.K G v d
  blt : ∀ x ∈ bNames, X.mg x = none
  fun_ : ∀ f x, Γ.fns.lookup f = some x → ∃ a fd k ps, X.mg x = some (.ref a) ∧ PySem.W.keepIn X.K (.ref a) = true ∧ Binds X.K fd ps [] ∧ FnG X.prog X.w X.K X.mg X.base (CX X.prog X.w) k a fd ps (sp true (cal f)) ∧ RoomG k X.A
  units : X.A.units + 65 < cLine
  gd : X.A.guards = some []
  tk : Takes X W
  lam : ∀ fn0, Γ.l0 = some fn0 → Lam0 X fn0 cal (sp false)
  xc : ∀ n ∈ Γ.xs, XcOk X.K X.mg Xb.C Γ.xs n
section
variable {X : Cx} {Γ : Gam} {C : Nat → Addr} {W : WX} {cal : Nat → Fn} {sp : Bool → Fn → Sp}
theorem Good.vis (h : Good X Γ C W cal sp) {x : Str} (e : visB Γ x = true) : Vis X.env.scope x := by
  unfold visB at e
  rcases h.kin x with k | ⟨k1, k2⟩
  · split at e
    · rename_i q; exact .inl (k.trans q)
    · rename_i q; exact .inr (.inl (k.trans q))
    · rename_i q; exact .inr (.inr (k.trans q))
    · cases e
  · exact .inr (.inl k2)
theorem Good.loc (h : Good X Γ C W cal sp) {x : Str} (e : locB Γ x = true) : Loc X.env.scope x ∧ (X.fn x = true ∨ X.env.scope.names.lookup x = some .local) := by
  unfold locB at e
  rcases h.kin x with k | ⟨k1, k2⟩
  · split at e
    · rename_i q; exact ⟨.inl (k.trans q), h.fnl x (.inl q)⟩
    · rename_i q; exact ⟨.inr (k.trans q), h.fnl x (.inr q)⟩
    · cases e
  · rw [k1] at e; cases e
theorem Good.glo (h : Good X Γ C W cal sp) {x : Str} (e : glB Γ x = true) : Gl X x := by
  have e : Γ.sc.names.lookup x = some .globalImplicit := by simpa [glB] using e
  rcases h.kin x with k | ⟨k1, k2⟩
  · exact k.trans e
  · rw [k1] at e; cases e
theorem Good.local_iff (h : Good X Γ C W cal sp) {x : Str} : X.env.scope.names.lookup x = some .local ↔ Γ.sc.names.lookup x = some .local := by
  rcases h.kin x with k | ⟨k1, k2⟩
  · rw [k]
  · rw [k1, k2]; simp
end
/-- no star -/
def nst : Expr → Bool
  | .Starred .. => false
  | _ => true
theorem star_cons {e : Expr} {es : List Expr} {env : Env} (h : nst e = true) : starEach (e :: es) env = (false, eval e env) :: starEach es env := by
  cases e <;> first | rfl | cases h
theorem star_any {pos : Pos} {env : Env} : ∀ {es : List Expr}, es.all nst = true → (backTo pos (starEach es env)).any (·.1) = false
  | [], _ => rfl
  | e :: es, h => by
    rw [List.all_cons, Bool.and_eq_true] at h
    rw [star_cons h.1]
    show (false || (backTo pos (starEach es env)).any (·.1)) = false
    rw [star_any h.2]; rfl
theorem star_all {pos : Pos} {env : Env} : ∀ {es : List Expr}, es.all nst = true → (backTo pos (starEach es env)).all (fun x => !x.1) = true
  | [], _ => rfl
  | e :: es, h => by
    rw [List.all_cons, Bool.and_eq_true] at h
    rw [star_cons h.1]
    show (!false && (backTo pos (starEach es env)).all (fun x => !x.1)) = true
    rw [star_all h.2]; rfl
/-- no attribute base of its own: not C().m -/
def attrOk : Expr → Bool
  | .Call (.Name _ _) [] [] _ => false
  | _ => true
theorem attr_ok {o : Expr} {n : Str} {env : Env} {w : Sem Value} (h : attrOk o = true) : attributeBase o n env w = w := by
  unfold attributeBase
  split
  · cases h
  · rfl
def nset : Expr → Bool
  | .Set .. => false
  | _ => true
theorem behind_ok {op : CmpOp} {b : Expr} (h : nset b = true) : behindInMarks op b = false := by
  cases b <;> first | rfl | cases h
def nslice : Expr → Bool
  | .Slice .. => false
  | _ => true
theorem plainIx {b : Expr} (h : nslice b = true) : PlainIx b := by
  intro o i
  cases b <;> first | rfl | cases h
/-- its truth is its value's -/
def plainT : Expr → Bool
  | .UnaryOp .Not _ _ => false
  | .BoolOp .. => false
  | .IfExp .. => false
  | .Compare .. => false
  | _ => true
theorem plainT_ok {e : Expr} {env : Env} (h : plainT e = true) : ∀ whole, isTrue e env whole = (do let v ← whole; standAt e.pos; holding [v] (truthy v)) := by
  intro whole
  cases e <;> first | (cases h; done) | rfl | skip
  case UnaryOp op a p => cases op <;> first | (cases h; done) | rfl
def nlc : Expr → Bool
  | .ListComp .. | .SetComp .. | .DictComp .. => false
  | _ => true
theorem swaps_no {e : Expr} {t : Option Expr} {l : Nat} {env : Env} (h : nlc e = true) : swapsWith e t l env = pure false := by
  cases e <;> first | (cases h; done) | rfl

/-! ### rules -/
theorem _root_.L2.PE.imp {X : Cx} {e : Expr} {t t' : TE} (h : PE X e t) (k : ∀ σ H Q, t' σ H Q → t σ H Q) : PE X e t' := ⟨fun pins s σ H Q I q => h.run pins s σ H Q I (k σ H Q q)⟩
theorem _root_.L2.PT.imp {X : Cx} {e : Expr} {t t' : TT} (h : PT X e t) (k : ∀ σ H Q, t' σ H Q → t σ H Q) : PT X e t' := ⟨fun pins s σ H Q I q => h.run pins s σ H Q I (k σ H Q q)⟩
theorem _root_.L2.PW.imp {X : Cx} {e : Expr} {t t' : TT} (h : PW X e t) (k : ∀ σ H Q, t' σ H Q → t σ H Q) : PW X e t' := ⟨fun wh pins s σ H Q I q => h.run wh pins s σ H Q I (k σ H Q q)⟩
theorem _root_.L2.PA.imp {X : Cx} {e : List Expr} {t t' : TA} (h : PA X e t) (k : ∀ σ H Q, t' σ H Q → t σ H Q) : PA X e t' := ⟨fun pos pins s σ H Q I q => h.run pos pins s σ H Q I (k σ H Q q)⟩
theorem _root_.L2.PO.imp {X : Cx} {e : Option Expr} {t t' : TO} (h : PO X e t) (k : ∀ σ H Q, t' σ H Q → t σ H Q) : PO X e t' := ⟨fun pins s σ H Q I q => h.run pins s σ H Q I (k σ H Q q)⟩
def RB : Gh → Bool → Bool → Prop := fun _ r a => r = a
def RO : Gh → Option Int → Option Int → Prop := fun _ r a => r = a
theorem bnd_assoc {α β γ : Type} (m : M α) (f : α → M β) (k : β → M γ) : bnd (bnd m f) k = bnd m fun a => bnd (f a) k := by
  funext e
  unfold bnd
  cases m e <;> rfl
theorem bnd_ret {α β : Type} (a : α) (f : α → M β) : bnd (ret a) f = f a := rfl
section
variable {X : Cx} {C : Nat → Addr} {W : WX} {a b c : Expr} {ma mb mc : M Sl} {pos : Pos}
abbrev DE (X : Cx) (C : Nat → Addr) (W : WX) (e : Expr) (m : M Sl) : Prop := PE X e (tM X.K C (RepS X.K) W m)
abbrev DT (X : Cx) (C : Nat → Addr) (W : WX) (e : Expr) (m : M Bool) : Prop := PT X e (tM X.K C RB W m)
abbrev DA (X : Cx) (C : Nat → Addr) (W : WX) (es : List Expr) (m : M (List Sl)) : Prop := PA X es (tM X.K C (RepSs X.K) W m)
abbrev DO (X : Cx) (C : Nat → Addr) (W : WX) (e : Option Expr) (m : M (Option Int)) : Prop := PO X e (tM X.K C RO W m)
theorem Rel.slot {K : PySem.W.Frag} {e : En} {σ : St} {H : Hp} {g : Gh} (re : Rel K e σ H g) {i : Nat} {s : Sl} {e' : En} (h : getS i e = .ok s e') : e' = e ∧ ∃ v, σ[i]? = some (some v) ∧ RepS K g v s := by
  unfold getS at h
  cases hs : e.sl[i]? with
  | none => rw [hs] at h; cases h
  | some t =>
    rw [hs] at h
    cases t with
    | und => cases h
    | xc _ _ =>
      cases h
      rcases re.slt i _ hs with z | z
      · cases z
      · exact ⟨rfl, z⟩
    | val d =>
      cases h
      rcases re.slt i _ hs with z | z
      · cases z
      · exact ⟨rfl, z⟩
    | cel k =>
      cases h
      rcases re.slt i _ hs with z | z
      · cases z
      · exact ⟨rfl, z⟩
theorem getS_cases (i : Nat) (e : En) : (∃ s, getS i e = .ok s e) ∨ getS i e = .stuck := by
  unfold getS
  cases e.sl[i]? with
  | none => exact .inr rfl
  | some t =>
    cases t with
    | und => exact .inr rfl
    | xc _ _ => exact .inl ⟨_, rfl⟩
    | val d => exact .inl ⟨_, rfl⟩
    | cel k => exact .inl ⟨_, rfl⟩
theorem de_var {i : Nat} {x : Str} (hN : X.N[i]? = some x) (hv : Vis X.env.scope x) (hd : (x == ("__debug__" : Str)) = false) (hcd : (x == ("__classdict__" : Str)) = false) : DE X C W (.Name x pos) (getS i) := by
  refine (pe_var hN hv hd hcd).imp fun σ H Q h => ?_
  obtain ⟨e, g, re, p⟩ := h
  rcases getS_cases i e with ⟨s, hs⟩ | hs
  · obtain ⟨_, v, hv, r⟩ := re.slot hs
    rw [hs] at p
    exact ⟨v, hv, p v g H re (Stp.refl g H) r⟩
  · rw [hs] at p; exact p.elim
theorem de_lit {e : Expr} {v : V} {d : D} (h : PE X e (tC v)) (r : ∀ G, Dr X.K G v d) : DE X C W e (ret (.val d)) :=
  h.imp fun σ H Q ⟨e, g, re, p⟩ => p v g H re (Stp.refl g H) (r g.G)
theorem de_bin {f : Nat} {k : BinK} (ha : DE X C W a ma) (hb : DE X C W b mb) : DE X C W (.BinOp a (opK k) b pos) (bnd ma fun s => bnd mb fun t => bnd (rdOf s) fun x => bnd (rdOf t) fun y => binD f k x y) := by
  obtain ⟨r, ho, hop⟩ := bin_ok (X := X) (C := C) f k
  refine (pe_op ho ha hb).imp fun σ H Q h => ?_
  refine h.bind fun v H1 s e1 g1 re1 rv p => Post.bindTo re1 p fun w H2 t e2 g2 re2 st2 rw p2 => ?_
  obtain ⟨x, hx, p3⟩ := Post.rd re2 (rv.mono st2.le) p2
  obtain ⟨y, hy, p4⟩ := Post.rd re2 rw p3
  exact hop W σ _ _ _ _ _ _ _ _ re2 hx hy p4
theorem intM_of {K : PySem.W.Frag} {ρ β : Type} {R2 : Gh → ρ → β → Prop} {σ : St} {g : Gh} {H : Hp} {e : En} {Q : ρ → Hp → Prop} {f : Int → M β} {v : V} {s : Sl} (r : RepS K g v s) (h : Post K C R2 W σ g H (bnd (intM s) f e) Q) :
    ∃ i, v = .int i ∧ Post K C R2 W σ g H (f i e) Q := by
  cases s with
  | und => exact h.elim
  | xc _ _ => exact h.elim
  | cel k => exact h.elim
  | val d =>
    change Dr K g.G v d at r
    cases r <;> first | exact h.elim | exact ⟨_, rfl, h⟩
theorem de_neg (ha : DE X C W a ma) : DE X C W (.UnaryOp .USub a pos) (bnd ma fun s => bnd (intM s) fun i => ret (.val (.int (-i)))) := by
  refine (pe_un un_neg ha).imp fun σ H Q h => ?_
  refine h.bind fun v H1 s e1 g1 re1 rv p => ?_
  obtain ⟨i, rfl, p⟩ := intM_of rv p
  exact ⟨i, rfl, Post.ans re1 p (.int _)⟩
theorem de_cmp {k : CmpK} (hu : X.A.units + 64 < cLine) (hs : nset b = true) (ha : DE X C W a ma) (hb : DE X C W b mb) : DE X C W (.Compare a [opC k] [b] pos) (bnd ma fun s => bnd mb fun t => cmpM k s t) := by
  obtain ⟨r, ho, hop⟩ := cmp_ok (X := X) (C := C) hu k
  refine (pe_cmpR ho ha hb (behind_ok hs)).imp fun σ H Q h => ?_
  refine h.bind fun v H1 s e1 g1 re1 rv p => Post.bindTo re1 p fun w H2 t e2 g2 re2 st2 rw p2 => ?_
  exact hop W σ _ _ _ _ _ _ _ _ re2 (rv.mono st2.le) rw p2
/-- what truM reads -/
theorem tru_of {K : PySem.W.Frag} {σ : St} {g : Gh} {H : Hp} {e : En} {Q : Bool → Hp → Prop} {v : V} {s : Sl} (re : Rel K e σ H g) (r : RepS K g v s) (h : Post K C RB W σ g H (truM s e) Q) : ∃ c, v = .bl c ∧ Q c H := by
  obtain ⟨d, rd, p⟩ := Post.rd re r h
  cases rd <;> first | exact p.elim | skip
  case bl b => exact ⟨b, rfl, p b g H re (Stp.refl g H) rfl⟩
theorem dt_cmp {k : CmpK} (hu : X.A.units + 64 < cLine) (hs : nset b = true) (ha : DE X C W a ma) (hb : DE X C W b mb) : DT X C W (.Compare a [opC k] [b] pos) (bnd (bnd ma fun s => bnd mb fun t => cmpM k s t) truM) := by
  obtain ⟨r, ho, hop⟩ := cmp_ok (X := X) (C := C) hu k
  refine (pt_cmpR ho ha hb (behind_ok hs)).imp fun σ H Q h => ?_
  rw [bnd_assoc] at h
  refine h.bind fun v H1 s e1 g1 re1 rv p => ?_
  rw [bnd_assoc] at p
  refine Post.bindTo re1 p fun w H2 t e2 g2 re2 st2 rw p2 => ?_
  refine hop W σ _ _ _ _ _ _ _ _ re2 (rv.mono st2.le) rw (p2.bind.mono fun x H3 ⟨u, e3, g3, re3, st3, ru, p3⟩ => ?_)
  exact tru_of re3 ru p3
theorem dt_val (he : plainT a = true) (h : DE X C W a ma) : DT X C W a (bnd ma truM) := by
  refine (pt_val h (plainT_ok he)).imp fun σ H Q h => ?_
  exact h.bind fun v H1 s e1 g1 re1 rv p => tru_of re1 rv p
theorem last_ok {k k' : CmpOp} {b c : Expr} (h : nset c = true) : lastMarks [k, k'] [b, c] = false := by
  show behindInMarks k' c = false
  exact behind_ok h
theorem chain_of {k k' : CmpK} {r r' : R2} {σ : St} {Q : VK} (hop : CmpOk X.K C r k) (hop' : CmpOk X.K C r' k') {tc : M Sl} {H : Hp} (h : tM X.K C (RepS X.K) W (bnd ma fun s => bnd mb fun t => bnd (cmpM k s t) fun r => chainM r (bnd tc fun u => cmpM k' t u)) σ H Q) :
    tChain r r' (tM X.K C (RepS X.K) W ma) (tM X.K C (RepS X.K) W mb) (tM X.K C (RepS X.K) W tc) σ H Q := by
  refine h.bind fun v H1 s e1 g1 re1 rv p => Post.bindTo re1 p fun w H2 t e2 g2 re2 st2 rw p2 => ?_
  refine hop W σ _ _ _ _ _ _ _ _ re2 (rv.mono st2.le) rw (p2.bind.mono fun x H3 ⟨u, e3, g3, re3, st3, ru, p3⟩ => ?_)
  cases u with
  | und => exact p3.elim
  | xc _ _ => exact p3.elim
  | cel _ => exact p3.elim
  | val d =>
    change Dr X.K g3.G x d at ru
    cases ru with
    | bl b =>
      cases b with
      | true =>
        refine ⟨true, rfl, ?_⟩
        rw [if_pos rfl]
        exact Post.bindTo re3 p3 fun z H4 u e4 g4 re4 st4 rz p4 => hop' W σ _ _ _ _ _ _ _ _ re4 (rw.mono (st3.le.trans st4.le)) rz p4
      | false =>
        refine ⟨false, rfl, ?_⟩
        rw [if_neg Bool.false_ne_true]
        exact Post.ans re3 p3 (.bl _)
    | _ => exact p3.elim
theorem de_chain {k k' : CmpK} (hu : X.A.units + 64 < cLine) (hs : nset c = true) (ha : DE X C W a ma) (hb : DE X C W b mb) (hc : DE X C W c mc) :
    DE X C W (.Compare a [opC k, opC k'] [b, c] pos) (bnd ma fun s => bnd mb fun t => bnd (cmpM k s t) fun r => chainM r (bnd mc fun u => cmpM k' t u)) := by
  obtain ⟨r, ho, hop⟩ := cmp_ok (X := X) (C := C) hu k
  obtain ⟨r', ho', hop'⟩ := cmp_ok (X := X) (C := C) hu k'
  exact (pe_chain ho ho' ha hb hc (last_ok hs)).imp fun σ H Q h => chain_of hop hop' h
theorem dt_chain {k k' : CmpK} (hu : X.A.units + 64 < cLine) (hs : nset c = true) (ha : DE X C W a ma) (hb : DE X C W b mb) (hc : DE X C W c mc) :
    DT X C W (.Compare a [opC k, opC k'] [b, c] pos) (bnd (bnd ma fun s => bnd mb fun t => bnd (cmpM k s t) fun r => chainM r (bnd mc fun u => cmpM k' t u)) truM) := by
  obtain ⟨r, ho, hop⟩ := cmp_ok (X := X) (C := C) hu k
  obtain ⟨r', ho', hop'⟩ := cmp_ok (X := X) (C := C) hu k'
  refine (pt_chain ho ho' ha hb hc (last_ok hs)).imp fun σ H Q h => ?_
  have h' : tM X.K C (RepS X.K) W (bnd ma fun s => bnd mb fun t => bnd (cmpM k s t) fun r => chainM r (bnd mc fun u => cmpM k' t u)) σ H (fun x H' => ∃ c, x = .bl c ∧ Q c H') :=
    h.bind fun v H1 s e1 g1 re1 rv p => tru_of re1 rv p
  exact chain_of hop hop' h'
/-- and, or, not as values -/
theorem de_and {rest : List Expr} (ha : DE X C W a ma) (hb : DE X C W (.BoolOp .And (b :: rest) pos) mb) : DE X C W (.BoolOp .And (a :: b :: rest) pos) (bnd ma fun s => andM s mb) := by
  refine (pe_and ha hb).imp fun σ H Q h => ?_
  refine h.bind fun v H1 s e1 g1 re1 rv p => ?_
  cases s with
  | und => exact p.elim
  | xc _ _ => exact p.elim
  | cel _ => exact p.elim
  | val d =>
    change Dr X.K g1.G v d at rv
    cases rv <;> first | exact p.elim | skip
    rename_i b
    cases b with
    | true => refine ⟨true, rfl, ?_⟩; rw [if_pos rfl]; exact ⟨e1, g1, re1, p⟩
    | false => refine ⟨false, rfl, ?_⟩; rw [if_neg Bool.false_ne_true]; exact Post.ans re1 p (.bl _)
theorem de_or {rest : List Expr} (ha : DE X C W a ma) (hb : DE X C W (.BoolOp .Or (b :: rest) pos) mb) : DE X C W (.BoolOp .Or (a :: b :: rest) pos) (bnd ma fun s => orM s mb) := by
  refine (pe_or ha hb).imp fun σ H Q h => ?_
  refine h.bind fun v H1 s e1 g1 re1 rv p => ?_
  cases s with
  | und => exact p.elim
  | xc _ _ => exact p.elim
  | cel _ => exact p.elim
  | val d =>
    change Dr X.K g1.G v d at rv
    cases rv <;> first | exact p.elim | skip
    rename_i b
    cases b with
    | true => refine ⟨true, rfl, ?_⟩; rw [if_pos rfl]; exact Post.ans re1 p (.bl _)
    | false => refine ⟨false, rfl, ?_⟩; rw [if_neg Bool.false_ne_true]; exact ⟨e1, g1, re1, p⟩
theorem de_not (ha : DE X C W a ma) : DE X C W (.UnaryOp .Not a pos) (bnd ma notM) := by
  refine (pe_not ha).imp fun σ H Q h => ?_
  refine h.bind fun v H1 s e1 g1 re1 rv p => ?_
  cases s with
  | und => exact p.elim
  | xc _ _ => exact p.elim
  | cel _ => exact p.elim
  | val d =>
    change Dr X.K g1.G v d at rv
    cases rv <;> first | exact p.elim | skip
    rename_i b
    exact ⟨b, rfl, Post.ans re1 p (.bl _)⟩
/-- .. as tests -/
theorem truM_bl {b : Bool} : (truM (.val (.bl b)) : M Bool) = ret b := rfl
theorem tt_and {σ : St} {H : Hp} {Q : Bool → Hp → Prop} (h : tM X.K C RB W (bnd (bnd ma fun s => andM s mb) truM) σ H Q) : tAnd (tM X.K C RB W (bnd ma truM)) (tM X.K C RB W (bnd mb truM)) σ H Q := by
  obtain ⟨e, g, re, p⟩ := h
  rw [bnd_assoc] at p
  refine ⟨e, g, re, ?_⟩
  unfold bnd at p ⊢
  cases hm : ma e with
  | stuck => rw [hm] at p; exact p.elim
  | exc x e1 => rw [hm] at p; exact p
  | ok s e1 =>
    rw [hm] at p
    cases s with
    | und => exact p.elim
    | xc _ _ => exact p.elim
    | cel _ => exact p.elim
    | val d =>
      cases d <;> first | exact p.elim | skip
      rename_i b
      intro r g' H' re' st er
      subst er
      cases r with
      | true => show (if true = true then _ else _); rw [if_pos rfl]; exact ⟨e1, g', re', Post.shift st p⟩
      | false => show (if false = true then _ else _); rw [if_neg Bool.false_ne_true]; exact p false g' H' re' st rfl
theorem tt_or {σ : St} {H : Hp} {Q : Bool → Hp → Prop} (h : tM X.K C RB W (bnd (bnd ma fun s => orM s mb) truM) σ H Q) : tOr (tM X.K C RB W (bnd ma truM)) (tM X.K C RB W (bnd mb truM)) σ H Q := by
  obtain ⟨e, g, re, p⟩ := h
  rw [bnd_assoc] at p
  refine ⟨e, g, re, ?_⟩
  unfold bnd at p ⊢
  cases hm : ma e with
  | stuck => rw [hm] at p; exact p.elim
  | exc x e1 => rw [hm] at p; exact p
  | ok s e1 =>
    rw [hm] at p
    cases s with
    | und => exact p.elim
    | xc _ _ => exact p.elim
    | cel _ => exact p.elim
    | val d =>
      cases d <;> first | exact p.elim | skip
      rename_i b
      intro r g' H' re' st er
      subst er
      cases r with
      | true => show (if true = true then _ else _); rw [if_pos rfl]; exact p true g' H' re' st rfl
      | false => show (if false = true then _ else _); rw [if_neg Bool.false_ne_true]; exact ⟨e1, g', re', Post.shift st p⟩
theorem tt_not {σ : St} {H : Hp} {Q : Bool → Hp → Prop} (h : tM X.K C RB W (bnd (bnd ma notM) truM) σ H Q) : tNot (tM X.K C RB W (bnd ma truM)) σ H Q := by
  obtain ⟨e, g, re, p⟩ := h
  rw [bnd_assoc] at p
  refine ⟨e, g, re, ?_⟩
  unfold bnd at p ⊢
  cases hm : ma e with
  | stuck => rw [hm] at p; exact p.elim
  | exc x e1 => rw [hm] at p; exact p
  | ok s e1 =>
    rw [hm] at p
    cases s with
    | und => exact p.elim
    | xc _ _ => exact p.elim
    | cel _ => exact p.elim
    | val d =>
      cases d <;> first | exact p.elim | skip
      rename_i b
      intro r g' H' re' st er
      subst er
      exact p (!r) g' H' re' st rfl
theorem de_ite (hc : DT X C W c (bnd mc truM)) (ha : DE X C W a ma) (hb : DE X C W b mb) : DE X C W (.IfExp c a b pos) (bnd (bnd mc truM) fun t => iteM t ma mb) := by
  refine (pe_ifExp hc ha hb).imp fun σ H Q h => ?_
  refine h.bind fun v H1 s e1 g1 re1 rv p => ?_
  have rv : v = s := rv
  subst rv
  cases v with
  | true => rw [if_pos rfl]; exact ⟨e1, g1, re1, p⟩
  | false => rw [if_neg Bool.false_ne_true]; exact ⟨e1, g1, re1, p⟩
/-! lists of expressions -/
theorem da_nil : DA X C W [] (ret []) := pa_nil.imp fun σ H Q ⟨e, g, re, p⟩ => p [] g H re (Stp.refl g H) .nil
theorem da_cons {es : List Expr} {ms : M (List Sl)} (hs : nst a = true) (ha : DE X C W a ma) (hr : DA X C W es ms) : DA X C W (a :: es) (bnd ma fun s => bnd ms fun l => ret (s :: l)) := by
  refine (pa_cons ha hr (star_cons hs)).imp fun σ H Q h => ?_
  refine h.bind fun v H1 s e1 g1 re1 rv p => Post.bindTo re1 p fun ws H2 l e2 g2 re2 st2 rw p2 => ?_
  exact p2 (v :: ws) g2 H2 re2 (Stp.refl g2 H2) (.cons (rv.mono st2.le) rw)
theorem de_tup {x1 : Nat} {es : List Expr} {ms : M (List Sl)} (h : DA X C W es ms) : DE X C W (.Tuple es x1 pos) (bnd ms fun ss => bnd (dOfs ss) fun ds => req (decide (ds.length ≤ SZ)) (newT ds)) := by
  refine (pe_tup h).imp fun σ H Q h => ?_
  refine h.bind fun vs H1 ss e1 g1 re1 rv p => ?_
  obtain ⟨ds, e2, g2, re2, st2, q, p⟩ := Post.ds re1 rv p
  obtain ⟨hz, p⟩ := Post.req p
  exact ⟨by rw [q.length, szl]; exact of_decide_eq_true hz, Post.newT re2 p q⟩
theorem cels_of {K : PySem.W.Frag} {g : Gh} : ∀ {ss : List Sl} {vs : List V} {ids : List Nat}, RepSs K g vs ss → celsOf ss = some ids → ∃ as : List Addr, vs = as.map V.ref ∧ ids.map (fun i => g.adr[i]?) = as.map some
  | [], _, _, .nil, h => by cases h; exact ⟨[], rfl, rfl⟩
  | s :: ss, _, ids, .cons r rs, h => by
    cases s with
    | und => cases h
    | xc _ _ => cases h
    | val _ => cases h
    | cel k =>
      have h : (match celsOf ss with | some l => some (k :: l) | none => none) = some ids := h
      cases hc : celsOf ss with
      | none => rw [hc] at h; cases h
      | some l =>
        rw [hc] at h
        cases h
        obtain ⟨as, rfl, e⟩ := cels_of rs hc
        obtain ⟨b, hb, rfl⟩ := r
        exact ⟨b :: as, rfl, by rw [List.map_cons, List.map_cons, e, hb]⟩
theorem Post.newR {K : PySem.W.Frag} {σ : St} {g : Gh} {H : Hp} {e : En} {Q : VK} {ids : List Nat} {as : List Addr} (re : Rel K e σ H g) (ty : ids.map (fun i => g.adr[i]?) = as.map some) (h : Post K C (RepS K) W σ g H (newC (.rls ids) e) Q) :
    ∀ p, H p = none → Q (.ref p) (upd H p (.lst (as.map V.ref))) := by
  intro p hp
  have le : GLe g ⟨g.G, g.adr ++ [p]⟩ := ⟨LeH.refl _, [p], rfl⟩
  obtain ⟨re', st⟩ := re.newC (o := .lst (as.map V.ref)) (c := .rls ids) hp (by
    have := CeAt.mono (K := K) (H := upd H p (.lst (as.map V.ref))) (H' := upd H p (.lst (as.map V.ref))) (a := p) (c := .rls ids) le ⟨re.gfree hp, as, upd_same, ty⟩ (fun z => z) (fun _ z => z)
    exact this)
  refine h (.ref p) _ _ re' st ⟨p, ?_, rfl⟩
  show (g.adr ++ [p])[e.cs.length]? = some p
  rw [← re.sto.len]
  simp
theorem lst_of {K : PySem.W.Frag} {σ : St} {g : Gh} {H : Hp} {e : En} {Q : VK} {f : Nat} {ss : List Sl} {vs : List V} (re : Rel K e σ H g) (rs : RepSs K g vs ss) (p : Post K C (RepS K) W σ g H (lstM f ss e) Q) :
    vs.length ≤ sizeLine ∧ ∀ q, H q = none → Q (.ref q) (upd H q (.lst vs)) := by
  by_cases hf : f = 2
  · subst hf
    have p : Post K C (RepS K) W σ g H ((match celsOf ss with | some ids => req (decide (ids.length ≤ SZ)) (newC (.rls ids)) | none => stk : M Sl) e) Q := p
    cases hc : celsOf ss with
    | none => rw [hc] at p; exact p.elim
    | some ids =>
      rw [hc] at p
      obtain ⟨hz, p⟩ := Post.req p
      obtain ⟨as, rfl, ty⟩ := cels_of rs hc
      have hl : ids.length = as.length := by simpa using congrArg List.length ty
      exact ⟨by rw [List.length_map, ← hl, szl]; exact of_decide_eq_true hz, Post.newR re ty p⟩
  · have e1 : lstM f ss = bnd (dOfs ss) fun ds => req (decide (ds.length ≤ SZ)) (newL f ds) := by
      unfold lstM
      split
      · exact absurd rfl hf
      · rfl
    rw [e1] at p
    obtain ⟨ds, e2, g2, re2, st2, q, p⟩ := Post.ds re rs p
    obtain ⟨hz, p⟩ := Post.req p
    exact ⟨by rw [q.length, szl]; exact of_decide_eq_true hz, Post.newL re2 p q⟩
theorem de_addR (ha : DE X C W a ma) (hb : DE X C W b mb) : DE X C W (.BinOp a (opK .add) b pos) (bnd ma fun s => bnd mb fun t => addRM s t) := by
  refine (pe_op (op_cat (X := X)) ha hb).imp fun σ H Q h => ?_
  refine h.bind fun v H1 s e1 g1 re1 rv p => Post.bindTo re1 p fun w H2 t e2 g2 re2 st2 rw p2 => ?_
  have rv2 := rv.mono st2.le
  cases s with
  | und => exact p2.elim
  | xc _ _ => exact p2.elim
  | val _ => exact p2.elim
  | cel k =>
    cases t with
    | und => exact p2.elim
    | xc _ _ => exact p2.elim
    | val _ => exact p2.elim
    | cel j =>
      have p2 : Post X.K C (RepS X.K) W σ g2 H2 (bnd (getC k) (fun c => bnd (getC j) fun c' => match c, c' with
        | .rls a, .rls b => DL.req (decide (a.length + b.length ≤ SZ)) (newC (.rls (a ++ b)))
        | _, _ => stk) e2) Q := p2
      obtain ⟨a1, c1, k1, rfl, hc1, ce1, p3⟩ := Post.getC re2 rv2 p2
      obtain ⟨a2, c2, k2, rfl, hc2, ce2, p4⟩ := Post.getC re2 rw p3
      cases c1 <;> cases c2 <;> first | exact p4.elim | skip
      rename_i ids js
      obtain ⟨hz, p4⟩ := Post.req p4
      obtain ⟨_, as, h1, t1⟩ := ce1
      obtain ⟨_, bs, h2, t2⟩ := ce2
      have l1 : ids.length = as.length := by simpa using congrArg List.length t1
      have l2 : js.length = bs.length := by simpa using congrArg List.length t2
      have hz := of_decide_eq_true hz
      refine ⟨a1, a2, _, _, rfl, rfl, h1, h2, by rw [List.length_map, List.length_map, ← l1, ← l2, szl]; exact hz, ?_⟩
      rw [← List.map_append]
      exact Post.newR re2 (by rw [List.map_append, List.map_append, t1, t2]) p4
theorem de_lst {f : Nat} {es : List Expr} {ms : M (List Sl)} (h : DA X C W es ms) : DE X C W (.List es pos) (bnd ms fun ss => lstM f ss) := by
  refine (pe_lst h).imp fun σ H Q h => ?_
  exact h.bind fun vs H1 ss e1 g1 re1 rv p => lst_of re1 rv p
theorem de_frz (h : DE X C W a ma) : DE X C W a (bnd ma fun s => bnd (dOf s) fun d => ret (.val d)) := by
  refine h.imp fun σ H Q h => ?_
  refine h.bind fun v H1 s e1 g1 re1 rv p => ?_
  obtain ⟨d, e2, g2, re2, st2, q, p⟩ := Post.d re1 rv p
  exact Post.ans re2 p q
theorem de_idx (hs : nslice b = true) (ha : DE X C W a ma) (hb : DE X C W b mb) : DE X C W (.Subscript a b pos) (bnd ma fun s => bnd mb fun t => idxM s t) := by
  obtain ⟨r, ho, hop⟩ := ix_ok (X := X) (C := C)
  refine (pe_ix ho ha hb (plainIx hs)).imp fun σ H Q h => ?_
  refine h.bind fun v H1 s e1 g1 re1 rv p => Post.bindTo re1 p fun w H2 t e2 g2 re2 st2 rw p2 => ?_
  exact hop W σ _ _ _ _ _ _ _ _ re2 (rv.mono st2.le) rw p2
theorem do_none : DO X C W none (ret none) := po_none.imp fun σ H Q ⟨e, g, re, p⟩ => p none g H re (Stp.refl g H) rfl
theorem do_some (h : DE X C W a ma) : DO X C W (some a) (bnd ma fun s => bnd (intM s) fun i => ret (some i)) := by
  refine (po_some h).imp fun σ H Q h => ?_
  refine h.bind fun v H1 s e1 g1 re1 rv p => ?_
  obtain ⟨i, rfl, p⟩ := intM_of rv p
  exact ⟨i, rfl, p (some i) g1 H1 re1 (Stp.refl g1 H1) rfl⟩
theorem de_slc {f : Nat} {lo hi : Option Expr} {ml mh : M (Option Int)} {p2 : Pos} (ha : DE X C W a ma) (hl : DO X C W lo ml) (hh : DO X C W hi mh) :
    DE X C W (.Subscript a (.Slice lo hi none p2) pos) (bnd ma fun s => bnd ml fun l => bnd mh fun h => sliceM f s l h) := by
  obtain ⟨r, ho, hop⟩ := sl_ok (X := X) (C := C) f
  refine (pe_slice ho ha hl hh).imp fun σ H Q h => ?_
  refine h.bind fun v H1 s e1 g1 re1 rv p => Post.bindTo re1 p fun o H2 o' e2 g2 re2 st2 ro p2 => Post.bindTo re2 p2 fun u H3 u' e3 g3 re3 st3 ru p3 => ?_
  have ro : o = o' := ro
  have ru : u = u' := ru
  subst ro
  subst ru
  exact hop W σ _ _ _ _ _ _ _ _ re3 (rv.mono (st2.le.trans st3.le)) p3
theorem Rd3s.of {K : PySem.W.Frag} {G H : Hp} : True := trivial
/-- a built-in function or class by its name -/
theorem de_bi {m : Bi} {f : Nat} {x : Str} {p : Pos} {e : Expr} {es : List Expr} {ms : M (List Sl)} (hc : X.calm = true) (hu : X.A.units + 64 < cLine) (hm : notIsi m = true) (hx : x = biNm m) (hg : Gl X x) (hn : X.mg x = none) (h1 : nst e = true) (h2 : es.all nst = true) (h : DA X C W (e :: es) ms) :
    DE X C W (.Call (.Name x p) (e :: es) [] pos) (bnd ms fun ss => bnd (rdOfs ss) fun ds => biD f m ds) := by
  subst hx
  obtain ⟨r, ho, hop⟩ := bi_ok (X := X) (C := C) hc hu f m (fun T z => by subst z; cases hm)
  have fin : PE X (.Call (.Name (biNm m) p) (e :: es) [] pos) (tCB r (tM X.K C (RepSs X.K) W ms)) := by
    have hv := bi_boot m
    obtain ⟨d1, d2⟩ := bi_dbg m
    cases hb : biV m with
    | builtin id => rw [hb] at hv ho; exact pe_callB ho hg hn hv h d2 d1 (star_cons h1) (star_any h2)
    | type T => rw [hb] at hv ho; exact pe_callTy ho hg hn hv h d2 d1 (star_cons h1) (star_any h2)
    | _ => cases m <;> cases hb
  refine fin.imp fun σ H Q h => ?_
  refine h.bind fun vs H1 ss e1 g1 re1 rv p => ?_
  obtain ⟨ds, q, p⟩ := Post.rds re1 rv p
  exact hop W σ _ _ _ _ _ _ re1 q p
theorem ty_boot : ∀ T : Nat, T < 6 → bootBuiltins (PySem.Str.ofString (tyN T)) = some (.type (tyN T)) ∧ (PySem.Str.ofString (tyN T) == ("__debug__" : Str)) = false ∧ PySem.Str.ofString (tyN T) ≠ "__name__" := by
  decide +kernel
theorem de_isi {T : Nat} {f : Nat} {p p2 : Pos} {y : Str} (hT : T < 6) (hy : y = PySem.Str.ofString (tyN T)) (hg : Gl X "isinstance") (hn : X.mg "isinstance" = none) (hgy : Gl X y) (hny : X.mg y = none) (h1 : nst a = true) (ha : DE X C W a ma) :
    DE X C W (.Call (.Name "isinstance" p) [a, .Name y p2] [] pos) (bnd ma fun s => bnd (rdOf s) fun d => ret (.val (.bl (isiD T d)))) := by
  subst hy
  obtain ⟨b1, b3, b4⟩ := ty_boot T hT
  have hb : PE X (.Name (PySem.Str.ofString (tyN T)) p2) (tC (.ty (tyN T))) := pe_bltn hgy hny b1 rfl b4 b3
  have hv := bi_boot (.isi T)
  refine (pe_callB call_isi hg hn hv (pa_cons ha (pa_cons hb pa_nil (by rfl)) (star_cons h1)) (by decide +kernel) (by decide +kernel) (star_cons h1) (by rfl)).imp fun σ H Q h => ?_
  refine h.bind fun v H1 s e1 g1 re1 rv p => ?_
  obtain ⟨d, q, p⟩ := Post.rd re1 rv p
  exact isi_ok hT W σ g1 H1 e1 Q v d re1 q (Post.ans re1 p (.bl _))
theorem de_mt0 {m : Mt} {f : Nat} {o : Expr} {mo : M Sl} {apos : Pos} {n : Str} (hn : n = mtNm m) (hb : attrOk o = true) (hl : (apos.endLine == pos.line) = true) (ho : DE X C W o mo) :
    DE X C W (.Call (.Attribute o n apos) [] [] pos) (bnd mo fun s => bnd (tyM m s) fun _ => bnd (ret []) fun ss => mtM f m s ss) := by
  subst hn
  obtain ⟨r, hr, hop⟩ := mt_ok (X := X) (C := C) f m
  refine (pe_bm0 (mt_plain m) (mt_slot m) (mt_type m) hr ho (attr_ok hb) hl).imp fun σ H Q h => ?_
  refine h.bind fun v H1 s e1 g1 re1 rv p => ?_
  unfold bnd at p
  cases ht : tyM m s e1 with
  | stuck => rw [ht] at p; exact p.elim
  | exc x e2 =>
    exfalso
    unfold tyM at ht
    split at ht <;> first | cases ht | (split at ht <;> cases ht)
  | ok u e2 =>
    rw [ht] at p
    obtain ⟨rfl, hty⟩ := ty_ok re1 rv ht
    exact ⟨hty, hop W σ g1 H1 _ Q v [] s [] re1 rv .nil p⟩
theorem de_mt {m : Mt} {f : Nat} {o e : Expr} {mo : M Sl} {ms : M (List Sl)} {apos : Pos} {n : Str} (hn : n = mtNm m) (hb : attrOk o = true) (hl : (apos.endLine == pos.line) = true) (ho : DE X C W o mo) (h1 : nst e = true) (h : DA X C W [e] ms) :
    DE X C W (.Call (.Attribute o n apos) [e] [] pos) (bnd mo fun s => bnd (tyM m s) fun _ => bnd ms fun ss => mtM f m s ss) := by
  subst hn
  obtain ⟨r, hr, hop⟩ := mt_ok (X := X) (C := C) f m
  have few : ((backTo pos (starEach [e] X.env)).all (fun x => !x.1) && (backToKw pos (keywordEach [] X.env)).all (fun x => x.1.isSome)
      && decide (([e] : List Expr).length + ([] : List Keyword).length + (if ([] : List Keyword).isEmpty then 0 else 1) < 30)) = true := by
    rw [star_all (by rw [List.all_cons, h1]; rfl)]; rfl
  refine (pe_bm (mt_plain m) (mt_slot m) (mt_type m) hr ho h (attr_ok hb) few hl (star_cons h1) rfl).imp fun σ H Q h => ?_
  refine h.bind fun v H1 s e1 g1 re1 rv p => ?_
  unfold bnd at p
  cases ht : tyM m s e1 with
  | stuck => rw [ht] at p; exact p.elim
  | exc x e2 =>
    exfalso
    unfold tyM at ht
    split at ht <;> first | cases ht | (split at ht <;> cases ht)
  | ok u e2 =>
    rw [ht] at p
    obtain ⟨rfl, hty⟩ := ty_ok re1 rv ht
    exact ⟨hty, Post.bindTo re1 p fun vs H2 ss e3 g3 re3 st3 rs p3 => hop W σ g3 H2 _ Q v vs s ss re3 (rv.mono st3.le) rs p3⟩
end
end DL
/-! DL, part i: calls of the program's own functions. -/
namespace DL
open PySem L2
variable [xb : Xb] [Tb]
/-- a function's promise: what it computes -/
def spF (K : PySem.W.Frag) (C : Nat → Addr) (fn : Fn) : Sp := fun vs H Q E => ∃ (g : Gh) (args : List Sl) (S : List Ce), RepSs K g vs args ∧ Sto K S H g ∧
  match fn args S with
  | .ok r S' => ∀ v g' H', Sto K S' H' g' → Stp g H g' H' → RepS K g' v r → Q v H'
  | .exc x S' => ∀ cls d g' H', Sto K S' H' g' → Stp g H g' H' → XRel C x cls d g'.G → E cls d H'
  | .stuck => False
/-- with the tables that may grow, or without any -/
@[reducible] def spB (K : PySem.W.Frag) (C : Nat → Addr) : Bool → Fn → Sp
  | true => spF K C
  | false => @spF xb ⟨[]⟩ K C
theorem mem_celIds {k : Nat} : ∀ {args : List Sl}, k ∈ celIds args ↔ Sl.cel k ∈ args
  | [] => by simp [celIds]
  | .und :: r => by simp [celIds, mem_celIds (args := r)]
  | .val d :: r => by simp [celIds, mem_celIds (args := r)]
  | .xc _ _ :: r => by simp [celIds, mem_celIds (args := r)]
  | .cel j :: r => by
    simp only [celIds, List.mem_cons, List.mem_filter, mem_celIds (args := r)]
    constructor
    · rintro (rfl | ⟨h, _⟩)
      · exact .inl rfl
      · exact .inr h
    · rintro (h | h)
      · injection h with h; exact .inl h
      · by_cases e : k = j
        · exact .inl e
        · exact .inr ⟨h, by simpa using e⟩
theorem nodup_celIds : ∀ args : List Sl, (celIds args).Nodup
  | [] => by simp [celIds]
  | .und :: r => nodup_celIds r
  | .val d :: r => nodup_celIds r
  | .xc _ _ :: r => nodup_celIds r
  | .cel j :: r => by
    simp only [celIds]
    rw [List.nodup_cons]
    refine ⟨by simp, (nodup_celIds r).filter _⟩
theorem idxIn_get {k : Nat} : ∀ {ks : List Nat}, k ∈ ks → ks[idxIn k ks]? = some k
  | [], h => by cases h
  | x :: r, h => by
    unfold idxIn
    by_cases e : x = k
    · rw [if_pos e, e]; rfl
    · rw [if_neg e]
      rcases List.mem_cons.mp h with z | z
      · exact absurd z.symm e
      · rw [List.getElem?_cons_succ]; exact idxIn_get z
theorem putB_len : ∀ (ks : List Nat) (cs' cs : List Ce), (putB ks cs' cs).length = cs.length
  | [], _, _ => by simp [putB]
  | _ :: _, [], _ => by simp [putB]
  | k :: ks, c :: cs', cs => by show ((putB ks cs' cs).set k c).length = _; rw [List.length_set, putB_len ks cs' cs]
theorem putB_out : ∀ {ks : List Nat} {cs' cs : List Ce} {j : Nat}, j ∉ ks → (putB ks cs' cs)[j]? = cs[j]?
  | [], _, _, _, _ => by simp [putB]
  | _ :: _, [], _, _, _ => by simp [putB]
  | k :: ks, c :: cs', cs, j, h => by
    show ((putB ks cs' cs).set k c)[j]? = _
    rw [List.getElem?_set_ne fun z => h (by rw [z]; exact List.mem_cons_self)]
    exact putB_out fun z => h (List.mem_cons_of_mem _ z)
theorem putB_in : ∀ {ks : List Nat} {cs' cs : List Ce} {i k : Nat} {c : Ce}, ks.Nodup → ks[i]? = some k → cs'[i]? = some c → k < cs.length → (putB ks cs' cs)[k]? = some c
  | [], _, _, _, _, _, _, h, _, _ => by simp at h
  | _ :: _, [], _, _, _, _, _, _, h, _ => by simp at h
  | k :: ks, c :: cs', cs, 0, k', c', nd, h1, h2, hl => by
    simp at h1 h2
    subst h1; subst h2
    show ((putB ks cs' cs).set k c)[k]? = _
    rw [List.getElem?_set_self (by rw [putB_len]; exact hl)]
  | k :: ks, c :: cs', cs, i + 1, k', c', nd, h1, h2, hl => by
    obtain ⟨n1, n2⟩ := List.nodup_cons.mp nd
    rw [List.getElem?_cons_succ] at h1 h2
    show ((putB ks cs' cs).set k c)[k']? = _
    rw [List.getElem?_set_ne fun z => n1 (by rw [z]; exact List.mem_of_getElem? h1)]
    exact putB_in n2 h1 h2 hl
theorem nodup_map {α β : Type} {f : α → β} : ∀ {l : List α}, (∀ x ∈ l, ∀ y ∈ l, f x = f y → x = y) → l.Nodup → (l.map f).Nodup
  | [], _, _ => by simp
  | a :: l, hf, nd => by
    obtain ⟨n1, n2⟩ := List.nodup_cons.mp nd
    rw [List.map_cons, List.nodup_cons]
    refine ⟨fun h => ?_, nodup_map (fun x hx y hy => hf x (List.mem_cons_of_mem _ hx) y (List.mem_cons_of_mem _ hy)) n2⟩
    obtain ⟨b, hb, e⟩ := List.mem_map.mp h
    exact n1 (hf b (List.mem_cons_of_mem _ hb) a List.mem_cons_self e ▸ hb)
theorem getD_at {α : Type} {l : List α} {k : Nat} {d : α} (h : k < l.length) : l[k]? = some (l.getD k d) := by
  rw [List.getD_eq_getElem?_getD, List.getElem?_eq_getElem h]; rfl
section
variable {K : PySem.W.Frag} {C : Nat → Addr} {W : WX} {σ : St} {g : Gh} {H : Hp} {e : En}
theorem CeAt.pure {g g' : Gh} {H : Hp} {a : Addr} {c : Ce} (hp : pureC c = true) (hG : g'.G = g.G) (h : CeAt K g H a c) : CeAt K g' H a c := by
  cases c with
  | gone => trivial
  | lst ds => obtain ⟨n, xs, e, r⟩ := h; exact ⟨by rw [hG]; exact n, xs, e, by rw [hG]; exact r⟩
  | dct ks vs => obtain ⟨n, xs, e, r, q⟩ := h; exact ⟨by rw [hG]; exact n, xs, e, by rw [hG]; exact r, by rw [hG]; exact q⟩
  | rls ids => cases hp
/-- the callee's ghosts -/
def gC (g : Gh) (ks : List Nat) : Gh := ⟨g.G, ks.map fun k => g.adr.getD k 0⟩
theorem gC_get {ks : List Nat} {i k : Nat} {a : Addr} (h : ks[i]? = some k) (ha : g.adr[k]? = some a) : (gC g ks).adr[i]? = some a := by
  show (ks.map fun k => g.adr.getD k 0)[i]? = some a
  rw [List.getElem?_map, h]
  show some (g.adr.getD k 0) = some a
  rw [List.getD_eq_getElem?_getD, ha]; rfl
/-- into a call -/
theorem call_in (re : Rel K e σ H g) {vs : List V} {ss : List Sl} (rs : RepSs K g vs ss) (hp : ((celIds ss).all fun k => pureC (e.cs.getD k .gone)) = true) :
    (∀ k ∈ celIds ss, k < g.adr.length) ∧ RepSs K (gC g (celIds ss)) vs (ss.map (renS (celIds ss))) ∧ Sto K ((celIds ss).map fun k => e.cs.getD k .gone) H (gC g (celIds ss)) := by
  have hlt : ∀ k ∈ celIds ss, k < g.adr.length := by
    intro k hk
    have key : ∀ {vs : List V} {ss : List Sl}, RepSs K g vs ss → Sl.cel k ∈ ss → k < g.adr.length := by
      intro vs ss rs hk
      induction rs with
      | nil => cases hk
      | cons r rs ih =>
        rcases List.mem_cons.mp hk with z | z
        · subst z
          obtain ⟨a, h, _⟩ := r
          exact (List.getElem?_eq_some_iff.mp h).1
        · exact ih z
    exact key rs (mem_celIds.mp hk)
  refine ⟨hlt, ?_, ?_⟩
  · have : ∀ {vs : List V} {ss' : List Sl}, RepSs K g vs ss' → (∀ s ∈ ss', s ∈ ss) → RepSs K (gC g (celIds ss)) vs (ss'.map (renS (celIds ss))) := by
      intro vs ss' rs hs
      induction rs with
      | nil => exact .nil
      | @cons v vs s ss' r rs ih =>
        refine .cons ?_ (ih fun s h => hs s (List.mem_cons_of_mem _ h))
        cases s with
        | und => exact r
        | xc _ _ => exact r
        | val d => exact r
        | cel k =>
          obtain ⟨a, h, ev⟩ := r
          exact ⟨a, gC_get (idxIn_get (mem_celIds.mpr (hs _ List.mem_cons_self))) h, ev⟩
    exact this rs fun s h => h
  · have nd := nodup_celIds ss
    refine ⟨re.sto.gh, by simp [gC], ?_, fun a ha => ?_, fun i a c h1 h2 => ?_, re.sto.tab, re.sto.gtb⟩
    · show ((celIds ss).map fun k => g.adr.getD k 0).Nodup
      refine nodup_map (fun x hx y hy h => ?_) nd
      have h1 : g.adr[x]? = some (g.adr.getD x 0) := by rw [List.getD_eq_getElem?_getD, List.getElem?_eq_getElem (hlt x hx)]; rfl
      have h2 : g.adr[y]? = some (g.adr.getD y 0) := by rw [List.getD_eq_getElem?_getD, List.getElem?_eq_getElem (hlt y hy)]; rfl
      rw [← h] at h2
      exact nodup_at re.sto.nod h1 h2
    · obtain ⟨k, hk, rfl⟩ := List.mem_map.mp ha
      refine re.sto.thr _ ?_
      rw [List.getD_eq_getElem?_getD, List.getElem?_eq_getElem (hlt k hk)]
      exact List.getElem_mem _
    · rw [List.getElem?_map] at h2
      have h1 : ((celIds ss).map fun k => g.adr.getD k 0)[i]? = some a := h1
      rw [List.getElem?_map] at h1
      cases hk : (celIds ss)[i]? with
      | none => rw [hk] at h1; cases h1
      | some k =>
        rw [hk] at h1 h2
        have hmem := List.mem_of_getElem? hk
        have hl := hlt k hmem
        have e1 : g.adr[k]? = some a := by
          have h1 : some (g.adr.getD k 0) = some a := h1
          rw [← h1]; exact getD_at hl
        have hl' : k < e.cs.length := by rw [← re.sto.len]; exact hl
        have e2 : e.cs[k]? = some c := by
          have h2 : some (e.cs.getD k .gone) = some c := h2
          rw [← h2]; exact getD_at hl'
        have pc : pureC c = true := by
          have := List.all_eq_true.mp hp k hmem
          rw [List.getD_eq_getElem?_getD, e2] at this
          exact this
        exact CeAt.pure (g := g) pc rfl (re.sto.cel k a c e1 e2)
/-- behind a call -/
theorem call_out (re : Rel K e σ H g) {ks : List Nat} (nd : ks.Nodup) (hlt : ∀ k ∈ ks, k < g.adr.length) {S' : List Ce} {g' : Gh} {H' : Hp} (st : Sto K S' H' g') (sp : Stp (gC g ks) H g' H') (hp : S'.all pureC = true) :
    ∃ g3, g3.G = g'.G ∧ Rel K ⟨e.sl, putB ks S' e.cs ++ S'.drop ks.length⟩ σ H' g3 ∧ Stp g H g3 H' ∧ ∀ v r, RepS K g' v r → RepS K g3 v (backS ks e.cs.length r) := by
  obtain ⟨l, el⟩ := sp.le.ad
  have lc : (gC g ks).adr.length = ks.length := by simp [gC]
  have cmem : ∀ a, a ∈ (gC g ks).adr → a ∈ g.adr := fun a ha => by
    obtain ⟨k, hk, rfl⟩ := List.mem_map.mp ha
    rw [List.getD_eq_getElem?_getD, List.getElem?_eq_getElem (hlt k hk)]
    exact List.getElem_mem _
  have hnew : ∀ a ∈ l, nC H a := fun a ha => by
    rcases sp.anew a (by rw [el]; exact List.mem_append_right _ ha) with z | z
    · exfalso
      have := st.nod
      rw [el, List.nodup_append] at this
      exact this.2.2 a z a ha rfl
    · exact z
  have hS : S'.length = ks.length + l.length := by
    rw [← st.len, el, List.length_append, lc]
  have le : GLe g ⟨g'.G, g.adr ++ l⟩ := ⟨sp.le.le, l, rfl⟩
  refine ⟨⟨g'.G, g.adr ++ l⟩, rfl, re.slots le rfl ⟨st.gh, ?_, ?_, ?_, ?_, st.tab, st.gtb⟩, ⟨le, ?_, ?_, ?_⟩, ?_⟩
  · show (g.adr ++ l).length = (putB ks S' e.cs ++ S'.drop ks.length).length
    rw [List.length_append, List.length_append, putB_len, List.length_drop, re.sto.len]
    omega
  · show (g.adr ++ l).Nodup
    rw [List.nodup_append]
    refine ⟨re.sto.nod, ?_, fun a ha b hb z => ?_⟩
    · have := st.nod
      rw [el, List.nodup_append] at this
      exact this.2.1
    · subst z
      obtain ⟨o, q, co⟩ := re.sto.thr a ha
      exact (hnew a hb).no q co
  · intro a ha
    rcases List.mem_append.mp ha with ha | ha
    · obtain ⟨o, q, z⟩ := re.sto.thr a ha
      by_cases hc : a ∈ (gC g ks).adr
      · exact st.thr a (sp.le.mem hc)
      · exact ⟨o, sp.keep a o q hc z.nt, z⟩
    · exact st.thr a (by rw [el]; exact List.mem_append_right _ ha)
  · intro k a c h1 h2
    have h1 : (g.adr ++ l)[k]? = some a := h1
    have h2 : (putB ks S' e.cs ++ S'.drop ks.length)[k]? = some c := h2
    by_cases hk : k < g.adr.length
    · rw [List.getElem?_append_left hk] at h1
      rw [List.getElem?_append_left (by rw [putB_len, ← re.sto.len]; exact hk)] at h2
      by_cases hm : k ∈ ks
      · obtain ⟨i, hi⟩ := List.getElem?_of_mem hm
        have hi' : i < ks.length := (List.getElem?_eq_some_iff.mp hi).1
        have hi2 : i < S'.length := by omega
        have e1 : S'[i]? = some S'[i] := List.getElem?_eq_getElem hi2
        rw [putB_in nd hi e1 (by rw [← re.sto.len]; exact hk)] at h2
        have e2 : g'.adr[i]? = some a := sp.le.get (gC_get hi h1)
        have ec : c = S'[i] := (Option.some.inj h2).symm
        subst ec
        exact CeAt.pure (g := g') (List.all_eq_true.mp hp _ (List.getElem_mem _)) rfl (st.cel i a _ e2 e1)
      · rw [putB_out hm] at h2
        have hc : a ∉ (gC g ks).adr := fun z => by
          obtain ⟨j, hj, ej⟩ := List.mem_map.mp z
          have hj2 : g.adr[j]? = some a := by rw [← ej, List.getD_eq_getElem?_getD, List.getElem?_eq_getElem (hlt j hj)]; rfl
          exact hm (nodup_at re.sto.nod h1 hj2 ▸ hj)
        have ce := re.sto.cel k a c h1 h2
        obtain ⟨o, q, zo⟩ := re.sto.thr a (List.mem_of_getElem? h1)
        refine ce.mono le (fun n => ?_) fun u hu => sp.keep a u hu hc (by rw [q] at hu; cases hu; exact zo.nt)
        show g'.G a = none
        cases z : g'.G a with
        | none => rfl
        | some u =>
          rcases sp.gnew a u z with y | y | y
          · have y : g.G a = some u := y
            rw [n] at y; cases y
          · exact (y.no q zo).elim
          · exact (hc y).elim
    · have hk' : g.adr.length ≤ k := Nat.le_of_not_lt hk
      rw [List.getElem?_append_right hk'] at h1
      rw [List.getElem?_append_right (by rw [putB_len, ← re.sto.len]; exact hk'), putB_len, ← re.sto.len, List.getElem?_drop] at h2
      have e2 : g'.adr[ks.length + (k - g.adr.length)]? = some a := by
        rw [el, List.getElem?_append_right (by omega), lc]
        have : ks.length + (k - g.adr.length) - ks.length = k - g.adr.length := by omega
        rw [this]; exact h1
      exact CeAt.pure (g := g') (List.all_eq_true.mp hp _ (List.mem_of_getElem? h2)) rfl (st.cel _ a c e2 h2)
  · intro b o q hb ht
    exact sp.keep b o q (fun z => hb (cmem b z)) ht
  · intro a ha
    rcases List.mem_append.mp ha with ha | ha
    · exact .inl ha
    · exact .inr (hnew a ha)
  · intro b o q
    rcases sp.gnew b o q with y | y | y
    · exact .inl y
    · exact .inr (.inl y)
    · exact .inr (.inr (cmem b y))
  · intro v r h
    cases r with
    | und => exact h
    | xc _ _ => exact h
    | val d => exact h
    | cel j =>
      obtain ⟨a, hj, rfl⟩ := h
      show RepS K ⟨g'.G, g.adr ++ l⟩ (.ref a) (match ks[j]? with | some k => .cel k | none => .cel (e.cs.length + (j - ks.length)))
      cases hk : ks[j]? with
      | some k =>
        have hjl : j < ks.length := (List.getElem?_eq_some_iff.mp hk).1
        refine ⟨a, ?_, rfl⟩
        rw [el, List.getElem?_append_left (by rw [lc]; exact hjl)] at hj
        have hj : (ks.map fun k => g.adr.getD k 0)[j]? = some a := hj
        rw [List.getElem?_map, hk] at hj
        have hl := hlt k (List.mem_of_getElem? hk)
        have e1 : g.adr[k]? = some a := by
          have hj : some (g.adr.getD k 0) = some a := hj
          rw [← hj]; exact getD_at hl
        show (g.adr ++ l)[k]? = some a
        rw [List.getElem?_append_left hl]; exact e1
      | none =>
        have hjl : ks.length ≤ j := List.getElem?_eq_none_iff.mp hk
        refine ⟨a, ?_, rfl⟩
        rw [el, List.getElem?_append_right (by rw [lc]; exact hjl), lc] at hj
        show (g.adr ++ l)[e.cs.length + (j - ks.length)]? = some a
        rw [List.getElem?_append_right (by rw [← re.sto.len]; omega), ← re.sto.len]
        have : g.adr.length + (j - ks.length) - g.adr.length = j - ks.length := by omega
        rw [this]; exact hj
/-- a call's promise from what is wanted behind it -/
theorem call_of {Q : VK} {fn : Fn} {vs : List V} {ss : List Sl} (re : Rel K e σ H g) (rs : RepSs K g vs ss) (h : Post K C (RepS K) W σ g H (callM fn ss e) Q) : spF K C fn vs H Q (WE W σ) := by
  unfold callM at h
  cases hp : (celIds ss).all fun k => pureC (e.cs.getD k .gone) with
  | false => rw [hp] at h; exact h.elim
  | true =>
    rw [hp] at h
    obtain ⟨hlt, r1, s1⟩ := call_in re rs hp
    refine ⟨_, _, _, r1, s1, ?_⟩
    unfold callB at h
    simp only at h
    cases hf : fn (ss.map (renS (celIds ss))) ((celIds ss).map fun k => e.cs.getD k .gone) with
    | stuck => rw [hf] at h; exact h.elim
    | ok r S' =>
      rw [hf] at h
      simp only at h
      cases hq : S'.all pureC with
      | false => rw [hq] at h; exact h.elim
      | true =>
        rw [hq] at h
        intro v g' H' st sp rv
        obtain ⟨g3, _, re3, st3, back⟩ := call_out re (nodup_celIds ss) hlt st sp hq
        exact h v g3 H' re3 st3 (back v r rv)
    | exc x S' =>
      rw [hf] at h
      simp only at h
      cases hq : S'.all pureC with
      | false => rw [hq] at h; exact h.elim
      | true =>
        rw [hq] at h
        intro cls d g' H' st sp rx
        obtain ⟨g3, e3, re3, st3, _⟩ := call_out re (nodup_celIds ss) hlt st sp hq
        exact h cls d g3 H' re3 st3 (by rw [e3]; exact rx)
end
section
variable {X : Cx} {C : Nat → Addr} {W : WX} {pos : Pos}
theorem de_call {x : Str} {p : Pos} {a : Expr} {es : List Expr} {ms : M (List Sl)} {fn : Fn} {f : Addr} {fd : FuncData} {k : Nat} {ps : List Str} (F : FnG X.prog X.w X.K X.mg X.base (CX X.prog X.w) k f fd ps (spF X.K C fn)) (hr : RoomG k X.A)
    (hg : Gl X x) (hm : X.mg x = some (.ref f)) (hk : PySem.W.keepIn X.K (.ref f) = true) (hb : Binds X.K fd ps []) (tk : Takes X W) (hd : (x == ("__debug__" : Str)) = false) (h1 : nst a = true) (h2 : es.all nst = true) (h : DA X C W (a :: es) ms) :
    DE X C W (.Call (.Name x p) (a :: es) [] pos) (bnd ms fun ss => callM fn ss) := by
  refine (pe_callG F hr hg hm hk hb (fun σ => passAt tk σ) h hd (star_cons h1) (star_any h2)).imp fun σ H Q h => ?_
  exact h.bind fun vs H1 ss e1 g1 re1 rv p => call_of re1 rv p
theorem de_call0 {x : Str} {p : Pos} {fn : Fn} {f : Addr} {fd : FuncData} {k : Nat} {ps : List Str} (F : FnG X.prog X.w X.K X.mg X.base (CX X.prog X.w) k f fd ps (spF X.K C fn)) (hr : RoomG k X.A)
    (hg : Gl X x) (hm : X.mg x = some (.ref f)) (hk : PySem.W.keepIn X.K (.ref f) = true) (hb : Binds X.K fd ps []) (tk : Takes X W) (hd : (x == ("__debug__" : Str)) = false) :
    DE X C W (.Call (.Name x p) [] [] pos) (bnd (ret []) fun ss => callM fn ss) := by
  refine (pe_callG0 F hr hg hm hk hb (fun σ => passAt tk σ) hd).imp fun σ H Q h => ?_
  obtain ⟨e, g, re, p⟩ := h
  exact call_of re .nil p
end
end DL
/-! DL, part M: zip of a list or a tuple with a list or a tuple. -/
namespace DL
open PySem PySem.Spec PyProof.Rows L2
/-- true: a tuple; false: a list -/
def ItS (t : Bool) (h : Heap) (it l : Addr) (k : Nat) : Prop := match t with
  | true => h.IsTupleIter it l k
  | false => h.IsListIter it l k
def ObS (t : Bool) (h : Heap) (l : Addr) (xs : Array Value) : Prop := match t with
  | true => h.IsTuple l xs
  | false => h.IsList l xs
def SqS (t : Bool) (K : PySem.W.Frag) (H : Hp) (l : Addr) (xs : List V) : Prop := match t with
  | true => SqT K H l xs
  | false => SqL K H l xs
def itO (t : Bool) (l : Addr) : Obj := match t with
  | true => { cls := .type "tuple_iterator", data := .fields #[.ref l, .int 0 0] }
  | false => { cls := .type "list_iterator", data := .fields #[.ref l, .int 0 0] }
theorem drawS {P : Program} {w : World} {A : Around} (t : Bool) (hh : A.handled = none) (it l : Addr) (hne : l ≠ it) (items : Array Value) :
    Draws P w A it [it, l] items.size (fun i v => items[i]? = some v) (fun i h => ItS t h it l i ∧ ObS t h l items) := by
  cases t
  · exact Draws.list hh it l hne items
  · exact Draws.tuple hh it l hne items
theorem beginS (t : Bool) (l : Addr) (items : Array Value) : Begins (.ref l) (itO t l) fun h => ObS t h l items := by
  cases t
  · exact begins_list l items
  · exact begins_tuple l items
theorem itS_new {t : Bool} {h : Heap} {it l : Addr} (e : h.get? it = some (itO t l)) : ItS t h it l 0 := by
  cases t
  · exact ⟨_, e, rfl, rfl⟩
  · exact ⟨_, e, rfl, rfl⟩
theorem itS_at {t : Bool} {h h' : Heap} {it l : Addr} {k : Nat} (x : ItS t h it l k) (e : ∀ o, h.get? it = some o → h'.get? it = some o) : ItS t h' it l k := by
  cases t
  · exact Heap.IsListIter.at x e
  · exact Heap.IsTupleIter.at x e
theorem itS_obj {t : Bool} {h : Heap} {it l : Addr} {k : Nat} (x : ItS t h it l k) : ∃ o, h.get? it = some o ∧ ∀ v, o.data ≠ .cell v := by
  cases t
  · obtain ⟨o, e, _, d⟩ := x
    exact ⟨o, e, fun v q => by rw [d] at q; cases q⟩
  · obtain ⟨o, e, _, d⟩ := x
    exact ⟨o, e, fun v q => by rw [d] at q; cases q⟩
theorem sqS_ob {X : Cx} {pins : List (Addr × Obj)} {σ : L2.St} {H : Hp} {s : Shared} {t : Bool} {l : Addr} {xs : List V} (I : Inv X pins σ H s) (q : SqS t X.K H l xs) : ∃ its : List Value, Vals xs its ∧ ObS t s.heap l its.toArray ∧ l < s.heap.objs.size := by
  cases t
  · obtain ⟨its, r, p, _⟩ := I.list q
    exact ⟨its, r, p.isList, p.lt⟩
  · obtain ⟨its, r, p, _⟩ := I.tuple q
    obtain ⟨o, ho, _⟩ := id p
    exact ⟨its, r, p, Heap.lt_size ho⟩
theorem sqS_inj {X : Cx} {pins : List (Addr × Obj)} {σ : L2.St} {H : Hp} {s : Shared} {t : Bool} {l : Addr} {xs ys : List V} (I : Inv X pins σ H s) (q : SqS t X.K H l xs) (q' : SqS t X.K H l ys) : xs = ys := by
  cases t
  · exact I.list_inj q q'
  · exact I.tuple_inj q q'
/-- what stands at a and at b at each turn, in new pairs -/
def ItM (K : PySem.W.Frag) (t u : Bool) (a b : Addr) : It :=
  ⟨fun i H => ∃ (ps qs : List V) (p q : V), SqS t K H a ps ∧ SqS u K H b qs ∧ ps[i]? = some p ∧ qs[i]? = some q,
    fun i H v H' => ∃ T p q, v = .ref T ∧ H T = none ∧ H' = upd H T (.tup [p, q]) ∧ (∀ ps, SqS t K H a ps → ps[i]? = some p) ∧ ∀ qs, SqS u K H b qs → qs[i]? = some q,
    fun i H => ∃ ps qs : List V, SqS t K H a ps ∧ SqS u K H b qs ∧ i = min ps.length qs.length⟩
theorem turn_mz {P : Program} {w : World} {K : PySem.W.Frag} {elts : List Expr} {kk : Nat} {tpos : Pos} {t u : Bool} {a b Z TI TO j1 j2 : Addr} (D : ZipApart Z TI TO j1 j2 a b) :
    Turn P w K (.Tuple elts kk tpos) (ItM K t u a b) [Z, TI, TO, j1, j2] Z (fun i h => IsZip h Z TI TO .none ∧ IsTupOf2 h TI (.ref j1) (.ref j2) ∧ (∃ p q, IsTupOf2 h TO p q) ∧ ItS t h j1 a i ∧ ItS u h j2 b i) := by
  have sep : ZipSep2 Z TI TO j1 j2 [j1, a] [j2, b] := ⟨D.TIz, D.TOz, D.TITO, D.TIi1, by simp, by simp [D.i1z.symm, D.l1z.symm], by simp [D.TOi1, D.l1TO.symm], D.TIi2, by simp, by simp [D.i2z.symm, D.l2z.symm], by simp [D.TOi2, D.l2TO.symm], by simp [D.i12, D.l2i1.symm], by simp [D.i12.symm, D.l1i2.symm]⟩
  have five : ∀ {c : Addr}, c ∈ [Z, TI, TO, j1, j2] → c = Z ∨ c = TI ∨ c = TO ∨ c = j1 ∨ c = j2 := fun h => by simpa using h
  constructor
  case mem => simp
  case obj =>
    rintro i h ⟨z0, z1, ⟨p, q, z2⟩, z3, z4⟩ c hc
    rcases five hc with e | e | e | e | e <;> rw [e]
    · exact ⟨_, z0, fun v q => nomatch q⟩
    · exact ⟨_, z1, fun v q => nomatch q⟩
    · exact ⟨_, z2, fun v q => nomatch q⟩
    · exact itS_obj z3
    · exact itS_obj z4
  case keep =>
    rintro i h h' ⟨z0, z1, ⟨p, q, z2⟩, z3, z4⟩ kp
    exact ⟨kp Z (by simp) _ z0, kp TI (by simp) _ z1, ⟨p, q, kp TO (by simp) _ z2⟩, itS_at z3 (kp j1 (by simp)), itS_at z4 (kp j2 (by simp))⟩
  case item =>
    intro X eP ew eK calm i pins s σ H E I free st go
    subst eP ew eK
    obtain ⟨z0, z1, ⟨p0, q0, z2⟩, z3, z4⟩ := st
    obtain ⟨ps, qs, p, q, sp, sq, hp, hq⟩ := go
    obtain ⟨us, ru, ou, _⟩ := sqS_ob I sp
    obtain ⟨ws, rw', ow, _⟩ := sqS_ob I sq
    obtain ⟨m, hm, rm⟩ := ru.get hp
    obtain ⟨n, hn, rn⟩ := rw'.get hq
    have lm : i < us.toArray.size := by
      have := (List.getElem?_eq_some_iff.mp hm).1
      simpa using this
    have ln : i < ws.toArray.size := by
      have := (List.getElem?_eq_some_iff.mp hn).1
      simpa using this
    have low := Heap.lt_size z0
    have hh : X.A.in1.handled = none := I.ok.hd calm
    refine wpAny_pyNext_zipD2_item sep (drawS t hh j1 a D.l1i1 us.toArray) (drawS u hh j2 b D.l2i2 ws.toArray) z0 z1 z2 ⟨z3, ou⟩ ⟨z4, ow⟩ lm ln fun m' n' h1 tk em en y0 y2 y3 y4 yT ysz hk => ?_
    have em : m = m' := by
      have em : us.toArray[i]? = some m' := em
      rw [List.getElem?_toArray, hm] at em
      exact Option.some.inj em
    have en : n = n' := by
      have en : ws.toArray[i]? = some n' := en
      rw [List.getElem?_toArray, hn] at en
      exact Option.some.inj en
    subst em en
    refine ⟨_, rfl, wpAny_letOwnedTupleGo_zip (s := { s with heap := h1, toks := tk }) y0 fun h2 w0 sb => ?_⟩
    have wT : h2.get? s.heap.objs.size = some { cls := .type "tuple", data := .seq #[m, n] } := (sb.2 _ (Nat.ne_of_gt low)).trans yT
    have fresh : ObjOk X.prog X.w (upd H s.heap.objs.size (.tup [p, q])) h2 s.heap.objs.size (.tup [p, q]) := ⟨by show 2 ≤ sizeLine; decide, [m, n], .cons rm (.cons rn .nil), ⟨_, wT, rfl, _, rfl⟩⟩
    have I2 : Inv X pins σ (upd H s.heap.objs.size (.tup [p, q])) { s with heap := h2, toks := tk } := by
      refine I.turnedNew (t' := tk) (ch := [Z, TI, TO, j1, j2]) (fun c o nc e => ?_) free (Nat.le_refl _) fresh
      simp only [List.mem_cons, List.not_mem_nil, or_false, not_or] at nc
      exact (sb.2 c nc.1).trans (hk c o nc.1 nc.2.2.1 nc.2.2.2.1 nc.2.2.2.2 e)
    refine ⟨.ref s.heap.objs.size, _, I2, rfl, ⟨_, p, q, rfl, I.hok.fresh (Nat.le_refl _), rfl, fun l hl => by rw [sqS_inj I hl sp]; exact hp, fun l hl => by rw [sqS_inj I hl sq]; exact hq⟩, ⟨w0, ?_, ⟨m, n, ?_⟩, ?_, ?_⟩, fun c hc => ?_⟩
    · exact (sb.2 _ D.TIz).trans (hk TI _ D.TIz D.TITO D.TIi1 D.TIi2 z1)
    · exact (sb.2 _ D.TOz).trans y2
    · exact itS_at y3.1 fun o e => (sb.2 _ D.i1z).trans e
    · exact itS_at y4.1 fun o e => (sb.2 _ D.i2z).trans e
    · have lt : c < s.heap.objs.size := by
        rcases five hc with e | e | e | e | e <;> rw [e]
        · exact low
        · exact Heap.lt_size z1
        · exact Heap.lt_size z2
        · obtain ⟨_, e1, _⟩ := itS_obj z3; exact Heap.lt_size e1
        · obtain ⟨_, e1, _⟩ := itS_obj z4; exact Heap.lt_size e1
      rw [upd_ne (Nat.ne_of_lt lt)]
      exact (free c hc).1
  case done =>
    intro X eP ew eK calm i pins s σ H E I free st fin
    subst eP ew eK
    obtain ⟨z0, z1, ⟨p0, q0, z2⟩, z3, z4⟩ := st
    obtain ⟨ps, qs, sp, sq, ei⟩ := fin
    obtain ⟨us, ru, ou, _⟩ := sqS_ob I sp
    obtain ⟨ws, rw', ow, _⟩ := sqS_ob I sq
    have lu := ru.length
    have lw := rw'.length
    have hh : X.A.in1.handled = none := I.ok.hd calm
    refine wpAny_pyNext_zipD2_end sep (drawS t hh j1 a D.l1i1 us.toArray) (drawS u hh j2 b D.l2i2 ws.toArray) z0 z1 z2 ⟨z3, ou⟩ ⟨z4, ow⟩ (by simp; omega) (by simp; omega) (by simp; omega) fun h1 tk hk => ⟨rfl, ?_⟩
    refine I.turnedL (t' := tk) (ch := [Z, TI, TO, j1, j2]) (fun c o nc e => ?_) free
    simp only [List.mem_cons, List.not_mem_nil, or_false, not_or] at nc
    exact hk c o nc.1 nc.2.2.1 nc.2.2.2.1 nc.2.2.2.2 e
  case self => exact fun A i s Q E st h => wpAny_pyIter_zip st.1 h
def iMz (K : PySem.W.Frag) (ta : TA) : TI := fun σ H R => ta σ H fun vs H1 => ∃ (t u : Bool) (a b : Addr) (ps qs : List V), vs = [.ref a, .ref b] ∧ SqS t K H1 a ps ∧ SqS u K H1 b qs ∧ R (ItM K t u a b) H1
theorem pi_mz {X : Cx} {e e2 : Expr} {ta : TA} {p pos tpos : Pos} {elts : List Expr} {kk : Nat} (hg : Gl X "zip") (hm : X.mg "zip" = none) (ha : PA X [e, e2] ta)
    (hs : starEach [e, e2] X.env = (false, eval e X.env) :: starEach [e2] X.env) (hpl : (backTo pos (starEach [e2] X.env)).any (·.1) = false) :
    PI X (.Tuple elts kk tpos) (.Call (.Name "zip" p) [e, e2] [] pos) (iMz X.K ta) := by
  constructor
  intro pins s σ H R I h
  refine Call_ (ld_blt I hg hm PyProof.Rows.boot_zip (PyProof.Rows.callWith_type1 (thn (ha.run pos pins s σ H _ I h) ?_) hs hpl))
  rintro us s1 ⟨vs, H1, I1, rs, t, u, a, b, ps, qs, ev, sp, sq, hR⟩
  subst ev
  cases rs with
  | cons ra rs =>
    cases rs with
    | cons rb rs =>
      cases rs
      cases ra
      cases rb
      obtain ⟨its, _, oa, la⟩ := sqS_ob I1 sp
      obtain ⟨its', _, ob, lb⟩ := sqS_ob I1 sq
      refine zip_begins2 (beginS t a its.toArray) (beginS u b its'.toArray) oa ob fun h' z0 z1 z2 z3 z4 zs hk => wpAny_pyIter_zip z0 ?_
      refine ⟨_, [s1.heap.objs.size + 4, s1.heap.objs.size + 2, s1.heap.objs.size + 3, s1.heap.objs.size, s1.heap.objs.size + 1], _, _, H1, rfl, I1.kept (t' := s1.toks) hk, turn_mz (PySem.W.ktu_apart s1.heap.objs.size a b la lb), ⟨z0, z1, ⟨_, _, z2⟩, itS_new z3, itS_new z4⟩, fun c hc => ?_, hR⟩
      have hle : s1.heap.objs.size ≤ c := by
        simp only [List.mem_cons, List.not_mem_nil, or_false] at hc
        rcases hc with e | e | e | e | e <;> rw [e]
        · exact Nat.le_add_right _ _
        · exact Nat.le_add_right _ _
        · exact Nat.le_add_right _ _
        · exact Nat.le_refl _
        · exact Nat.le_add_right _ _
      exact I1.fpOk hle (I1.hok.fresh hle)
theorem walk_mz {K : PySem.W.Frag} {t u : Bool} {a b : Addr} {xs ys : List V} {n : Nat} (hn : n = min xs.length ys.length) : Walk (ItM K t u a b) n (fun H => SqS t K H a xs ∧ SqS u K H b ys) (YPair (fun i => xs[i]?) (fun i => ys[i]?)) := by
  subst hn
  constructor
  · rintro i H hi ⟨q1, q2⟩
    have h1 : i < xs.length := by omega
    have h2 : i < ys.length := by omega
    exact ⟨xs, ys, xs[i], ys[i], q1, q2, by simp [h1], by simp [h2]⟩
  · rintro H ⟨q1, q2⟩
    exact ⟨xs, ys, q1, q2, rfl⟩
  · rintro i H v H' hi ⟨q1, q2⟩ ⟨T, p, q, rfl, e1, e2, e3, e4⟩
    exact ⟨T, p, q, rfl, e1, e2, e3 xs q1, e4 ys q2⟩
end DL
/-! DL, part j: targets, what is walked, comprehensions. -/
namespace DL
open PySem L2
variable [xb : Xb] [Tb]
/-! ### targets -/
mutual
def tvs : Tg → List Nat
  | .v i => [i]
  | .t l => tvss l
def tvss : List Tg → List Nat
  | [] => []
  | t :: l => tvs t ++ tvss l
end
/-- the same outside vs -/
def Ag (vs : List Nat) (σ σ' : St) : Prop := σ'.length = σ.length ∧ ∀ j, j ∉ vs → σ'[j]? = σ[j]?
theorem Ag.refl (vs : List Nat) (σ : St) : Ag vs σ σ := ⟨rfl, fun _ _ => rfl⟩
theorem Ag.trans {vs ws : List Nat} {a b c : St} (h : Ag vs a b) (k : Ag ws b c) : Ag (vs ++ ws) a c :=
  ⟨k.1.trans h.1, fun j hj => (k.2 j fun z => hj (List.mem_append_right _ z)).trans (h.2 j fun z => hj (List.mem_append_left _ z))⟩
def tG (K : PySem.W.Frag) (t : Tg) : TG := fun v σ H Q => ∃ e g d, Rel K e σ H g ∧ Dr K g.G v d ∧ ∃ e', bindT t d e = .ok () e' ∧ ∀ σ', Rel K e' σ' H g → Ag (tvs t) σ σ' → Q σ' H
def tGs (K : PySem.W.Frag) (l : List Tg) : TGs := fun vs σ H Q => ∃ e g ds, Rel K e σ H g ∧ Drs K g.G vs ds ∧ ∃ e', bindTs l ds e = .ok () e' ∧ ∀ σ', Rel K e' σ' H g → Ag (tvss l) σ σ' → Q σ' H
theorem Rel.set {K : PySem.W.Frag} {e : En} {σ : St} {H : Hp} {g : Gh} (re : Rel K e σ H g) {i : Nat} {v : V} {s : Sl} (r : RepS K g v s) : Rel K ⟨e.sl.set i s, e.cs⟩ (σ.set i (some v)) H g :=
  ⟨by simp [re.len], fun j t q => by
    have q : (e.sl.set i s)[j]? = some t := q
    by_cases h : j = i
    · subst h
      have hl : j < e.sl.length := by
        have := (List.getElem?_eq_some_iff.mp q).1
        simpa using this
      rw [List.getElem?_set_self hl] at q
      cases q
      exact .inr ⟨v, by rw [List.getElem?_set_self (by rw [← re.len]; exact hl)], r⟩
    · rw [List.getElem?_set_ne (Ne.symm h)] at q
      rcases re.slt j t q with z | ⟨w, h1, h2⟩
      · exact .inl z
      · exact .inr ⟨w, by rw [List.getElem?_set_ne (Ne.symm h)]; exact h1, h2⟩, re.sto⟩
theorem bnd_ok {α β : Type} {m : M α} {f : α → M β} {e e' : En} {b : β} (h : bnd m f e = .ok b e') : ∃ a e1, m e = .ok a e1 ∧ f a e1 = .ok b e' := by
  unfold bnd at h
  cases hm : m e with
  | ok a e1 => rw [hm] at h; exact ⟨a, e1, rfl, h⟩
  | exc x e1 => rw [hm] at h; cases h
  | stuck => rw [hm] at h; cases h
theorem req_ok {β : Type} {c : Bool} {m : M β} {e e' : En} {b : β} (h : req c m e = .ok b e') : c = true ∧ m e = .ok b e' := by
  cases c with
  | true => exact ⟨rfl, h⟩
  | false => cases h
section
variable {X : Cx} {C : Nat → Addr} {pos : Pos}
theorem dg_name {i : Nat} {x : Str} (hN : X.N.Nodup) (hi : X.N[i]? = some x) (hx : Loc X.env.scope x) (hf : X.fn x = true ∨ X.env.scope.names.lookup x = some .local) : PG X (.Name x pos) (tG X.K (.v i)) := by
  have h := pg_name (X := X) (pos := pos) hN hi hx hf
  refine ⟨fun pins s σ H v u Q I r q => ?_⟩
  refine h.run pins s σ H v u Q I r ?_
  obtain ⟨e, g, d, re, dr, e', hb, k⟩ := q
  cases hb
  refine k _ (re.set (s := .val d) dr) ⟨by simp, fun j hj => ?_⟩
  rw [List.getElem?_set_ne]
  intro z
  exact hj (by simp [tvs, z])
theorem dgs_nil : PGs X [] (tGs X.K []) := by
  refine ⟨fun pins s σ H vs us Q I r q => ?_⟩
  refine pgs_nil.run pins s σ H vs us Q I r ?_
  obtain ⟨e, g, ds, re, dr, e', hb, k⟩ := q
  cases dr with
  | nil => cases hb; exact ⟨rfl, k σ re (Ag.refl _ _)⟩
  | cons a t => cases hb
theorem assign_cons {e : Expr} {es : List Expr} {env : Env} (h : nst e = true) : (assignEach (e :: es) env).map (·.2) = assign e env :: (assignEach es env).map (·.2) := by
  cases e <;> first | rfl | cases h
theorem assign_star {env : Env} : ∀ {es : List Expr}, es.all nst = true → (assignEach es env).findIdx? (·.1) = none ∧ (assignEach es env).length = es.length
  | [], _ => ⟨rfl, rfl⟩
  | e :: es, h => by
    rw [List.all_cons, Bool.and_eq_true] at h
    obtain ⟨h1, h2⟩ := assign_star (env := env) h.2
    have : assignEach (e :: es) env = (false, assign e env) :: assignEach es env := by
      cases e <;> first | rfl | cases h.1
    rw [this]
    refine ⟨?_, by simp [h2]⟩
    rw [List.findIdx?_cons]
    simp [h1]
theorem dgs_cons {a : Expr} {es : List Expr} {t : Tg} {l : List Tg} (hs : nst a = true) (h1 : PG X a (tG X.K t)) (h2 : PGs X es (tGs X.K l)) : PGs X (a :: es) (tGs X.K (t :: l)) := by
  refine ⟨fun pins s σ H vs us Q I r q => ?_⟩
  refine (pgs_cons h1 h2 (assign_cons hs)).run pins s σ H vs us Q I r ?_
  obtain ⟨e, g, ds, re, dr, e', hb, k⟩ := q
  cases dr with
  | nil => cases hb
  | @cons v vr d dr' a1 t1 =>
    obtain ⟨u, e1, hb1, hb2⟩ := bnd_ok hb
    refine ⟨v, vr, rfl, e, g, d, re, a1, e1, hb1, fun σ1 re1 ag1 => ?_⟩
    exact ⟨e1, g, dr', re1, t1, e', hb2, fun σ2 re2 ag2 => k σ2 re2 (ag1.trans ag2)⟩
theorem dg_tup {es : List Expr} {k : Nat} {l : List Tg} (hc : X.calm = true) (hs : es.all nst = true) (h : PGs X es (tGs X.K l)) (hl : es.length = l.length) : PG X (.Tuple es k pos) (tG X.K (.t l)) := by
  have hh := pg_tup (X := X) (k := k) (pos := pos) (n := es.length) hc h (assign_star hs).2 (assign_star hs).1
  have hh2 := pg_lst (X := X) (k := k) (pos := pos) (n := es.length) hc h (assign_star hs).2 (assign_star hs).1
  refine ⟨fun pins s σ H v u Q I r q => ?_⟩
  obtain ⟨e, g, d, re, dr, e', hb, kk⟩ := q
  have hlen : ∀ (l : List Tg) (ds : List D) (e e' : En), bindTs l ds e = .ok () e' → ds.length = l.length := by
    intro l
    induction l with
    | nil => intro ds e e' h; cases ds with | nil => rfl | cons _ _ => cases h
    | cons t l ih =>
      intro ds e e' h
      cases ds with
      | nil => cases h
      | cons d ds =>
        obtain ⟨_, e1, _, h2⟩ := bnd_ok h
        simp [ih ds e1 e' h2]
  cases dr with
  | @tup a xs ds h1 t1 =>
    refine hh.run pins s σ H _ u Q I r ?_
    exact ⟨a, xs, rfl, re.sto.gh.seqT h1, by rw [t1.length, hlen l ds e e' hb, hl], e, g, ds, re, t1, e', hb, kk⟩
  | @lst a xs ds h1 t1 =>
    refine hh2.run pins s σ H _ u Q I r ?_
    exact ⟨a, xs, rfl, SqL.of (re.sto.gh _ _ h1), by rw [t1.length, hlen l ds e e' hb, hl], e, g, ds, re, t1, e', hb, kk⟩
  | _ => cases hb
end

/-! ### what is walked -/
/-- what comes at a turn -/
def YD (K : PySem.W.Frag) (G : Hp) (ds : List D) : Nat → Hp → V → Hp → Prop := fun i H x H' => ∃ d, ds[i]? = some d ∧ ((H' = H ∧ Dr K G x d) ∨ ∃ T vs es, x = .ref T ∧ H T = none ∧ H' = upd H T (.tup vs) ∧ d = .tup es ∧ Drs K G vs es)
def RI (K : PySem.W.Frag) : Gh → It → List D → Prop := fun g J ds => Walk J ds.length (fun H => LeH g.G H) (YD K g.G ds)
abbrev DI (X : Cx) (C : Nat → Addr) (W : WX) (tg it : Expr) (m : M (List D)) : Prop := PI X tg it (fun σ H R => tM X.K C (RI X.K) W m σ H R)
theorem _root_.L2.PI.imp {X : Cx} {tg it : Expr} {w w' : TI} (h : PI X tg it w) (k : ∀ σ H R, w' σ H R → w σ H R) : PI X tg it w' := ⟨fun pins s σ H R I q => h.run pins s σ H R I (k σ H R q)⟩
theorem _root_.L2.PI.or {X : Cx} {tg it : Expr} {w w' : TI} (h : PI X tg it w) (h' : PI X tg it w') : PI X tg it (fun σ H R => w σ H R ∨ w' σ H R) :=
  ⟨fun pins s σ H R I q => q.elim (fun q => h.run pins s σ H R I q) fun q => h'.run pins s σ H R I q⟩
section
variable {K : PySem.W.Frag} {G : Hp}
theorem wk_list {a : Addr} {xs : List V} {ds : List D} (h : SqL K G a xs) (t : Drs K G xs ds) : Walk (Itl K a) ds.length (fun H => LeH G H) (YD K G ds) := by
  rw [← t.length]
  refine walk_list.mono (fun H l => l.seqL h) fun i H x H' hi l y => ?_
  obtain ⟨rfl, hx⟩ := y
  obtain ⟨d, h1, h2⟩ := t.get' hx
  exact ⟨d, h1, .inl ⟨rfl, h2⟩⟩
theorem wk_tup {a : Addr} {xs : List V} {ds : List D} (h : SqT K G a xs) (t : Drs K G xs ds) : Walk (Itt K a) ds.length (fun H => LeH G H) (YD K G ds) := by
  rw [← t.length]
  refine walk_tup.mono (fun H l => l.seqT h) fun i H x H' hi l y => ?_
  obtain ⟨rfl, hx⟩ := y
  obtain ⟨d, h1, h2⟩ := t.get' hx
  exact ⟨d, h1, .inl ⟨rfl, h2⟩⟩
theorem wk_range {lo : Int} {n : Nat} : Walk (Itr lo n) (rangeL lo n).length (fun H => LeH G H) (YD K G (rangeL lo n)) := by
  have e : (rangeL lo n).length = n := by simp [rangeL]
  rw [e]
  refine walk_range.mono (fun _ _ => trivial) fun i H x H' hi l y => ?_
  obtain ⟨rfl, rfl⟩ := y
  refine ⟨.int (lo + i), ?_, .inl ⟨rfl, .int _⟩⟩
  unfold rangeL
  rw [List.getElem?_map, List.getElem?_range hi]; rfl
theorem wk_rangeC {lo c : Int} {n : Nat} : Walk (Itc lo c n) (rangeC lo c n).length (fun H => LeH G H) (YD K G (rangeC lo c n)) := by
  have e : (rangeC lo c n).length = n := by simp [rangeC]
  rw [e]
  refine walk_rangeC.mono (fun _ _ => trivial) fun i H x H' hi l y => ?_
  obtain ⟨rfl, rfl⟩ := y
  refine ⟨.int (lo + (i : Nat) * c), ?_, .inl ⟨rfl, .int _⟩⟩
  unfold rangeC
  rw [List.getElem?_map, List.getElem?_range hi]; rfl
theorem enumL_get : ∀ {xs : List D} {k i : Nat} {d : D}, xs[i]? = some d → (enumL k xs)[i]? = some (.tup [.int (k + i : Nat), d])
  | [], _, _, _, h => by simp at h
  | x :: r, k, 0, d, h => by simp at h; subst h; rfl
  | x :: r, k, i + 1, d, h => by
    rw [List.getElem?_cons_succ] at h
    have := enumL_get (k := k + 1) h
    show (enumL (k + 1) r)[i]? = _
    rw [this]
    have e : k + 1 + i = k + (i + 1) := by omega
    rw [e]
theorem enumL_len : ∀ (xs : List D) (k : Nat), (enumL k xs).length = xs.length
  | [], _ => rfl
  | x :: r, k => by show (enumL (k + 1) r).length + 1 = _; rw [enumL_len r (k + 1)]; rfl
theorem wk_enum {a : Addr} {xs : List V} {ds : List D} (h : SqL K G a xs) (t : Drs K G xs ds) : Walk (Ite K a) (enumL 0 ds).length (fun H => LeH G H) (YD K G (enumL 0 ds)) := by
  rw [enumL_len, ← t.length]
  refine walk_enum.mono (fun H l => l.seqL h) fun i H x H' hi l y => ?_
  obtain ⟨T, p, q, rfl, hT, rfl, hp, hq⟩ := y
  obtain ⟨d, h1, h2⟩ := t.get' hq
  have e := enumL_get (k := 0) h1
  cases hp
  refine ⟨_, e, .inr ⟨T, _, _, rfl, hT, rfl, rfl, .cons ?_ (.cons h2 .nil)⟩⟩
  rw [Nat.zero_add]
  exact .int _
theorem zipL_len : ∀ (xs ys : List D), (zipL xs ys).length = min xs.length ys.length
  | [], ys => by simp [zipL]
  | _ :: _, [] => by simp [zipL]
  | x :: xs, y :: ys => by show (zipL xs ys).length + 1 = _; rw [zipL_len xs ys]; simp
theorem zipL_get : ∀ {xs ys : List D} {i : Nat} {d d' : D}, xs[i]? = some d → ys[i]? = some d' → (zipL xs ys)[i]? = some (.tup [d, d'])
  | [], _, _, _, _, h, _ => by simp at h
  | _ :: _, [], _, _, _, _, h => by simp at h
  | x :: xs, y :: ys, 0, d, d', h, h' => by simp at h h'; subst h; subst h'; rfl
  | x :: xs, y :: ys, i + 1, d, d', h, h' => by
    show (zipL xs ys)[i]? = _
    exact zipL_get (i := i) (by simpa using h) (by simpa using h')
theorem wk_zip {a b : Addr} {xs ys : List V} {ds es : List D} (h : SqL K G a xs) (t : Drs K G xs ds) (h' : SqL K G b ys) (t' : Drs K G ys es) : Walk (Itz K a b) (zipL ds es).length (fun H => LeH G H) (YD K G (zipL ds es)) := by
  rw [zipL_len, ← t.length, ← t'.length]
  refine (walk_zip rfl).mono (fun H l => ⟨l.seqL h, l.seqL h'⟩) fun i H x H' hi l y => ?_
  obtain ⟨T, p, q, rfl, hT, rfl, hp, hq⟩ := y
  obtain ⟨d, h1, h2⟩ := t.get' hp
  obtain ⟨d', h1', h2'⟩ := t'.get' hq
  exact ⟨_, zipL_get h1 h1', .inr ⟨T, _, _, rfl, hT, rfl, rfl, .cons h2 (.cons h2' .nil)⟩⟩
theorem sqS_le {t : Bool} {a : Addr} {xs : List V} {H : Hp} (l : LeH G H) (h : SqS t K G a xs) : SqS t K H a xs := by
  cases t
  · exact l.seqL h
  · exact l.seqT h
theorem wk_mz {t u : Bool} {a b : Addr} {xs ys : List V} {ds es : List D} (h : SqS t K G a xs) (tr : Drs K G xs ds) (h' : SqS u K G b ys) (tr' : Drs K G ys es) : Walk (ItM K t u a b) (zipL ds es).length (fun H => LeH G H) (YD K G (zipL ds es)) := by
  rw [zipL_len, ← tr.length, ← tr'.length]
  refine (walk_mz rfl).mono (fun H l => ⟨sqS_le l h, sqS_le l h'⟩) fun i H x H' hi l y => ?_
  obtain ⟨T, p, q, rfl, hT, rfl, hp, hq⟩ := y
  obtain ⟨d, h1, h2⟩ := tr.get' hp
  obtain ⟨d', h1', h2'⟩ := tr'.get' hq
  exact ⟨_, zipL_get h1 h1', .inr ⟨T, _, _, rfl, hT, rfl, rfl, .cons h2 (.cons h2' .nil)⟩⟩
theorem wk_str {z : List Nat} : Walk (Its ⟨z.toArray⟩) (z.map fun c => D.str [c]).length (fun H => LeH G H) (YD K G (z.map fun c => D.str [c])) := by
  have e : (z.map fun c => D.str [c]).length = (⟨z.toArray⟩ : Str).cps.size := by simp
  rw [e]
  refine walk_str.mono (fun _ _ => trivial) fun i H x H' hi l y => ?_
  obtain ⟨rfl, c, hc, rfl⟩ := y
  refine ⟨.str [c], ?_, .inl ⟨rfl, .str [c]⟩⟩
  have hc : z[i]? = some c := by simpa using hc
  rw [List.getElem?_map, hc]; rfl
end
section
variable {X : Cx} {C : Nat → Addr} {W : WX} {tg a b c : Expr} {ma mb mc : M Sl} {pos p : Pos}
/-- a computation that ends well -/
theorem Post.ok {α ρ : Type} {K : PySem.W.Frag} {R : Gh → ρ → α → Prop} {σ : St} {g : Gh} {H : Hp} {e e' : En} {m : M α} {x : α} {Q : ρ → Hp → Prop} (h : Post K C R W σ g H (m e) Q) (hm : m e = .ok x e') : ∀ r g' H', Rel K e' σ H' g' → Stp g H g' H' → R g' r x → Q r H' := by
  rw [hm] at h; exact h
/-- data is wanted of an expression, then something of it alone -/
theorem data_of {β : Type} {f : D → M β} {R2 : Gh → It → β → Prop} {σ : St} {H : Hp} {R : It → Hp → Prop} (h : tM X.K C R2 W (bnd ma fun s => bnd (dOf s) f) σ H R) (T : D → V → Hp → Prop)
    (k : ∀ (v : V) (H1 : Hp) (d : D) (e1 : En) (g1 : Gh), Rel X.K e1 σ H1 g1 → Dr X.K g1.G v d → Post X.K C R2 W σ g1 H1 (f d e1) R → T d v H1) :
    (∃ d, tM X.K C (RepS X.K) W ma σ H (T d) ∧ ∃ e, f d e ≠ .stuck) ∨ tM X.K C (RepS X.K) W ma σ H (fun _ _ => False) := by
  obtain ⟨e, g, re, pp⟩ := h
  unfold bnd at pp
  cases hm : ma e with
  | stuck => rw [hm] at pp; exact pp.elim
  | exc x e1 => rw [hm] at pp; exact .inr ⟨e, g, re, by rw [hm]; exact pp⟩
  | ok s e1 =>
    rw [hm] at pp
    simp only at pp
    cases hd : dOf s e1 with
    | stuck => rw [hd] at pp; exact pp.elim
    | exc x e2 => exact (dOf_noexc hd).elim
    | ok d e2 =>
      rw [hd] at pp
      simp only at pp
      refine .inl ⟨d, ⟨e, g, re, ?_⟩, e2, fun z => ?_⟩
      · rw [hm]
        intro v g' H' re' st rv
        obtain ⟨g2, re2, st2, dr, _, _⟩ := re'.d rv hd
        exact k v H' d e2 g2 re2 dr (pp.shift (st.trans st2))
      · rw [z] at pp; exact pp
theorem di_seq (ha : DE X C W a ma) : DI X C W tg a (bnd ma fun s => bnd (dOf s) seqM) := by
  refine (((pi_list (tg := tg) ha).or (pi_tup ha)).or (pi_str ha)).imp fun σ H R h => ?_
  have key := data_of h (fun d v H1 => match d with
    | .lst _ => ∃ a, v = .ref a ∧ (∃ xs, SqL X.K H1 a xs) ∧ R (Itl X.K a) H1
    | .frl _ => ∃ a, v = .ref a ∧ (∃ xs, SqL X.K H1 a xs) ∧ R (Itl X.K a) H1
    | .tup _ => ∃ a, v = .ref a ∧ (∃ xs, SqT X.K H1 a xs) ∧ R (Itt X.K a) H1
    | .str _ => ∃ z, v = .str z ∧ R (Its z) H1
    | _ => False) fun v H1 d e1 g1 re1 dr pp => by
      cases dr with
      | lst h1 t1 => exact ⟨_, rfl, ⟨_, SqL.of (re1.sto.gh _ _ h1)⟩, pp _ g1 H1 re1 (Stp.refl _ _) (wk_list (SqL.of h1) t1)⟩
      | frl h1 t1 => exact ⟨_, rfl, ⟨_, re1.sto.gh.seqL h1⟩, pp _ g1 H1 re1 (Stp.refl _ _) (wk_list h1 t1)⟩
      | tup h1 t1 => exact ⟨_, rfl, ⟨_, re1.sto.gh.seqT h1⟩, pp _ g1 H1 re1 (Stp.refl _ _) (wk_tup h1 t1)⟩
      | str z => exact ⟨_, rfl, pp _ g1 H1 re1 (Stp.refl _ _) wk_str⟩
      | _ => exact pp.elim
  rcases key with ⟨d, hd, e, ne⟩ | hf
  · cases d with
    | lst xs => exact .inl (.inl hd)
    | frl xs => exact .inl (.inl hd)
    | tup xs => exact .inl (.inr hd)
    | str z => exact .inr hd
    | _ => exact absurd rfl ne
  · exact .inl (.inl (hf.mono fun _ _ z => z.elim))
theorem rng_of {i : Int} (h : rngOk i = true) : -(2 ^ 62) ≤ i ∧ i < 2 ^ 62 := by
  unfold rngOk at h
  simp only [Bool.and_eq_true, decide_eq_true_eq] at h
  omega
theorem di_rng1 (hg : Gl X "range") (hm : X.mg "range" = none) (h1 : nst a = true) (ha : DE X C W a ma) : DI X C W tg (.Call (.Name "range" p) [a] [] pos) (bnd ma fun s => bnd (intM s) fun n => req (rngOk n) (ret (rangeL 0 n.toNat))) := by
  refine (pi_range1 (tg := tg) hg hm (pa_cons ha pa_nil (star_cons h1)) (star_cons h1)).imp fun σ H R h => ?_
  refine h.bind fun v H1 s e1 g1 re1 rv pp => ?_
  obtain ⟨i, rfl, pp⟩ := intM_of rv pp
  obtain ⟨c, pp⟩ := Post.req pp
  obtain ⟨c1, c2⟩ := rng_of c
  exact ⟨i, rfl, c1, c2, pp _ g1 H1 re1 (Stp.refl _ _) wk_range⟩
theorem di_rng2 (hg : Gl X "range") (hm : X.mg "range" = none) (h1 : nst a = true) (h2 : nst b = true) (ha : DE X C W a ma) (hb : DE X C W b mb) :
    DI X C W tg (.Call (.Name "range" p) [a, b] [] pos) (bnd ma fun s => bnd mb fun t => bnd (intM s) fun i => bnd (intM t) fun j => req (rngOk i && rngOk j) (ret (rangeL i (j - i).toNat))) := by
  refine (pi_range2 (tg := tg) hg hm (pa_cons ha (pa_cons hb pa_nil (star_cons h2)) (star_cons h1)) (by rw [star_cons h1, star_cons h2]; rfl) (star_cons h2)).imp fun σ H R h => ?_
  refine h.bind fun v H1 s e1 g1 re1 rv pp => Post.bindTo re1 pp fun w H2 t e2 g2 re2 st2 rw p2 => ?_
  obtain ⟨i, rfl, p2⟩ := intM_of (rv.mono st2.le) p2
  obtain ⟨j, rfl, p2⟩ := intM_of rw p2
  obtain ⟨c, p2⟩ := Post.req p2
  rw [Bool.and_eq_true] at c
  obtain ⟨c1, c2⟩ := rng_of c.1
  obtain ⟨c3, c4⟩ := rng_of c.2
  exact ⟨i, j, rfl, ⟨c1, c2, c3, c4⟩, p2 _ g2 H2 re2 (Stp.refl _ _) wk_range⟩
theorem di_rng3 {c0 : Int} (hg : Gl X "range") (hm : X.mg "range" = none) (h1 : nst a = true) (h2 : nst b = true) (h3 : nst c = true) (ha : DE X C W a ma) (hb : DE X C W b mb) (hc : PE X c (tC (.int c0))) :
    DI X C W tg (.Call (.Name "range" p) [a, b, c] [] pos) (bnd ma fun s => bnd mb fun t => bnd (intM s) fun i => bnd (intM t) fun j => req (rngOk i && rngOk j && decide (c0 = -1)) (ret (rangeC i c0 (i - j).toNat))) := by
  refine (pi_range3 (tg := tg) hg hm (pa_cons ha (pa_cons hb (pa_cons hc pa_nil (star_cons h3)) (star_cons h2)) (star_cons h1)) (star_cons h1) (star_any (by simp [h2, h3]))).imp fun σ H R h => ?_
  refine h.bind fun v H1 s e1 g1 re1 rv pp => Post.bindTo re1 pp fun w H2 t e2 g2 re2 st2 rw p2 => ?_
  obtain ⟨i, rfl, p2⟩ := intM_of (rv.mono st2.le) p2
  obtain ⟨j, rfl, p2⟩ := intM_of rw p2
  obtain ⟨cc, p2⟩ := Post.req p2
  rw [Bool.and_eq_true, Bool.and_eq_true] at cc
  obtain ⟨c1, c2⟩ := rng_of cc.1.1
  obtain ⟨c3, c4⟩ := rng_of cc.1.2
  have e : c0 = -1 := of_decide_eq_true cc.2
  subst e
  exact ⟨i, j, -1, _, rfl, RgC.neg c1 c2 c3 c4, p2 _ g2 H2 re2 (Stp.refl _ _) wk_rangeC⟩
theorem di_enm {elts : List Expr} {kk : Nat} {tpos : Pos} (hg : Gl X "enumerate") (hm : X.mg "enumerate" = none) (h1 : nst a = true) (ha : DE X C W a ma) :
    DI X C W (.Tuple elts kk tpos) (.Call (.Name "enumerate" p) [a] [] pos) (bnd ma fun s => bnd (dOf s) enmM) := by
  refine (pi_enum hg hm (pa_cons ha pa_nil (star_cons h1)) (star_cons h1)).imp fun σ H R h => ?_
  have key := data_of h (fun d v H1 => ∃ a xs, [v] = [V.ref a] ∧ SqL X.K H1 a xs ∧ R (Ite X.K a) H1) fun v H1 d e1 g1 re1 dr pp => by
      cases dr with
      | lst h1 t1 => exact ⟨_, _, rfl, SqL.of (re1.sto.gh _ _ h1), pp _ g1 H1 re1 (Stp.refl _ _) (wk_enum (SqL.of h1) t1)⟩
      | _ => exact pp.elim
  rcases key with ⟨d, hd, e, ne⟩ | hf
  · exact hd
  · exact hf.mono fun _ _ z => z.elim
theorem di_zip {elts : List Expr} {kk : Nat} {tpos : Pos} (hg : Gl X "zip") (hm : X.mg "zip" = none) (h1 : nst a = true) (h2 : nst b = true) (ha : DE X C W a ma) (hb : DE X C W b mb) :
    DI X C W (.Tuple elts kk tpos) (.Call (.Name "zip" p) [a, b] [] pos) (bnd ma fun s => bnd mb fun t => bnd (dOf s) fun x => bnd (dOf t) fun y => zipM x y) := by
  refine (pi_mz hg hm (pa_cons ha (pa_cons hb pa_nil (star_cons h2)) (star_cons h1)) (star_cons h1) (star_any (by simp [h2]))).imp fun σ H R h => ?_
  refine h.bind fun v H1 s e1 g1 re1 rv pp => Post.bindTo re1 pp fun w H2 t e2 g2 re2 st2 rw p2 => ?_
  obtain ⟨x, e3, g3, re3, st3, dx, p3⟩ := Post.d re2 (rv.mono st2.le) p2
  obtain ⟨y, e4, g4, re4, st4, dy, p4⟩ := Post.d re3 (rw.mono st3.le) p3
  have dx := dx.mono st4.le.le
  cases dx with
  | lst h1 t1 =>
    cases dy with
    | lst h2 t2 => exact ⟨false, false, _, _, _, _, rfl, SqL.of (re4.sto.gh _ _ h1), SqL.of (re4.sto.gh _ _ h2), p4 _ g4 H2 re4 (Stp.refl _ _) (wk_mz (t := false) (u := false) (SqL.of h1) t1 (SqL.of h2) t2)⟩
    | tup h2 t2 => exact ⟨false, true, _, _, _, _, rfl, SqL.of (re4.sto.gh _ _ h1), re4.sto.gh.seqT h2, p4 _ g4 H2 re4 (Stp.refl _ _) (wk_mz (t := false) (u := true) (SqL.of h1) t1 h2 t2)⟩
    | _ => exact p4.elim
  | tup h1 t1 =>
    cases dy with
    | lst h2 t2 => exact ⟨true, false, _, _, _, _, rfl, re4.sto.gh.seqT h1, SqL.of (re4.sto.gh _ _ h2), p4 _ g4 H2 re4 (Stp.refl _ _) (wk_mz (t := true) (u := false) h1 t1 (SqL.of h2) t2)⟩
    | tup h2 t2 => exact ⟨true, true, _, _, _, _, rfl, re4.sto.gh.seqT h1, re4.sto.gh.seqT h2, p4 _ g4 H2 re4 (Stp.refl _ _) (wk_mz (t := true) (u := true) h1 t1 h2 t2)⟩
    | _ => exact p4.elim
  | _ => exact p4.elim
theorem di_chr (ha : DE X C W a ma) : DI X C W tg a (bnd ma chrM) := by
  refine (pi_str (tg := tg) ha).imp fun σ H R h => ?_
  refine h.bind fun v H1 s e1 g1 re1 rv pp => ?_
  cases s with
  | und => exact pp.elim
  | xc _ _ => exact pp.elim
  | cel _ => exact pp.elim
  | val d =>
    change Dr X.K g1.G v d at rv
    cases rv with
    | str z => exact ⟨_, rfl, pp _ g1 H1 re1 (Stp.refl _ _) wk_str⟩
    | _ => exact pp.elim
end
end DL
/-! DL, part k: comprehensions. -/
namespace DL
open PySem L2
variable [xb : Xb] [Tb]
section
variable {K : PySem.W.Frag} {σ : St} {g : Gh} {H : Hp} {e : En}
/-- a thing that is neither data nor a cell changes -/
theorem Rel.junk (re : Rel K e σ H g) {D : Addr} {H' : Hp} (hG : g.G D = none) (hA : D ∉ g.adr) (hH : ∀ b, b ≠ D → H' b = H b) (hD : ∀ o, H D = some o → celO o) : Rel K e σ H' g :=
  re.slots (GLe.refl g) rfl ⟨fun b o q => by
    have : b ≠ D := fun z => by rw [z, hG] at q; cases q
    rw [hH b this]; exact re.sto.gh b o q, re.sto.len, re.sto.nod, fun a ha => by
    have : a ≠ D := fun z => hA (z ▸ ha)
    rw [hH a this]; exact re.sto.thr a ha, fun k a c h1 h2 => by
    have : a ≠ D := fun z => hA (z ▸ List.mem_of_getElem? h1)
    exact (re.sto.cel k a c h1 h2).mono (GLe.refl g) (fun z => z) fun o q => by rw [hH a this]; exact q, tabs_but re.sto.tab hD hH, re.sto.gtb⟩
theorem Rel.wipe (re : Rel K e σ H g) : ∀ vs : List Nat, Rel K ⟨setAll vs e.sl, e.cs⟩ (L2.wipe σ vs) H g
  | [] => re
  | v :: vs => by
    have ih := re.wipe vs
    refine ⟨?_, fun i s q => ?_, re.sto⟩
    · show ((setAll vs e.sl).set v .und).length = ((L2.wipe σ vs).set v none).length
      rw [List.length_set, List.length_set]; exact ih.len
    · have q : ((setAll vs e.sl).set v .und)[i]? = some s := q
      by_cases h : i = v
      · subst h
        have hl : i < (setAll vs e.sl).length := by
          have := (List.getElem?_eq_some_iff.mp q).1
          simpa using this
        rw [List.getElem?_set_self hl] at q
        cases q
        exact .inl rfl
      · rw [List.getElem?_set_ne (Ne.symm h)] at q
        rcases ih.slt i s q with z | ⟨w, h1, h2⟩
        · exact .inl z
        · refine .inr ⟨w, ?_, h2⟩
          show ((L2.wipe σ vs).set v none)[i]? = _
          rw [List.getElem?_set_ne (Ne.symm h)]; exact h1
theorem wipe_in {i : Nat} : ∀ {vs : List Nat} {σ : St}, i ∈ vs → (L2.wipe σ vs)[i]? = if i < σ.length then some none else none
  | v :: vs, σ, h => by
    show ((L2.wipe σ vs).set v none)[i]? = _
    by_cases e : i = v
    · subst e
      by_cases hl : i < σ.length
      · rw [List.getElem?_set_self (by rw [wipe_length]; exact hl), if_pos hl]
      · rw [if_neg hl, List.getElem?_eq_none]; simp [wipe_length]; omega
    · rw [List.getElem?_set_ne (Ne.symm e)]
      rcases List.mem_cons.mp h with z | z
      · exact absurd z e
      · exact wipe_in z
theorem wipe_ag {vs ws : List Nat} {σ' : St} (h : Ag ws (L2.wipe σ vs) σ') (hs : ∀ i ∈ ws, i ∈ vs) : L2.wipe σ' vs = L2.wipe σ vs := by
  have hl : σ'.length = σ.length := by rw [h.1, wipe_length]
  refine List.ext_getElem? fun i => ?_
  by_cases hi : i ∈ vs
  · rw [wipe_in hi, wipe_in hi, hl]
  · rw [wipe_out hi, wipe_out hi, h.2 i fun z => hi (hs i z), wipe_out hi]
/-- the list in the making through a step -/
theorem Stp.made {g' : Gh} {H' : Hp} {D : Addr} {o : HO} (s : Stp g H g' H') (hD : H D = some o) (hA : D ∉ g.adr) (hG : g.G D = none) (ht : celO o := by exact True.intro) : H' D = some o ∧ D ∉ g'.adr ∧ g'.G D = none := by
  refine ⟨s.keep D o hD hA ht.nt, fun z => ?_, ?_⟩
  · rcases s.anew D z with y | y
    · exact hA y
    · exact y.no hD ht
  · cases z : g'.G D with
    | none => rfl
    | some u =>
      rcases s.gnew D u z with y | y | y
      · rw [hG] at y; cases y
      · exact (y.no hD ht).elim
      · exact (hA y).elim
theorem Stp.upd {g' : Gh} {H' : Hp} {D : Addr} {o : HO} (s : Stp g H g' H') (hD : H D = none) : Stp g H g' (upd H' D o) :=
  ⟨s.le, fun b u q hb ht => by rw [upd_ne (ne_of_none q hD)]; exact s.keep b u q hb ht, s.anew, s.gnew⟩
end
/-- how the made items are kept -/
structure AccR (K : PySem.W.Frag) {β : Type} (fin : Sl → M β) (R : Gh → List V → List β → Prop) : Prop where
  nil : ∀ g, R g [] []
  mono : ∀ {g g' vs l}, GLe g g' → R g vs l → R g' vs l
  step : ∀ {σ g H e e' y s b}, Rel K e σ H g → RepS K g y s → fin s e = .ok b e' → ∃ g', Rel K e' σ H g' ∧ Stp g H g' H ∧ ∀ vs l, R g vs l → vs.length = l.length ∧ R g' (vs ++ [y]) (l ++ [b])
def RR : Gh → List V → List Nat → Prop := fun g vs ids => ∃ as : List Addr, vs = as.map V.ref ∧ ids.map (fun i => g.adr[i]?) = as.map some
theorem accD {K : PySem.W.Frag} : AccR K dOf (fun g => Drs K g.G) where
  nil := fun g => .nil
  mono := fun l h => h.mono l.le
  step := fun re r h => by
    obtain ⟨g', re', st, dr, _, _⟩ := re.d r h
    exact ⟨g', re', st, fun vs l t => ⟨t.length, (t.mono st.le.le).append (.cons dr .nil)⟩⟩
theorem accN {K : PySem.W.Frag} : AccR K celK RR where
  nil := fun g => ⟨[], rfl, rfl⟩
  mono := fun {g g' vs l} le h => by
    obtain ⟨as, e1, e2⟩ := h
    have := CeAt.mono (K := K) (H := fun _ => some (.lst (as.map V.ref))) (H' := fun _ => some (.lst (as.map V.ref))) (g := ⟨fun _ => none, g.adr⟩) (g' := ⟨fun _ => none, g'.adr⟩) (a := 0) (c := .rls l) ⟨LeH.refl _, le.ad⟩ ⟨rfl, as, rfl, e2⟩ (fun z => z) (fun _ z => z)
    obtain ⟨_, as', e3, e4⟩ := this
    have : as' = as := by
      have h := HO.lst.inj (Option.some.inj e3)
      have inj : ∀ {l m : List Addr}, l.map V.ref = m.map V.ref → l = m := by
        intro l
        induction l with
        | nil => intro m h; cases m with | nil => rfl | cons _ _ => simp at h
        | cons a l ih => intro m h; cases m with | nil => simp at h | cons b m => simp at h; rw [h.1, ih (by simpa using h.2)]
      exact (inj h).symm
    subst this
    exact ⟨as', e1, e4⟩
  step := fun {σ g H e e' y s b} re r h => by
    cases s with
    | und => cases h
    | xc _ _ => cases h
    | val _ => cases h
    | cel k =>
      cases h
      obtain ⟨a, ha, rfl⟩ := r
      refine ⟨g, re, Stp.refl _ _, fun vs l t => ?_⟩
      obtain ⟨as, rfl, e2⟩ := t
      have hl : l.length = as.length := by simpa using congrArg List.length e2
      exact ⟨by rw [List.length_map, hl], as ++ [a], by rw [List.map_append]; rfl, by rw [List.map_append, List.map_append, e2, List.map_cons, ha]; rfl⟩
section
variable {X : Cx} {C : Nat → Addr} {W : WX} {β : Type} {fin : Sl → M β} {R : Gh → List V → List β → Prop}
abbrev Wf : WX := fun _ _ _ _ => False
/-- the walked list is as it was -/
def Pe (c : Option Nat × List D) (e : En) : Prop := ∀ k, c.1 = some k → e.cs[k]? = some (.lst c.2)
theorem chk_ok' {α : Type} {c : Option Nat × List D} {a b : α} {e e' : En} (h : chk c a e = .ok b e') : b = a ∧ e' = e ∧ Pe c e := by
  obtain ⟨c1, c2⟩ := c
  cases c1 with
  | none => cases h; exact ⟨rfl, rfl, fun k z => by cases z⟩
  | some k =>
    unfold chk at h
    simp only at h
    split at h
    · cases h; exact ⟨rfl, rfl, fun k' z => by cases z; assumption⟩
    · cases h
theorem chk_noexc {α : Type} {c : Option Nat × List D} {a : α} {e e' : En} {x : Xn} (h : chk c a e = .exc x e') : False := by
  obtain ⟨c1, c2⟩ := c
  cases c1 with
  | none => cases h
  | some k =>
    unfold chk at h
    simp only at h
    split at h <;> cases h
theorem chk_n {α : Type} (m : M α) (ds : List D) : bnd m (chk (none, ds)) = m := by
  funext e
  show (match m e with | .ok a e' => ret a e' | .exc x e' => .exc x e' | .stuck => .stuck) = m e
  cases m e <;> rfl
/-- walked while it stands -/
def RIc (K : PySem.W.Frag) : Gh → It → (Option Nat × List D) → Prop := fun g1 J c => ∃ (P : Hp → Prop) (Y : Nat → Hp → V → Hp → Prop), Walk J c.2.length P Y ∧ ∀ e σ g H, Rel K e σ H g → GLe g1 g → Pe c e → P H ∧ ∀ i x H', Y i H x H' → YD K g.G c.2 i H x H'
theorem RIc.of {K : PySem.W.Frag} {g : Gh} {J : It} {ds : List D} (h : RI K g J ds) : RIc K g J (none, ds) :=
  ⟨_, _, h, fun e σ g' H re le _ => ⟨le.le.trans re.sto.gh, fun i x H' y => by
    obtain ⟨d, h1, h2⟩ := y
    refine ⟨d, h1, ?_⟩
    rcases h2 with ⟨h2, h3⟩ | ⟨T, vs, es, h2, h3, h4, h5, h6⟩
    · exact .inl ⟨h2, h3.mono le.le⟩
    · exact .inr ⟨T, vs, es, h2, h3, h4, h5, h6.mono le.le⟩⟩⟩
theorem RIc.cel {K : PySem.W.Frag} {g : Gh} {k : Nat} {a : Addr} {ds : List D} (h : g.adr[k]? = some a) : RIc K g (Itl K a) (some k, ds) := by
  refine ⟨fun H => ∃ vs, H a = some (.lst vs) ∧ vs.length = ds.length, fun i H x H' => H' = H ∧ ∃ vs, H a = some (.lst vs) ∧ vs[i]? = some x, ⟨?_, ?_, ?_⟩, ?_⟩
  · rintro i H hi ⟨vs, h1, h2⟩
    exact ⟨vs, vs[i]'(by rw [h2]; exact hi), SqL.of h1, by simp⟩
  · rintro H ⟨vs, h1, h2⟩
    exact ⟨vs, SqL.of h1, by rw [h2]; exact Nat.le_refl _⟩
  · rintro i H x H' hi ⟨vs, h1, h2⟩ y
    exact ⟨y.1, vs, h1, y.2 vs (SqL.of h1)⟩
  · intro e σ g' H re le hp
    obtain ⟨n, ys, hy, t1⟩ := re.sto.cel k a _ (le.get h) (hp k rfl)
    refine ⟨⟨ys, hy, t1.length⟩, ?_⟩
    rintro i x H' ⟨rfl, vs, h1, h2⟩
    rw [hy] at h1
    cases h1
    obtain ⟨d, h3, h4⟩ := t1.get' h2
    exact ⟨d, h3, .inl ⟨rfl, h4⟩⟩
theorem comp_of (A : AccR X.K fin R) {σ : St} {H1 : Hp} {g1 : Gh} {e1 e2 : En} {vs : List Nat} {tg : Tg} {cond : M Bool} {melt : M Sl} {c : Option Nat × List D} {l : List β} {J : It} {Q : VK} {D : Addr} (re1 : Rel X.K e1 σ H1 g1)
    (hw : RIc X.K g1 J c) (hp1 : Pe c e1) (hD : H1 D = none) (hv : ∀ i ∈ tvs tg, i ∈ vs) (hc : compG vs tg (bnd cond (chk c)) (bnd (bnd melt fin) (chk c)) c.2 [] e1 = .ok l e2)
    (hQ : ∀ g H accV, Rel X.K ⟨e1.sl, e2.cs⟩ σ H g → Stp g1 H1 g H → H D = some (.lst accV) → g.G D = none → D ∉ g.adr → R g accV l → Q (.ref D) H) :
    ∃ Wd : Nat → Nat → Hp → Prop, (∃ m, Wd 0 m (upd H1 D (.lst []))) ∧ ∀ i m H, Wd i m H →
      (J.stop i H ∧ Q (.ref D) H) ∨ (J.go i H ∧ ∃ Nx : Hp → Prop, (∀ H', Nx H' → ∃ m', m' < m ∧ Wd (i + 1) m' H') ∧ ∀ x H', J.yld i H x H' → tG X.K tg x (L2.wipe σ vs) H' fun σ2 H2 => L2.wipe σ2 vs = L2.wipe σ vs ∧ tM X.K C RB Wf cond σ2 H2 fun b H3 =>
        if b = true then tM X.K C (RepS X.K) Wf melt σ2 H3 fun y H4 => ∃ acc, H4 D = some (.lst acc) ∧ acc.length < sizeLine ∧ Nx (upd H4 D (.lst (acc ++ [y]))) else Nx H3) := by
  have gD : g1.G D = none := re1.gfree hD
  have aD : D ∉ g1.adr := re1.afree hD
  obtain ⟨P, Y, hw, hPY⟩ := hw
  refine lc_it hw (Qd := Q (.ref D)) (fun i H => ∃ (ei : En) (gi : Gh) (accV : List V) (acc : List β), Rel X.K ⟨setAll vs ei.sl, ei.cs⟩ (L2.wipe σ vs) H gi ∧ Stp g1 H1 gi H ∧ H D = some (.lst accV) ∧ gi.G D = none ∧ D ∉ gi.adr ∧ R gi accV acc ∧ Pe c ei ∧
      compG vs tg (bnd cond (chk c)) (bnd (bnd melt fin) (chk c)) (c.2.drop i) acc ei = .ok l e2) ?_ ?_ ?_ ?_
  · refine ⟨e1, g1, [], [], (re1.junk (H' := upd H1 D (.lst [])) gD aD (fun b hb => upd_ne hb) fun o q => by rw [hD] at q; cases q).wipe vs, (Stp.refl g1 H1).upd hD, upd_same, gD, aD, A.nil _, hp1, ?_⟩
    rw [List.drop_zero]; exact hc
  · rintro i H hi ⟨ei, gi, accV, acc, rel, st, _, _, _, _, hpe, _⟩
    exact (hPY _ _ gi H rel st.le hpe).1
  · rintro i x H H' hi ⟨ei, gi, accV, acc, rel, st, hH, hG, hA, hR, hpe, hcomp⟩ hyy
    obtain ⟨d, hd, hy⟩ := (hPY _ _ gi H rel st.le hpe).2 i x H' hyy
    have hdrop : c.2.drop i = d :: c.2.drop (i + 1) := by
      rw [List.drop_eq_getElem_cons hi]
      congr 1
      have := (List.getElem?_eq_some_iff.mp hd).2
      exact this
    rw [hdrop] at hcomp
    -- the item at hand
    obtain ⟨g', rel', st', dr, hH', hG', hA', hR'⟩ : ∃ g', Rel X.K ⟨setAll vs ei.sl, ei.cs⟩ (L2.wipe σ vs) H' g' ∧ Stp g1 H1 g' H' ∧ Dr X.K g'.G x d ∧ H' D = some (.lst accV) ∧ g'.G D = none ∧ D ∉ g'.adr ∧ R g' accV acc := by
      rcases hy with ⟨rfl, dr⟩ | ⟨T, us, es, rfl, hT, rfl, rfl, t⟩
      · exact ⟨gi, rel, st, dr, hH, hG, hA, hR⟩
      · have ne : D ≠ T := ne_of_none hH hT
        obtain ⟨r2, s2⟩ := rel.newD (.tup us) hT
        obtain ⟨m1, m2, m3⟩ := s2.made hH hA hG
        exact ⟨_, r2, st.trans s2, .tup (SqT.of upd_same) (t.mono s2.le.le), m1, m3, m2, A.mono s2.le hR⟩
    obtain ⟨_, ea0, hw0, hcomp⟩ := bnd_ok hcomp
    cases hw0
    obtain ⟨_, ea, hb, hcomp⟩ := bnd_ok hcomp
    obtain ⟨b, eb, hcb, hcomp⟩ := bnd_ok hcomp
    obtain ⟨b', eb', hcb, hck⟩ := bnd_ok hcb
    obtain ⟨rfl, rfl, hpb⟩ := chk_ok' hck
    refine ⟨_, g', d, rel', dr, ea, hb, fun σ2 rel2 ag => ?_⟩
    have hwp := wipe_ag ag hv
    refine ⟨hwp, ea, g', rel2, ?_⟩
    rw [hcb]
    intro r g3 H3 rel3 st3 hr
    have hr : r = b := hr
    subst hr
    obtain ⟨n1, n2, n3⟩ := st3.made hH' hA' hG'
    cases r with
    | true =>
      rw [if_pos rfl]
      obtain ⟨bb, ed, hel, hcomp⟩ := bnd_ok hcomp
      obtain ⟨bb', ed', hel, hck2⟩ := bnd_ok hel
      obtain ⟨rfl, rfl, hpd⟩ := chk_ok' hck2
      obtain ⟨s, ec, hm, hf⟩ := bnd_ok hel
      obtain ⟨hz, hcomp⟩ := req_ok hcomp
      refine ⟨eb, g3, rel3, ?_⟩
      rw [hm]
      intro y g4 H4 rel4 st4 ry
      obtain ⟨g5, rel5, st5, hstep⟩ := A.step rel4 ry hf
      obtain ⟨o1, o2, o3⟩ := st4.made n1 n2 n3
      obtain ⟨p1, p2, p3⟩ := st5.made o1 o2 o3
      have hR4 : R g4 accV acc := A.mono (st3.le.trans st4.le) hR'
      obtain ⟨hlen, hR5⟩ := hstep _ _ hR4
      refine ⟨accV, p1, by rw [hlen, szl]; exact of_decide_eq_true hz, ed, g5, accV ++ [y], acc ++ [bb], ?_, (st'.trans (st3.trans (st4.trans st5))).upd hD, upd_same, p3, p2, hR5, hpd, hcomp⟩
      rw [← hwp]
      exact (rel5.junk (H' := upd H4 D (.lst (accV ++ [y]))) p3 p2 (fun c hc => upd_ne hc) fun o q => by rw [p1] at q; cases q; exact True.intro).wipe vs
    | false =>
      rw [if_neg Bool.false_ne_true]
      refine ⟨eb, g3, accV, acc, ?_, st'.trans st3, n1, n3, n2, A.mono st3.le hR', hpb, hcomp⟩
      rw [← hwp]
      exact rel3.wipe vs
  · rintro H ⟨ei, gi, accV, acc, rel, st, hH, hG, hA, hR, _, hcomp⟩
    rw [List.drop_length] at hcomp
    cases hcomp
    exact hQ gi H accV (re1.slots st.le rfl rel.sto) st hH hG hA hR
theorem Post.block {α β ρ : Type} {R2 : Gh → ρ → β → Prop} {σ : St} {g : Gh} {H : Hp} {e : En} {Q : ρ → Hp → Prop} {m : M α} {f : α → M β} (p : Post X.K C R2 W σ g H (bnd (blockM m) f e) Q) : ∃ l e2, m e = .ok l e2 ∧ Post X.K C R2 W σ g H (f l ⟨e.sl, e2.cs⟩) Q := by
  unfold bnd blockM at p
  cases hc : m e with
  | stuck => rw [hc] at p; exact p.elim
  | exc x e2 => rw [hc] at p; exact p.elim
  | ok l e2 => rw [hc] at p; exact ⟨l, e2, rfl, p⟩
/-- a comprehension's reading -/
theorem lc_imp {σ : St} {H : Hp} {Q : VK} {f : Nat} {vs : List Nat} {tg : Tg} {cond : M Bool} {melt : M Sl} {mi : M (List D)} (hv : ∀ i ∈ tvs tg, i ∈ vs)
    (h : tM X.K C (RepS X.K) W (bnd mi fun xs => compM f vs tg cond melt xs) σ H Q) :
    tLc (fun σ H R => tM X.K C (RI X.K) W mi σ H R) (tG X.K tg) (tM X.K C RB Wf cond) (tM X.K C (RepS X.K) Wf melt) vs σ H Q := by
  refine h.bind fun J H1 ds e1 g1 re1 ri p D hD => ?_
  by_cases hf : f = 2
  · subst hf
    have p : Post X.K C (RepS X.K) W σ g1 H1 (bnd (blockM (compG vs tg cond (bnd melt celK) ds [])) (fun ids => newC (.rls ids)) e1) Q := p
    obtain ⟨l, e2, hc, p⟩ := Post.block p
    · refine comp_of accN re1 (RIc.of ri) (fun k z => by cases z) hD hv (by rw [chk_n, chk_n]; exact hc) fun g H accV rel st hH hG hA hR => ?_
      obtain ⟨as, rfl, ty⟩ := hR
      have eH : upd (fun b => if b = D then none else H b) D (.lst (as.map V.ref)) = H := by
        funext b
        unfold upd
        split
        · rename_i z; rw [z, hH]
        · rename_i z; exact if_neg z
      have rel0 : Rel X.K ⟨e1.sl, e2.cs⟩ σ (fun b => if b = D then none else H b) g := rel.junk hG hA (fun b hb => if_neg hb) fun o q => by rw [hH] at q; cases q; exact True.intro
      have st0 : Stp g1 H1 g (fun b => if b = D then none else H b) := ⟨st.le, fun b u q hb ht => by
        show (if b = D then none else H b) = _
        rw [if_neg (ne_of_none q hD)]; exact st.keep b u q hb ht, st.anew, st.gnew⟩
      have q := Post.newR (K := X.K) (C := C) (W := W) (Q := Q) rel0 ty (Post.shift st0 p) D (if_pos rfl)
      rw [eH] at q
      exact q
  · have e3 : compM f vs tg cond melt ds = bnd (blockM (compG vs tg cond (bnd melt dOf) ds [])) fun l => newL f l := by
      unfold compM
      split
      · exact absurd rfl hf
      · rfl
    rw [e3] at p
    obtain ⟨l, e2, hc, p⟩ := Post.block p
    · refine comp_of accD re1 (RIc.of ri) (fun k z => by cases z) hD hv (by rw [chk_n, chk_n]; exact hc) fun g H accV rel st hH hG hA hR => ?_
      have eH : upd (fun b => if b = D then none else H b) D (.lst accV) = H := by
        funext b
        unfold upd
        split
        · rename_i z; rw [z, hH]
        · rename_i z; exact if_neg z
      have rel0 : Rel X.K ⟨e1.sl, e2.cs⟩ σ (fun b => if b = D then none else H b) g := rel.junk hG hA (fun b hb => if_neg hb) fun o q => by rw [hH] at q; cases q; exact True.intro
      have st0 : Stp g1 H1 g (fun b => if b = D then none else H b) := ⟨st.le, fun b u q hb ht => by
        show (if b = D then none else H b) = _
        rw [if_neg (ne_of_none q hD)]; exact st.keep b u q hb ht, st.anew, st.gnew⟩
      have q := Post.newL (K := X.K) (C := C) (W := W) (Q := Q) rel0 (Post.shift st0 p) hR D (if_pos rfl)
      rw [eH] at q
      exact q
abbrev DIc (X : Cx) (C : Nat → Addr) (W : WX) (tg it : Expr) (m : M (Option Nat × List D)) : Prop := PI X tg it (fun σ H R => tM X.K C (RIc X.K) W m σ H R)
theorem di_liv {tg a : Expr} {ma : M Sl} (ha : DE X C W a ma) : DIc X C W tg a (bnd ma livM) := by
  refine (pi_list (tg := tg) ha).imp fun σ H R h => ?_
  refine h.bind fun v H1 s e1 g1 re1 rv p => ?_
  cases s with
  | und => exact p.elim
  | xc _ _ => exact p.elim
  | val d =>
    cases d <;> first | exact p.elim | skip
    case lst xs =>
      have rv : Dr X.K g1.G v (.lst xs) := rv
      cases rv with
      | lst h1 t1 => exact ⟨_, rfl, ⟨_, SqL.of (re1.sto.gh _ _ h1)⟩, p (Itl X.K _) g1 H1 re1 (Stp.refl _ _) (RIc.of (wk_list (SqL.of h1) t1))⟩
  | cel k =>
    obtain ⟨a, ha, rfl⟩ := rv
    unfold livM at p
    simp only at p
    cases hc : e1.cs[k]? with
    | none => rw [hc] at p; exact p.elim
    | some c =>
      rw [hc] at p
      cases c <;> first | exact p.elim | skip
      case lst xs =>
        obtain ⟨n, ys, hy, t1⟩ := re1.sto.cel k a _ ha hc
        exact ⟨_, rfl, ⟨_, SqL.of hy⟩, p (Itl X.K a) g1 H1 re1 (Stp.refl _ _) (RIc.cel ha)⟩
theorem Post.chk {β ρ : Type} {R2 : Gh → ρ → β → Prop} {σ : St} {g : Gh} {H : Hp} {e : En} {Q : ρ → Hp → Prop} {c : Option Nat × List D} {f : Unit → M β} (p : Post X.K C R2 W σ g H (bnd (DL.chk c ()) f e) Q) : Pe c e ∧ Post X.K C R2 W σ g H (f () e) Q := by
  unfold bnd at p
  cases hc : DL.chk c () e with
  | stuck => rw [hc] at p; exact p.elim
  | exc x e2 => exact (chk_noexc hc).elim
  | ok l e2 =>
    obtain ⟨_, h2, h3⟩ := chk_ok' hc
    rw [hc] at p
    simp only at p
    rw [h2] at p
    exact ⟨h2 ▸ h3, p⟩
/-- a comprehension's reading, over a list that lives on -/
theorem lc_impC {σ : St} {H : Hp} {Q : VK} {f : Nat} {vs : List Nat} {tg : Tg} {cond : M Bool} {melt : M Sl} {mi : M (Option Nat × List D)} (hv : ∀ i ∈ tvs tg, i ∈ vs)
    (h : tM X.K C (RepS X.K) W (bnd mi fun c => compCM f vs tg cond melt c) σ H Q) :
    tLc (fun σ H R => tM X.K C (RIc X.K) W mi σ H R) (tG X.K tg) (tM X.K C RB Wf cond) (tM X.K C (RepS X.K) Wf melt) vs σ H Q := by
  refine h.bind fun J H1 ds e1 g1 re1 ri p D hD => ?_
  obtain ⟨hpe, p⟩ := Post.chk p
  obtain ⟨l, e2, hc, p⟩ := Post.block p
  refine comp_of accD re1 ri hpe hD hv hc fun g H accV rel st hH hG hA hR => ?_
  have eH : upd (fun b => if b = D then none else H b) D (.lst accV) = H := by
    funext b
    unfold upd
    split
    · rename_i z; rw [z, hH]
    · rename_i z; exact if_neg z
  have rel0 : Rel X.K ⟨e1.sl, e2.cs⟩ σ (fun b => if b = D then none else H b) g := rel.junk hG hA (fun b hb => if_neg hb) fun o q => by rw [hH] at q; cases q; exact True.intro
  have st0 : Stp g1 H1 g (fun b => if b = D then none else H b) := ⟨st.le, fun b u q hb ht => by
    show (if b = D then none else H b) = _
    rw [if_neg (ne_of_none q hD)]; exact st.keep b u q hb ht, st.anew, st.gnew⟩
  have q := Post.newL (K := X.K) (C := C) (W := W) (Q := Q) rel0 (Post.shift st0 p) hR D (if_pos rfl)
  rw [eH] at q
  exact q
end
end DL
/-! DL, part v: rules that the hand layer lacks. -/
namespace DL
open PySem L2 PySem.Spec PyProof.Rows
variable [xb : Xb] [Tb]
section
variable {X : Cx}
/-! ### t[::-1] -/
theorem rev_adjust (n : Nat) : Builtin.Slice.sliceAdjust none none (-1) (n : Int) = ((n : Int) - 1, -1) := by
  unfold Builtin.Slice.sliceAdjust
  have h1 : ((-1 : Int) < 0) := by omega
  simp only [h1, if_true]
theorem rev_places (n : Nat) : Builtin.Slice.slicePlaces ((n : Int) - 1) (-1) (-1) = n := by
  unfold Builtin.Slice.slicePlaces
  have h1 : ¬ ((-1 : Int) > 0) := by omega
  simp only [h1, if_false]
  by_cases h : n = 0
  · subst h; rfl
  · rw [if_pos (by omega)]
    have : (-(-1 : Int)) = 1 := by omega
    rw [this, Int.ediv_one]; omega
theorem rev_pick (xs : Array Value) : ((List.range xs.size).filterMap fun (m : Nat) => xs[(((xs.size : Int) - 1) + (m : Int) * (-1)).toNat]?).toArray = xs.toList.reverse.toArray := by
  have key : ∀ l : List Value, ((List.range l.length).filterMap fun (m : Nat) => l[(((l.length : Int) - 1) + (m : Int) * (-1)).toNat]?) = l.reverse := by
    intro l
    have e : ∀ m ∈ List.range l.length, l[(((l.length : Int) - 1) + (m : Int) * (-1)).toNat]? = l.reverse[m]? := by
      intro m hm
      have hm := List.mem_range.mp hm
      rw [List.getElem?_reverse hm]
      congr 1
      omega
    have e2 : ∀ (L : List Nat), (∀ m ∈ L, l[(((l.length : Int) - 1) + (m : Int) * (-1)).toNat]? = l.reverse[m]?) → (L.filterMap fun (m : Nat) => l[(((l.length : Int) - 1) + (m : Int) * (-1)).toNat]?) = L.filterMap fun m => l.reverse[m]? := by
      intro L
      induction L with
      | nil => intro _; rfl
      | cons a r ih =>
        intro h
        rw [List.filterMap_cons, List.filterMap_cons, h a List.mem_cons_self, ih fun m hm => h m (List.mem_cons_of_mem _ hm)]
    rw [e2 _ e]
    have e3 : ∀ q : List Value, ((List.range q.length).filterMap fun m => q[m]?) = q := by
      intro q
      refine List.ext_getElem? fun i => ?_
      have : (List.range q.length).filterMap (fun m => q[m]?) = (List.range q.length).map fun m => q.getD m .none := by
        rw [← List.filterMap_eq_map]
        have : ∀ L : List Nat, (∀ m ∈ L, m < q.length) → L.filterMap (fun m => q[m]?) = L.filterMap (some ∘ fun m => q.getD m .none) := by
          intro L
          induction L with
          | nil => intro _; rfl
          | cons a r ih =>
            intro h
            rw [List.filterMap_cons, List.filterMap_cons, ih fun m hm => h m (List.mem_cons_of_mem _ hm)]
            have ha := h a List.mem_cons_self
            simp [List.getElem?_eq_getElem ha]
        exact this _ fun m hm => List.mem_range.mp hm
      rw [this, List.getElem?_map]
      by_cases hi : i < q.length
      · rw [List.getElem?_range hi]; simp [List.getElem?_eq_getElem hi]
      · rw [List.getElem?_eq_none (by simp; omega), List.getElem?_eq_none (by omega)]; rfl
    have := e3 l.reverse
    rw [List.length_reverse] at this
    exact this
  have := key xs.toList
  simp only [Array.length_toList, Array.getElem?_toList] at this
  rw [this]
theorem getItem_tuple_rev {P : Program} {w : World} {A : Around} {E : Value → Shared → Prop} {s : Shared} {t sl : Addr} {items : Array Value} {vs : Value} {Q : Value → Shared → Prop} (ht : IsTup s.heap t items) (hs : s.heap.IsSliceOf sl .none .none vs) (ps : IsPart vs (some (-1)))
    (h : Q (.ref s.heap.objs.size) { s with heap := s.heap.push { cls := .type "tuple", data := .seq items.toList.reverse.toArray } })
    (hsz : items.size ≤ sizeLine) : wpAny (model P w) A (getItem (.ref t) (.ref sl)) Q E s := by
  have htake : sizeOk (.seq items.toList.reverse.toArray) := by
    show items.toList.reverse.toArray.size ≤ sizeLine
    rw [List.size_toArray, List.length_reverse, Array.length_toList]
    exact hsz
  obtain ⟨os, hos, hcs, hds⟩ := id hs
  have hTs : s.TypeIs (.ref sl) "slice" := ⟨os, hos, hcs⟩
  unfold getItem
  try with_reducible refine wpAny_holding ?_
  first | refine wpAny_bind (wpAny_pure ?_) | skip
  refine wpAny_bind (wpAny_sequenceKey ht.typeIs (by decide) ?_)
  refine wpAny_bind (wpAny_callSpecial?_slot (name := Str.ofString "__getitem__") ht.typeIs PyProof.Rows.slot_tuple_getitem
    (wpAny_call_entry PyProof.Rows.slot_tuple_getitem ht.typeIs entry_tuple_getitem ?_ (args_tuple_getitem _ _)))
  show wpAny _ _ (Builtin.Tuple.tupleItemsOf (.ref t) >>= _) _ _ s
  refine wpAny_bind (tupleItemsOf_ ht ?_)
  refine wpAny_bind (wpAny_typeOf hTs ?_)
  rw [if_pos (by decide)]
  have sa : ∀ {A : Around} {E : Value → Shared → Prop} {Q : Int × Int × Nat → Shared → Prop}, Q ((items.size : Int) - 1, -1, items.size) s → wpAny (model P w) A (Builtin.Slice.sliceApplied (.ref sl) (pure (items.size : Int))) Q E s := by
    intro A E Q h
    unfold Builtin.Slice.sliceApplied Builtin.Slice.sliceFields
    refine wpAny_bind (wpAny_bind (wpAny_field hos hds (x := .none) rfl (wpAny_bind (wpAny_field hos hds (x := .none) rfl (wpAny_bind (wpAny_field hos hds (x := vs) rfl (wpAny_pure ?_)))))))
    refine wpAny_bind (_root_.HT.slicePart_ ps ?_)
    show wpAny _ _ (if ((-1 : Int) == 0) = true then _ else _) _ _ s
    rw [if_neg (by decide)]
    refine wpAny_bind (slicePart_none (wpAny_bind (slicePart_none (wpAny_bind (wpAny_pure ?_)))))
    show wpAny _ _ (match Builtin.Slice.sliceAdjust none none (-1) (items.size : Int) with | (lo, hi) => pure (lo, (-1 : Int), Builtin.Slice.slicePlaces lo hi (-1))) _ _ s
    rw [rev_adjust]
    show wpAny _ _ (pure ((items.size : Int) - 1, (-1 : Int), Builtin.Slice.slicePlaces ((items.size : Int) - 1) (-1) (-1))) _ _ s
    rw [rev_places]
    exact wpAny_pure h
  refine wpAny_bind (sa ?_)
  have hno : ¬ ((((items.size : Int) - 1) == 0 && (-1 : Int) == 1 && items.size == items.size) = true) := by
    intro q
    rw [Bool.and_eq_true, Bool.and_eq_true] at q
    exact absurd q.1.2 (by decide)
  show wpAny _ _ (if (((items.size : Int) - 1) == 0 && (-1 : Int) == 1 && items.size == items.size) = true then _ else _) _ _ s
  rw [if_neg hno, rev_pick]
  first
    | exact wpAny_bind (m := Builtin.Tuple.tupleExact _) (wpAny_newObj_type (wpAny_pure ⟨_, rfl, wpAny_pure h⟩) htake)
    | exact wpAny_bind (m := Builtin.Tuple.tupleExact _) (wpAny_newObj_type (wpAny_bind (wpAny_pure (wpAny_pure ⟨_, rfl, wpAny_pure h⟩))) htake)
    | exact wpAny_bind (wpAny_bind (m := Builtin.Tuple.tupleExact _) (wpAny_newObj_type (wpAny_pure (wpAny_pure ⟨_, rfl, wpAny_pure h⟩)) htake))
    | exact wpAny_bind (wpAny_bind (m := Builtin.Tuple.tupleExact _) (wpAny_newObj_type (wpAny_pure ⟨_, rfl, wpAny_pure h⟩) htake))
def tRevT (K : PySem.W.Frag) (te : TE) : TE := fun σ H Q => te σ H fun x H1 => ∃ a xs, x = .ref a ∧ ((SqL K H1 a xs ∧ ∀ p, H1 p = none → Q (.ref p) (upd H1 p (.lst xs.reverse))) ∨ (SqT K H1 a xs ∧ ∀ p, H1 p = none → Q (.ref p) (upd H1 p (.tup xs.reverse))))
theorem pe_revT {e : Expr} {te : TE} {k : Nat} {p1 p2 p3 pos : Pos} (he : PE X e te) : PE X (.Subscript e (.Slice none none (some (.UnaryOp .USub (.Constant (.int 1) k p1) p2)) p3) pos) (tRevT X.K te) := by
  refine ⟨fun pins s σ H Q I h => ?_⟩
  refine Subscript_ (thn (he.run pins s σ H _ I h) fun v s1 ⟨x, H1, I1, r1, q1⟩ => ?_)
  obtain ⟨a, xs, ex, q⟩ := q1
  subst ex
  cases r1
  have hst : PO X (some (.UnaryOp .USub (.Constant (.int 1) k p1) p2)) (tPart (tUn (rU fun i => .int (-i)) (tC (.int 1)))) := po_some (pe_un un_neg pe_int)
  refine wpAny_Slice (thn (po_none.run pins s1 σ H1 (fun o H2 => o = none ∧ H2 = H1) I1 ⟨rfl, rfl⟩) fun vl s2 ⟨l, H2, I2, pl, el, e2⟩ => ?_)
  subst el e2
  refine thn (po_none.run pins s2 σ H2 (fun o H3 => o = none ∧ H3 = H2) I2 ⟨rfl, rfl⟩) fun vu s3 ⟨u, H3, I3, pu, eu, e3⟩ => ?_
  subst eu e3
  refine thn (hst.run pins s3 σ H3 (fun o H4 => o = some (-1) ∧ H4 = H3) I3 ⟨1, rfl, -1, rfl, rfl, rfl⟩) fun vs s4 ⟨o, H4, I4, ps, eo, e4⟩ => ?_
  subst eo e4
  have I5 : Inv X pins σ H4 { s4 with heap := s4.heap.push { cls := .type "slice", data := .fields #[vl, vu, vs] } } := I4.kept (t' := s4.toks) fun b ob q => Heap.get?_push_of_some _ q
  show wpAny (model X.prog X.w) X.A (subscriptTail e (.Slice none none (some (.UnaryOp .USub (.Constant (.int 1) k p1) p2)) p3) (.ref a) (.ref s4.heap.objs.size)) (EP X pins σ Q) X.xe { s4 with heap := s4.heap.push { cls := .type "slice", data := .fields #[vl, vu, vs] } }
  rcases q with ⟨hx, q⟩ | ⟨hx, q⟩
  · obtain ⟨its, r, ht, hz⟩ := I5.list hx
    have hlen := r.length
    refine tail_any (ops := [.ref a, .ref s4.heap.objs.size]) ht.isList.typeIs (PySem.slot_list_getitem.lookup) ?_ (by with_unfolding_all rfl)
    refine wpAny_getItem_list_slice ht.isList (Heap.IsSliceOf.new _ vl vu vs) pl pu ps (by decide) ?_ (by rw [List.size_toArray]; omega)
    rw [PySem.W.krv_pick]
    refine ⟨.ref _, _, I5.laid (t' := s4.toks) (o := .lst xs.reverse) (fun b ob q => Heap.get?_push_of_some _ q) (Nat.le_refl _) ?_, rfl, q _ (I5.hok.fresh (Nat.le_refl _))⟩
    exact ⟨by rw [List.length_reverse]; exact hz, _, 0, r.reverse, Heap.get?_push_size _ rfl⟩
  · obtain ⟨its, r, ht, hz⟩ := I5.tuple hx
    have hlen := r.length
    cases pl
    cases pu
    refine tail_any (ops := [.ref a, .ref s4.heap.objs.size]) ht.typeIs (PyProof.Rows.slot_tuple_getitem.lookup) ?_ (by with_unfolding_all rfl)
    refine getItem_tuple_rev ht (Heap.IsSliceOf.new _ .none .none vs) ps ?_ (by rw [List.size_toArray]; omega)
    refine ⟨.ref _, _, I5.laid (t' := s4.toks) (o := .tup xs.reverse) (fun b ob q => Heap.get?_push_of_some _ q) (Nat.le_refl _) ?_, rfl, q _ (I5.hok.fresh (Nat.le_refl _))⟩
    exact ⟨by rw [List.length_reverse]; exact hz, _, r.reverse, IsTup.new _ _⟩
end
end DL
/-! DL, part l: dicts as expressions; statements. -/
namespace DL
open PySem L2
variable [xb : Xb] [Tb]
section
variable {X : Cx} {C : Nat → Addr} {W : WX} {a b c : Expr} {ma mb mc : M Sl} {pos : Pos}
/-! ### dicts -/
theorem look_out {K : PySem.W.Frag} {ρ : Type} {R2 : Gh → ρ → Sl → Prop} {σ : St} {g : Gh} {H : Hp} {e : En} {Q : ρ → Hp → Prop} {s t : Sl} {v w : V} {k : Option D → M Sl} (re : Rel K e σ H g) (rs : RepS K g v s) (rt : RepS K g w t)
    (h : Post K C R2 W σ g H (lookM s t k e) Q) : ∃ (a : Addr) (o : Option V) (od : Option D), v = .ref a ∧ DGet H a w o ∧ (∀ x, o = some x → ∃ d, od = some d ∧ Dr K g.G x d) ∧ (o = none → od = none) ∧ Post K C R2 W σ g H (k od e) Q := by
  obtain ⟨d, rd, h⟩ := Post.rd re rs h
  obtain ⟨x, rx, h⟩ := Post.rd re rt h
  cases rd with
  | dct h1 t1 t2 =>
    obtain ⟨hk, h⟩ := Post.req h
    obtain ⟨key, rfl, hkey⟩ := keyD_of rx hk
    rcases look_of hkey t1 t2 with ⟨e1, e2⟩ | ⟨y, u, e1, e2, r⟩
    · exact ⟨_, none, none, rfl, by rw [← e2]; exact DGet.k h1, (fun x z => by cases z), (fun _ => rfl), by rw [e1] at h; exact h⟩
    · exact ⟨_, some u, some y, rfl, by rw [← e2]; exact DGet.k h1, (fun x z => by cases z; exact ⟨y, rfl, r⟩), (fun z => by cases z), by rw [e1] at h; exact h⟩
  | _ => exact h.elim
theorem noSl {i : Expr} (h : nslice i = true) : NoSl i := plainIx h
theorem de_dget (hu : X.A.units + 1 < cLine) (hs : nslice b = true) (ha : DE X C W a ma) (hb : DE X C W b mb) : DE X C W (.Subscript a b pos) (bnd ma fun s => bnd mb fun t => lookM s t optS) := by
  refine (pe_dget hu ha hb (noSl hs)).imp fun σ H Q h => ?_
  refine h.bind fun v H1 s e1 g1 re1 rv p => Post.bindTo re1 p fun w H2 t e2 g2 re2 st2 rw p2 => ?_
  obtain ⟨a, o, od, rfl, hd, h1, h2, p3⟩ := look_out re2 (rv.mono st2.le) rw p2
  cases o with
  | none => rw [h2 rfl] at p3; exact p3.elim
  | some x =>
    obtain ⟨d, rfl, r⟩ := h1 x rfl
    exact ⟨a, x, rfl, hd, Post.ans re2 p3 r⟩
theorem de_din {neg : Bool} (hu : X.A.units + 1 < cLine) (hs : nset b = true) (ha : DE X C W a ma) (hb : DE X C W b mb) : DE X C W (.Compare a [if neg then .NotIn else .In] [b] pos) (bnd ma fun t => bnd mb fun s => lookM s t (dinM neg)) := by
  cases neg with
  | false =>
    refine (pe_cmp (pc_din hu ha hb) (behind_ok hs)).imp fun σ H Q h => ?_
    refine h.bind fun v H1 s e1 g1 re1 rv p => Post.bindTo re1 p fun w H2 t e2 g2 re2 st2 rw p2 => ?_
    obtain ⟨a, o, od, rfl, hd, h1, h2, p3⟩ := look_out re2 rw (rv.mono st2.le) p2
    refine ⟨a, o, rfl, hd, ?_⟩
    cases o with
    | none => rw [h2 rfl] at p3; exact Post.ans re2 p3 (.bl _)
    | some x => obtain ⟨d, rfl, r⟩ := h1 x rfl; exact Post.ans re2 p3 (.bl _)
  | true =>
    refine (pe_cmp (pc_dnotin hu ha hb) (behind_ok hs)).imp fun σ H Q h => ?_
    refine h.bind fun v H1 s e1 g1 re1 rv p => Post.bindTo re1 p fun w H2 t e2 g2 re2 st2 rw p2 => ?_
    obtain ⟨a, o, od, rfl, hd, h1, h2, p3⟩ := look_out re2 rw (rv.mono st2.le) p2
    refine ⟨a, o, rfl, hd, ?_⟩
    cases o with
    | none => rw [h2 rfl] at p3; exact Post.ans re2 p3 (.bl _)
    | some x => obtain ⟨d, rfl, r⟩ := h1 x rfl; exact Post.ans re2 p3 (.bl _)
theorem dt_din {neg : Bool} (hu : X.A.units + 1 < cLine) (hs : nset b = true) (ha : DE X C W a ma) (hb : DE X C W b mb) : DT X C W (.Compare a [if neg then .NotIn else .In] [b] pos) (bnd (bnd ma fun t => bnd mb fun s => lookM s t (dinM neg)) truM) := by
  cases neg with
  | false =>
    refine (pt_cmp (pc_din hu ha hb) (behind_ok hs)).imp fun σ H Q h => ?_
    rw [bnd_assoc] at h
    refine h.bind fun v H1 s e1 g1 re1 rv p => ?_
    rw [bnd_assoc] at p
    refine Post.bindTo re1 p fun w H2 t e2 g2 re2 st2 rw p2 => ?_
    obtain ⟨a, o, od, rfl, hd, h1, h2, p3⟩ := look_out (k := fun o => dinM false o) re2 rw (rv.mono st2.le) (p2.bind (R1 := RepS X.K))
    refine ⟨a, o, rfl, hd, ?_⟩
    cases o with
    | none =>
      rw [h2 rfl] at p3
      obtain ⟨u, e3, g3, re3, st3, ru, p4⟩ := p3 (.bl false) g2 H2 re2 (Stp.refl _ _) (.bl _)
      obtain ⟨b, hb, q⟩ := tru_of re3 ru p4
      exact ⟨b, hb, q⟩
    | some x =>
      obtain ⟨d, rfl, r⟩ := h1 x rfl
      obtain ⟨u, e3, g3, re3, st3, ru, p4⟩ := p3 (.bl true) g2 H2 re2 (Stp.refl _ _) (.bl _)
      obtain ⟨b, hb, q⟩ := tru_of re3 ru p4
      exact ⟨b, hb, q⟩
  | true =>
    refine (pt_cmp (pc_dnotin hu ha hb) (behind_ok hs)).imp fun σ H Q h => ?_
    rw [bnd_assoc] at h
    refine h.bind fun v H1 s e1 g1 re1 rv p => ?_
    rw [bnd_assoc] at p
    refine Post.bindTo re1 p fun w H2 t e2 g2 re2 st2 rw p2 => ?_
    obtain ⟨a, o, od, rfl, hd, h1, h2, p3⟩ := look_out (k := fun o => dinM true o) re2 rw (rv.mono st2.le) (p2.bind (R1 := RepS X.K))
    refine ⟨a, o, rfl, hd, ?_⟩
    cases o with
    | none =>
      rw [h2 rfl] at p3
      obtain ⟨u, e3, g3, re3, st3, ru, p4⟩ := p3 (.bl true) g2 H2 re2 (Stp.refl _ _) (.bl _)
      obtain ⟨b, hb, q⟩ := tru_of re3 ru p4
      exact ⟨b, hb, q⟩
    | some x =>
      obtain ⟨d, rfl, r⟩ := h1 x rfl
      obtain ⟨u, e3, g3, re3, st3, ru, p4⟩ := p3 (.bl false) g2 H2 re2 (Stp.refl _ _) (.bl _)
      obtain ⟨b, hb, q⟩ := tru_of re3 ru p4
      exact ⟨b, hb, q⟩
theorem m2_ok {o e f : Expr} {n : Str} {apos cpos : Pos} (hb : attrOk o = true) (hl : (apos.endLine == cpos.line) = true) (h1 : nst e = true) (h2 : nst f = true) : M2 X o n apos e f cpos := by
  refine ⟨attr_ok hb, ?_, hl, ?_⟩
  · rw [star_all (by simp [h1, h2])]; rfl
  · rw [star_cons h1, star_cons h2]; rfl
theorem de_dgt2 {apos : Pos} (hu : X.A.units + 1 < cLine) (hb : attrOk a = true) (hl : (apos.endLine == pos.line) = true) (h1 : nst b = true) (h2 : nst c = true) (ha : DE X C W a ma) (hb' : DE X C W b mb) (hc : DE X C W c mc) :
    DE X C W (.Call (.Attribute a "get" apos) [b, c] [] pos) (bnd ma fun s => bnd (rdOf s) fun y => req (isDct y) (bnd mb fun t => bnd mc fun u => lookM s t (getM u))) := by
  refine (pe_dget2 hu ha hb' hc (m2_ok hb hl h1 h2)).imp fun σ H Q h => ?_
  refine h.bind fun v H1 s e1 g1 re1 rv p => ?_
  obtain ⟨d, rd, p⟩ := Post.rd re1 rv p
  obtain ⟨hd, p⟩ := Post.req p
  cases rd with
  | dct q1 t1 t2 =>
    refine ⟨_, rfl, .inl ⟨_, .inl q1⟩, ?_⟩
    refine Post.bindTo re1 p fun w H2 t e2 g2 re2 st2 rw p2 => Post.bindTo re2 p2 fun z H3 u e3 g3 re3 st3 rz p3 => ?_
    obtain ⟨a', o, od, ea, hdg, k1, k2, p4⟩ := look_out re3 (rv.mono (st2.le.trans st3.le)) (rw.mono st3.le) p3
    cases ea
    refine ⟨o, hdg, ?_⟩
    cases o with
    | none => rw [k2 rfl] at p4; exact Post.ans re3 p4 rz
    | some x => obtain ⟨d, rfl, r⟩ := k1 x rfl; exact Post.ans re3 p4 r
  | _ => cases hd
end
/-! ### a written dict -/
def evLs : List (M Sl) → M (List Sl)
  | [] => ret []
  | m :: r => bnd m fun s => bnd (evLs r) fun l => ret (s :: l)
theorem evL_eq (cal : Nat → Fn) : ∀ es : List CE, evL cal es = evLs (es.map (ev cal))
  | [] => rfl
  | e :: r => by show bnd (ev cal e) _ = bnd (ev cal e) _; rw [evL_eq cal r]
section
variable {X : Cx} {C : Nat → Addr} {W : WX} {pos : Pos}
theorem pairs_of {σ : St} : ∀ (l : List (V × M Sl)) {H : Hp} {Q' : List V → Hp → Prop} {Q : List (V × V) → Hp → Prop}, tM X.K C (RepSs X.K) W (evLs (l.map (·.2))) σ H Q' →
    (∀ vs H, Q' vs H → Q ((l.map (·.1)).zip vs) H) → tPairs (l.map fun x => (tC x.1, tM X.K C (RepS X.K) W x.2)) σ H Q
  | [], H, Q', Q, h, k => by
    obtain ⟨e, g, re, p⟩ := h
    exact k [] H (p [] g H re (Stp.refl _ _) .nil)
  | (v, m) :: l, H, Q', Q, h, k => by
    show tM X.K C (RepS X.K) W m σ H _
    refine tM.bind h fun w H1 s e1 g1 re1 rv p => ?_
    refine pairs_of l (Q' := fun vs H => Q' (w :: vs) H) (Post.bindTo re1 p fun vs H2 ss e2 g2 re2 st2 rs p2 => ?_) fun vs H q => k (w :: vs) H q
    exact p2 (w :: vs) g2 H2 re2 (Stp.refl _ _) (.cons (rv.mono st2.le) rs)
theorem keys_drs {K : PySem.W.Frag} {G : Hp} : ∀ {ks : List D} {vs : List V}, (∀ k ∈ ks, keyD k = true) → ks.length = vs.length → Drs K G (((ks.map keyOf).zip vs).map fun p => kV p.1) ks ∧ ((ks.map keyOf).zip vs).map (fun p => p.2) = vs
  | [], [], _, _ => ⟨.nil, rfl⟩
  | k :: ks, v :: vs, h, hl => by
    obtain ⟨i1, i2⟩ := keys_drs (K := K) (G := G) (ks := ks) (vs := vs) (fun k' hk' => h k' (List.mem_cons_of_mem _ hk')) (by simpa using hl)
    exact ⟨.cons (keyOf_dr (h k List.mem_cons_self)) i1, congrArg (v :: ·) i2⟩
theorem dOfs_noexc : ∀ {ss : List Sl} {e e' : En} {x : Xn}, dOfs ss e ≠ .exc x e'
  | [], _, _, _, h => by cases h
  | s :: ss, e, e', x, h => by
    unfold dOfs bnd at h
    cases hd : dOf s e with
    | stuck => rw [hd] at h; cases h
    | exc y e1 => exact (dOf_noexc hd).elim
    | ok d e1 =>
      rw [hd] at h
      simp only at h
      cases hs : dOfs ss e1 with
      | stuck => rw [hs] at h; cases h
      | exc y e2 => exact (dOfs_noexc hs).elim
      | ok l e2 => rw [hs] at h; cases h
theorem Rel.ds {K : PySem.W.Frag} {σ : St} {g : Gh} {H : Hp} {e e' : En} {ss : List Sl} {vs : List V} {ds : List D} (re : Rel K e σ H g) (rs : RepSs K g vs ss) (h : dOfs ss e = .ok ds e') : ∃ g', Rel K e' σ H g' ∧ Stp g H g' H ∧ Drs K g'.G vs ds := by
  obtain ⟨ds', e2, g', re', st, dr, p⟩ := Post.ds (C := fun _ => 0) (W := fun _ _ _ _ => False) (R2 := fun _ (r : List D × En) (a : List D × En) => r = a) (f := fun ds e => .ok (ds, e) e) (Q := fun r _ => r = (ds, e')) re rs (by
    unfold bnd
    rw [h]
    exact fun r _ _ _ _ q => q)
  have := p (ds', e2) g' H re' (Stp.refl _ _) rfl
  cases this
  exact ⟨g', re', st, dr⟩
theorem de_dnew {f : Nat} : DE X C W (.Dict [] [] pos) (newD f [] []) :=
  pe_dnewK.imp fun σ H Q ⟨e, g, re, p⟩ q hq => Post.newD (kvs := []) re p .nil .nil q hq
theorem de_disp {f : Nat} {keys : List (Option Expr)} {values : List Expr} {ks : List D} {ms : List (M Sl)} (hp : PPs X pos keys values ((((ks.map keyOf).map kV).zip ms).map fun x => (tC x.1, tM X.K C (RepS X.K) W x.2))) (hall : keys.all (·.isSome) = true) (hl : keys.length = values.length) (h0 : keys ≠ [])
    (h15 : keys.length ≤ 15) (hm : ks.length = ms.length) : DE X C W (.Dict keys values pos) (bnd (evLs ms) fun ss => bnd (dOfs ss) fun ds => req (keysOk ks && decide (ks.length = ds.length) && decide (ks.length ≤ 15)) (newD f ks ds)) := by
  refine (pe_disp hp hall hl h0 h15).imp fun σ H Q h p hp => ?_
  have e1 : (((ks.map keyOf).map kV).zip ms).map (·.2) = ms := by
    rw [List.map_snd_zip]; simp [hm]
  have e2 : (((ks.map keyOf).map kV).zip ms).map (·.1) = (ks.map keyOf).map kV := by
    rw [List.map_fst_zip]; simp [hm]
  obtain ⟨e, g, re, q⟩ := h
  have gD : g.G p = none := re.gfree hp
  have aD : p ∉ g.adr := re.afree hp
  have re' : Rel X.K e σ (upd H p (.dK [])) g := re.junk gD aD (fun b hb => upd_ne hb) fun o q => by rw [hp] at q; cases q
  have st' : Stp g H g (upd H p (.dK [])) := (Stp.refl g H).upd hp
  refine pairs_of _ (Q' := fun vs H2 => H2 p = some (.dK []) ∧ keysOk ks = true ∧ ks.length = vs.length ∧ ks.length ≤ 15 ∧ Q (.ref p) (upd H2 p (.dK ((ks.map keyOf).zip vs)))) ?_ fun vs H2 hq => ?_
  · rw [e1]
    refine ⟨e, g, re', ?_⟩
    unfold bnd at q
    cases hm : evLs ms e with
    | stuck => rw [hm] at q; exact q.elim
    | exc x e2 => rw [hm] at q; exact fun cls d g' H' r st => q cls d g' H' r (st'.trans st)
    | ok ss e2 =>
      rw [hm] at q
      simp only at q
      intro vs g2 H2 re2 st2 rs
      obtain ⟨m1, m2, m3⟩ := st2.made upd_same aD gD
      cases hd : dOfs ss e2 with
      | stuck => rw [hd] at q; exact q.elim
      | exc x e3 => exact (dOfs_noexc hd).elim
      | ok ds e3 =>
        rw [hd] at q
        simp only at q
        obtain ⟨g3, re3, st3, dr⟩ := re2.ds rs hd
        obtain ⟨n1, n2, n3⟩ := st3.made m1 m2 m3
        obtain ⟨hc, q⟩ := Post.req q
        simp only [Bool.and_eq_true, decide_eq_true_eq] at hc
        have hlen : ks.length = vs.length := by rw [dr.length]; exact hc.1.2
        refine ⟨n1, hc.1.1, hlen, hc.2, ?_⟩
        have eH : upd (fun b => if b = p then none else H2 b) p (.dK ((ks.map keyOf).zip vs)) = upd H2 p (.dK ((ks.map keyOf).zip vs)) := by
          funext b
          unfold upd
          split
          · rfl
          · rename_i z; exact if_neg z
        have rel0 : Rel X.K e3 σ (fun b => if b = p then none else H2 b) g3 := re3.junk n3 n2 (fun b hb => if_neg hb) fun o q => by rw [n1] at q; cases q; exact True.intro
        have st := st'.trans (st2.trans st3)
        have st0 : Stp g H g3 (fun b => if b = p then none else H2 b) :=
          ⟨st.le, fun b u q hb ht => by
            show (if b = p then none else H2 b) = _
            rw [if_neg (ne_of_none q hp)]; exact st.keep b u q hb ht, st.anew, st.gnew⟩
        obtain ⟨k1, k2⟩ := keys_drs (K := X.K) (G := g3.G) (keys_all hc.1.1) hlen
        have := Post.newD (kvs := (ks.map keyOf).zip vs) rel0 (W := W) (Q := Q) (q.shift st0) k1 (by rw [k2]; exact dr) p (if_pos rfl)
        rw [eH] at this; exact this
  · rw [e2]
    obtain ⟨h1, h2, h3, h4, h5⟩ := hq
    refine ⟨h1, (ks.map keyOf).zip vs, ?_, ?_, ?_⟩
    · have : ∀ (l : List Key) (vs : List V), (l.map kV).zip vs = (l.zip vs).map fun kv => (kV kv.1, kv.2) := by
        intro l
        induction l with
        | nil => intro _; rfl
        | cons a l ih => intro vs; cases vs with | nil => rfl | cons v vs => simp [ih]
      exact this _ _
    · rw [List.length_zip, List.length_map]; omega
    · rw [merge_new X.K h2 (by simp)]; exact h5
end
/-! ### in range(n), [::-1] -/
section
variable {X : Cx} {C : Nat → Addr} {W : WX} {a b : Expr} {ma mb : M Sl} {pos : Pos}
theorem cr_range1 : CallR X (.type "range") (fun vs H Q => ∃ j, vs = [V.int j] ∧ ∀ p, H p = none → Q (.ref p) (upd H p (.rng 0 j))) := by
  intro pins s σ H vs us Q I r h
  obtain ⟨j, rfl, q⟩ := h
  obtain ⟨u1, rfl, rj⟩ : ∃ u1, us = [u1] ∧ RelV (.int j) u1 := by
    cases r with
    | cons p q => cases q; exact ⟨_, rfl, p⟩
  obtain ⟨u, rfl⟩ := rj
  refine PySem.call_range_1 ⟨.ref s.heap.objs.size, upd H s.heap.objs.size (.rng 0 j), I.laid (t' := s.toks + 1 + 1) (fun b o e => Heap.get?_push_of_some _ e) (Nat.le_refl _) ?_, rfl, q _ (I.hok.fresh (Nat.le_refl _))⟩
  exact ⟨s.toks, u, s.toks + 1, Heap.get?_push_size _ rfl⟩
theorem de_inRng {p q : Pos} (hg : Gl X "range") (hm : X.mg "range" = none) (h1 : nst b = true) (ha : DE X C W a ma) (hb : DE X C W b mb) :
    DE X C W (.Compare a [.In] [.Call (.Name "range" p) [b] [] q] pos) (bnd ma fun s => bnd mb fun t => bnd (intM s) fun i => bnd (intM t) fun j => ret (.val (.bl (decide (0 ≤ i ∧ i < j))))) := by
  have hr : PE X (.Call (.Name "range" p) [b] [] q) _ := pe_callTy cr_range1 hg hm (by decide +kernel) (pa_cons hb pa_nil (star_cons h1)) (by decide +kernel) (by decide +kernel) (star_cons h1) rfl
  refine (pe_cmpR op_in_rng ha hr rfl).imp fun σ H Q h => ?_
  refine h.bind fun v H1 s e1 g1 re1 rv p => ?_
  refine Post.bindTo re1 p fun w H2 t e2 g2 re2 st2 rw p2 => ?_
  obtain ⟨i, rfl, p2⟩ := intM_of (rv.mono st2.le) p2
  obtain ⟨j, rfl, p2⟩ := intM_of rw p2
  exact ⟨j, rfl, fun q hq => ⟨i, q, 0, j, rfl, rfl, upd_same, p2 _ g2 _ (re2.junk (re2.gfree hq) (re2.afree hq) (fun b hb => upd_ne hb) fun o z => by rw [hq] at z; cases z) ((Stp.refl g2 H2).upd hq) (.bl _)⟩⟩
theorem rel_rg (a b : Int) {K : PySem.W.Frag} {G : Hp} : ∀ n : Nat, Drs K G ((List.range n).map fun i => V.int (a + (i : Nat))) (rangeL a n) := by
  intro n
  unfold rangeL
  generalize List.range n = l
  induction l with
  | nil => exact .nil
  | cons x r ih => exact .cons (.int _) ih
theorem de_lrng {f : Nat} {p1 p2 p3 : Pos} (hc : X.calm = true) (hg : Gl X "list") (hm : X.mg "list" = none) (hg2 : Gl X "range") (hm2 : X.mg "range" = none) (h1 : nst a = true) (ha : DE X C W a ma) :
    DE X C W (.Call (.Name "list" p1) [.Call (.Name "range" p2) [a] [] p3] [] pos) (bnd ma fun s => bnd (intM s) fun n => req (decide (0 ≤ n) && decide (n ≤ SZ)) (newL f (rangeL 0 n.toNat))) := by
  refine (pe_listRg hc hg hm (prg_1 hg2 hm2 ha (star_cons h1))).imp fun σ H Q h => ?_
  refine h.bind fun v H1 s e1 g1 re1 rv p => ?_
  obtain ⟨n, rfl, p⟩ := intM_of rv p
  obtain ⟨ho, p⟩ := p.req
  simp only [Bool.and_eq_true, decide_eq_true_eq] at ho
  refine ⟨n, rfl, RgOk.of_le (by omega) (by unfold SZ at ho; omega) (by omega) ho.1, fun q hq => ?_⟩
  have t : Drs X.K g1.G (rgV 0 n) (rangeL 0 n.toNat) := by
    have := rel_rg 0 0 (K := X.K) (G := g1.G) n.toNat
    unfold rgV
    rw [Int.sub_zero]
    exact this
  exact Post.newL re1 p t q hq
theorem de_lrng2 {f : Nat} {p1 p2 p3 : Pos} (hc : X.calm = true) (hg : Gl X "list") (hm : X.mg "list" = none) (hg2 : Gl X "range") (hm2 : X.mg "range" = none) (h1 : nst a = true) (h2 : nst b = true) (ha : DE X C W a ma) (hb : DE X C W b mb) :
    DE X C W (.Call (.Name "list" p1) [.Call (.Name "range" p2) [a, b] [] p3] [] pos) (bnd ma fun s => bnd mb fun t => bnd (intM s) fun i => bnd (intM t) fun j => req (decide (0 ≤ i) && decide (i ≤ SZ) && (decide (0 ≤ j) && decide (j ≤ SZ))) (newL f (rangeL i (j - i).toNat))) := by
  refine (pe_listRg hc hg hm (prg_2 hg2 hm2 ha hb (star_cons h1) (star_cons h2) (star_any (es := [b]) (by simp [h2])))).imp fun σ H Q h => ?_
  refine h.bind fun v H1 s e1 g1 re1 rv p => ?_
  refine Post.bindTo re1 p fun w H2 t e2 g2 re2 st2 rw p2 => ?_
  obtain ⟨i, rfl, p2⟩ := intM_of (rv.mono st2.le) p2
  obtain ⟨j, rfl, p2⟩ := intM_of rw p2
  obtain ⟨ho, p2⟩ := p2.req
  simp only [Bool.and_eq_true, decide_eq_true_eq] at ho
  refine ⟨i, j, rfl, rfl, RgOk.of_le ho.1.1 (by unfold SZ at ho; omega) (by unfold SZ at ho; omega) ho.2.1, fun q hq => ?_⟩
  have t : Drs X.K g2.G (rgV i j) (rangeL i (j - i).toNat) := rel_rg i j (K := X.K) (G := g2.G) (j - i).toNat
  exact Post.newL re2 p2 t q hq
theorem de_rev {f k : Nat} {p1 p2 p3 : Pos} (ha : DE X C W a ma) : DE X C W (.Subscript a (.Slice none none (some (.UnaryOp .USub (.Constant (.int 1) k p1) p2)) p3) pos) (bnd ma fun s => bnd (rdOf s) (revM f)) := by
  refine (pe_revT ha).imp fun σ H Q h => ?_
  refine h.bind fun v H1 s e1 g1 re1 rq p => ?_
  obtain ⟨d, rd, p⟩ := Post.rd re1 rq p
  have rv : ∀ {xs : List V} {ds : List D}, Drs X.K g1.G xs ds → Drs X.K g1.G xs.reverse ds.reverse := by
    intro xs ds t
    have : ∀ {xs : List V} {ds : List D} {ys : List V} {es : List D}, Drs X.K g1.G xs ds → Drs X.K g1.G ys es → Drs X.K g1.G (xs.reverse ++ ys) (ds.reverse ++ es) := by
      intro xs
      induction xs with
      | nil => intro ds ys es t u; cases t; exact u
      | cons x r ih =>
        intro ds ys es t u
        cases t with
        | cons a b => rw [List.reverse_cons, List.reverse_cons, List.append_assoc, List.append_assoc]; exact ih b (.cons a u)
    have q := this t .nil
    rw [List.append_nil, List.append_nil] at q
    exact q
  cases rd with
  | lst h1 t1 => exact ⟨_, _, rfl, .inl ⟨SqL.of h1, Post.newL re1 p (rv t1)⟩⟩
  | frl h1 t1 => exact ⟨_, _, rfl, .inl ⟨re1.sto.gh.seqL h1, Post.newL re1 p (rv t1)⟩⟩
  | tup h1 t1 => exact ⟨_, _, rfl, .inr ⟨re1.sto.gh.seqT h1, Post.newT re1 p.req.2 (rv t1)⟩⟩
  | _ => exact p.elim
end
end DL
/-! DL, part m: statements. -/
namespace DL
open PySem L2
variable [xb : Xb] [Tb]
def PostS (K : PySem.W.Frag) (C : Nat → Addr) (W : WX) (D : Ends) (g : Gh) (H : Hp) (o : Out Fl) : Prop :=
  match o with
  | .ok fl e' => ∀ σ' g' H', Rel K e' σ' H' g' → Stp g H g' H' → match fl with
    | .nxt => D.nx σ' H'
    | .brk => D.bk σ' H'
    | .cnt => D.ct σ' H'
    | .rtn s => ∀ v, RepS K g' v s → D.rt v H'
  | .exc x e' => ∀ cls d σ' g' H', Rel K e' σ' H' g' → Stp g H g' H' → XRel C x cls d g'.G → W cls d σ' H'
  | .stuck => False
def tS (K : PySem.W.Frag) (C : Nat → Addr) (W : WX) (m : M Fl) : TS := fun D σ H => ∃ e g, Rel K e σ H g ∧ PostS K C W D g H (m e)
theorem _root_.L2.PS.imp {X : Cx} {e : Stmt} {t t' : TS} (h : PS X e t) (k : ∀ D σ H, t' D σ H → t D σ H) : PS X e t' := ⟨fun pins s σ H D I q => h.run pins s σ H D I (k D σ H q)⟩
theorem _root_.L2.PSs.imp {X : Cx} {e : List Stmt} {t t' : TS} (h : PSs X e t) (k : ∀ D σ H, t' D σ H → t D σ H) : PSs X e t' := ⟨fun pins s σ H D I q => h.run pins s σ H D I (k D σ H q)⟩
section
variable {α β ρ ρ' : Type} {K : PySem.W.Frag} {C : Nat → Addr} {R1 : Gh → ρ → α → Prop} {W : WX} {σ : St} {g g1 : Gh} {H H1 : Hp} {D D' : Ends} {m : M α} {f : α → M Fl} {e : En}
theorem PostS.shift {o : Out Fl} (s : Stp g H g1 H1) (h : PostS K C W D g H o) : PostS K C W D g1 H1 o := by
  cases o with
  | ok a e' => exact fun σ' g' H' re st => h σ' g' H' re (s.trans st)
  | exc x e' => exact fun c d σ' g' H' re st q => h c d σ' g' H' re (s.trans st) q
  | stuck => exact h
theorem PostS.bind {Q1 : ρ → Hp → Prop} (re : Rel K e σ H g) (h : PostS K C W D g H (bnd m f e))
    (k : ∀ (r : ρ) (H1 : Hp) (a : α) (e1 : En) (g1 : Gh), Rel K e1 σ H1 g1 → Stp g H g1 H1 → R1 g1 r a → PostS K C W D g1 H1 (f a e1) → Q1 r H1) : tM K C R1 W m σ H Q1 := by
  refine ⟨e, g, re, ?_⟩
  unfold bnd at h
  cases hm : m e with
  | ok a e' =>
    rw [hm] at h
    exact fun r g' H' re st q => k r H' a e' g' re st q (h.shift st)
  | exc x e' => rw [hm] at h; exact fun cls d g' H' re st q => h cls d σ g' H' re st q
  | stuck => rw [hm] at h; exact h.elim
theorem tS.bind {Q1 : ρ → Hp → Prop} (h : tS K C W (bnd m f) D σ H)
    (k : ∀ (r : ρ) (H1 : Hp) (a : α) (e1 : En) (g1 : Gh), Rel K e1 σ H1 g1 → R1 g1 r a → PostS K C W D g1 H1 (f a e1) → Q1 r H1) : tM K C R1 W m σ H Q1 := by
  obtain ⟨e, g, re, p⟩ := h
  exact p.bind re fun r H1 a e1 g1 h1 _ h3 h4 => k r H1 a e1 g1 h1 h3 h4
theorem PostS.rd {f : DL.D → M Fl} {s : Sl} {v : V} {E : Ends} (re : Rel K e σ H g) (r : RepS K g v s) (h : PostS K C W E g H (bnd (rdOf s) f e)) : ∃ d, Rd3 K g.G H v d ∧ PostS K C W E g H (f d e) := by
  unfold bnd at h
  cases hm : rdOf s e with
  | ok d e' =>
    rw [hm] at h
    obtain ⟨rfl, q⟩ := re.rd r hm
    exact ⟨d, q, h⟩
  | exc x e' => exact (rd_noexc hm).elim
  | stuck => rw [hm] at h; exact h.elim
theorem PostS.req {b : Bool} {m : M Fl} (h : PostS K C W D g H (DL.req b m e)) : b = true ∧ PostS K C W D g H (m e) := by
  cases b with
  | true => exact ⟨rfl, h⟩
  | false => exact h.elim
theorem PostS.nxt (h : PostS K C W D g H (ret .nxt e)) : ∀ σ', Rel K e σ' H g → D.nx σ' H := fun σ' re => h σ' g H re (Stp.refl _ _)
/-- a store of a name, then on -/
theorem PostS.set {i : Nat} {s : Sl} {v : V} (re : Rel K e σ H g) (r : RepS K g v s) (h : PostS K C W D g H (bnd (setS i s) (fun _ => ret .nxt) e)) : D.nx (σ.set i (some v)) H :=
  PostS.nxt (e := ⟨e.sl.set i s, e.cs⟩) h _ (re.set r)
end
abbrev DS (X : Cx) (C : Nat → Addr) (W : WX) (st : Stmt) (m : M Fl) : Prop := PS X st (tS X.K C W m)
abbrev DSs (X : Cx) (C : Nat → Addr) (W : WX) (st : List Stmt) (m : M Fl) : Prop := PSs X st (tS X.K C W m)
section
variable {X : Cx} {C : Nat → Addr} {W : WX} {a b c e : Expr} {ma mb mc me : M Sl} {pos : Pos} {st : Stmt} {sts p q : List Stmt} {m1 m2 : M Fl}
theorem dss_nil : DSs X C W [] (ret .nxt) := pss_nil.imp fun D σ H ⟨e, g, re, p⟩ => p.nxt σ re
theorem dss_cons (h1 : DS X C W st m1) (h2 : DSs X C W sts m2) : DSs X C W (st :: sts) (bnd m1 fun fl => seqK fl m2) := by
  refine (pss_cons h1 h2).imp fun D σ H h => ?_
  obtain ⟨e, g, re, p⟩ := h
  refine ⟨e, g, re, ?_⟩
  unfold bnd at p
  cases hm : m1 e with
  | stuck => rw [hm] at p; exact p.elim
  | exc x e' => rw [hm] at p; exact p
  | ok fl e' =>
    rw [hm] at p
    intro σ' g' H' re' st
    cases fl with
    | nxt => exact ⟨e', g', re', p.shift st⟩
    | brk => exact p σ' g' H' re' st
    | cnt => exact p σ' g' H' re' st
    | rtn s => exact p σ' g' H' re' st
/-- a thing handed over, no statement -/
theorem dss_frz {i : Nat} (h2 : DSs X C W sts m2) : DSs X C W sts (bnd (bnd (getS i) fun s => bnd (dOf s) fun d => bnd (setS i (.val d)) fun _ => ret .nxt) fun fl => seqK fl m2) := by
  refine h2.imp fun D σ H h => ?_
  obtain ⟨e, g, re, p⟩ := h
  rcases getS_cases i e with ⟨s, hs⟩ | hs
  · obtain ⟨_, v, hv, rs⟩ := re.slot hs
    unfold bnd at p
    rw [hs] at p
    simp only at p
    cases hd : dOf s e with
    | stuck => rw [hd] at p; exact p.elim
    | exc x e2 => exact (dOf_noexc hd).elim
    | ok d e2 =>
      rw [hd] at p
      obtain ⟨g2, re2, st2, dr, _, _⟩ := re.d rs hd
      refine ⟨⟨e2.sl.set i (.val d), e2.cs⟩, g2, ?_, p.shift st2⟩
      have := re2.set (i := i) (s := .val d) dr
      have e1 : σ.set i (some v) = σ := by
        obtain ⟨hl, he⟩ := List.getElem?_eq_some_iff.mp hv
        rw [← he]; exact List.set_getElem_self hl
      rw [e1] at this
      exact this
  · unfold bnd at p; rw [hs] at p; exact p.elim
theorem ds_nev {st : Stmt} : DS X C W st stk := ps_never.imp fun D σ H ⟨e, g, re, p⟩ => p
theorem ds_pas : DS X C W (.Pass pos) (ret .nxt) := ps_pass.imp fun D σ H ⟨e, g, re, p⟩ => p.nxt σ re
theorem ds_brk : DS X C W (.Break pos) (ret .brk) := ps_break.imp fun D σ H ⟨e, g, re, p⟩ => p σ g H re (Stp.refl _ _)
theorem ds_cnt : DS X C W (.Continue pos) (ret .cnt) := ps_continue.imp fun D σ H ⟨e, g, re, p⟩ => p σ g H re (Stp.refl _ _)
theorem ds_doc {x : Str} {j : Nat} {pos' : Pos} : DS X C W (.Expr (.Constant (.str x) j pos) pos') (ret .nxt) := ps_doc.imp fun D σ H ⟨e, g, re, p⟩ => p.nxt σ re
theorem ds_expr (hl : nlc e = true) (he : DE X C W e me) : DS X C W (.Expr e pos) (bnd me fun _ => ret .nxt) := by
  refine (ps_expr he (swaps_no hl)).imp fun D σ H h => ?_
  exact h.bind fun v H1 s e1 g1 re1 rv p => p.nxt σ re1
theorem ds_rtn (he : DE X C W e me) : DS X C W (.Return (some e) pos) (bnd me fun s => ret (.rtn s)) := by
  refine (ps_ret he).imp fun D σ H h => ?_
  exact h.bind fun v H1 s e1 g1 re1 rv p => p σ g1 H1 re1 (Stp.refl _ _) v rv
theorem ds_rtnN : DS X C W (.Return none pos) (ret (.rtn (.val .non))) := ps_retN.imp fun D σ H ⟨e, g, re, p⟩ => p σ g H re (Stp.refl _ _) .non Dr.non
theorem asg_of {i : Nat} {D : Ends} {σ : St} {H : Hp} (h : tS X.K C W (bnd me fun s => bnd (setS i s) fun _ => ret .nxt) D σ H) : tM X.K C (RepS X.K) W me σ H (fun x H1 => gName i x σ H1 D.nx) :=
  h.bind fun v H1 s e1 g1 re1 rv p => p.set re1 rv
theorem ds_set {i : Nat} {x : Str} {pos' : Pos} (hN : X.N.Nodup) (hi : X.N[i]? = some x) (hx : Loc X.env.scope x) (hf : X.fn x = true ∨ X.env.scope.names.lookup x = some .local) (hs : swapsWith e (some (.Name x pos')) pos.line X.env = pure false) (he : DE X C W e me) :
    DS X C W (.Assign [.Name x pos'] e pos) (bnd me fun s => bnd (setS i s) fun _ => ret .nxt) :=
  (ps_set hN hi hx he hs hf).imp fun D σ H h => asg_of h
theorem bindT_noexc : ∀ (t : Tg) (d : DL.D) (e e' : En) (x : Xn), bindT t d e ≠ .exc x e'
  | .v i, d, e, e', x, h => by cases h
  | .t l, d, e, e', x, h => by
    cases d <;> first | (cases h; done) | skip
    all_goals
      rename_i xs
      have : ∀ (l : List Tg) (ds : List DL.D) (e e' : En) (x : Xn), (∀ t ∈ l, ∀ d e e' x, bindT t d e ≠ .exc x e') → bindTs l ds e ≠ .exc x e' := by
        intro l
        induction l with
        | nil => intro ds e e' x _ h; cases ds <;> cases h
        | cons t l ih =>
          intro ds e e' x hl h
          cases ds with
          | nil => cases h
          | cons d ds =>
            unfold bindTs bnd at h
            cases hm : bindT t d e with
            | stuck => rw [hm] at h; cases h
            | exc y e1 => exact hl t List.mem_cons_self _ _ _ _ hm
            | ok u e1 => rw [hm] at h; exact ih ds e1 e' x (fun t ht => hl t (List.mem_cons_of_mem _ ht)) h
      exact this l xs e e' x (fun t ht d e e' x => bindT_noexc t d e e' x) h
theorem ds_setT {tg : Expr} {l : List Tg} (hg : PG X tg (tG X.K (.t l))) (hs : swapsWithSole [tg] e pos.line X.env = pure false) (hw : swappedStores [tg] e X.env = pure none) (h1 : (assignEach [tg] X.env).map (·.2) = [assign tg X.env]) (he : DE X C W e me) :
    DS X C W (.Assign [tg] e pos) (bnd me fun s => bnd (valM s) fun d => bnd (bindT (.t l) d) fun _ => ret .nxt) := by
  refine (ps_asg he hg hs hw h1).imp fun D σ H h => ?_
  refine h.bind fun v H1 s e1 g1 re1 rv p => ?_
  cases s with
  | und => exact p.elim
  | xc _ _ => exact p.elim
  | cel k => exact p.elim
  | val d =>
    have p : PostS X.K C W D g1 H1 (bnd (bindT (.t l) d) (fun _ => ret .nxt) e1) := p
    unfold bnd at p
    cases hb : bindT (.t l) d e1 with
    | stuck => rw [hb] at p; exact p.elim
    | exc x e2 => exact (bindT_noexc _ _ _ _ _ hb).elim
    | ok u e2 =>
      rw [hb] at p
      exact ⟨e1, g1, _, re1, rv, e2, hb, fun σ' re' _ => PostS.nxt (e := e2) p σ' re'⟩
theorem da_two (ha : DE X C W a ma) (hb : DE X C W b mb) (h1 : nst a = true) (h2 : nst b = true) : DA X C W [a, b] (bnd ma fun s => bnd mb fun t => ret [s, t]) := by
  refine (pa_cons ha (pa_cons hb pa_nil (star_cons h2)) (star_cons h1)).imp fun σ H Q h => ?_
  refine h.bind fun v H1 s e1 g1 re1 rv p => Post.bindTo re1 p fun w H2 t e2 g2 re2 st2 rw p2 => ?_
  exact p2 [v, w] g2 H2 re2 (Stp.refl _ _) (.cons (rv.mono st2.le) (.cons rw .nil))
theorem da_three (ha : DE X C W a ma) (hb : DE X C W b mb) (hc : DE X C W c mc) (h1 : nst a = true) (h2 : nst b = true) (h3 : nst c = true) : DA X C W [a, b, c] (bnd ma fun s => bnd mb fun t => bnd mc fun u => ret [s, t, u]) := by
  refine (pa_cons ha (pa_cons hb (pa_cons hc pa_nil (star_cons h3)) (star_cons h2)) (star_cons h1)).imp fun σ H Q h => ?_
  refine h.bind fun v H1 s e1 g1 re1 rv p => Post.bindTo re1 p fun w H2 t e2 g2 re2 st2 rw p2 => Post.bindTo re2 p2 fun x H3 u e3 g3 re3 st3 rx p3 => ?_
  exact p3 [v, w, x] g3 H3 re3 (Stp.refl _ _) (.cons (rv.mono (st2.le.trans st3.le)) (.cons (rw.mono st3.le) (.cons rx .nil)))
theorem RepSs.one {K : PySem.W.Frag} {g : Gh} {vs : List V} {ss : List Sl} {s : Sl} (h : RepSs K g vs (s :: ss)) : ∃ v ws, vs = v :: ws ∧ RepS K g v s ∧ RepSs K g ws ss := by
  cases h with
  | cons a b => exact ⟨_, _, rfl, a, b⟩
theorem ds_par {i j : Nat} {x y : Str} {px py pt : Pos} {kt k2 : Nat} {pt2 : Pos} (hc : X.calm = true) (hN : X.N.Nodup) (hi : X.N[i]? = some x) (hj : X.N[j]? = some y) (hij : i ≠ j) (hx : X.env.scope.names.lookup x = some .local) (hy : X.env.scope.names.lookup y = some .local)
    (hw : swappedStores [.Tuple [.Name x px, .Name y py] kt pt] (.Tuple [a, b] k2 pt2) X.env = pure (some [x, y])) (ha : DE X C W a ma) (hb : DE X C W b mb) (h1 : nst a = true) (h2 : nst b = true) :
    DS X C W (.Assign [.Tuple [.Name x px, .Name y py] kt pt] (.Tuple [a, b] k2 pt2) pos) (bnd ma fun s => bnd mb fun t => bnd (setS i s) fun _ => bnd (setS j t) fun _ => ret .nxt) := by
  refine (ps_par hc hN hi hj hij hx hy (da_two ha hb h1 h2) hw).imp fun D σ H h => ?_
  have h' : tS X.K C W (bnd (bnd ma fun s => bnd mb fun t => ret [s, t]) fun ss => match ss with | [s, t] => bnd (setS i s) fun _ => bnd (setS j t) fun _ => ret .nxt | _ => stk) D σ H := by
    obtain ⟨e, g, re, p⟩ := h
    refine ⟨e, g, re, ?_⟩
    rw [bnd_assoc]
    simp only [bnd_assoc, bnd_ret]
    exact p
  refine h'.bind fun vs H1 ss e1 g1 re1 rv p => ?_
  rcases ss with _ | ⟨s, _ | ⟨t, _ | ⟨u, ss⟩⟩⟩
  · exact p.elim
  · exact p.elim
  · obtain ⟨v1, ws, rfl, r1, rv⟩ := rv.one
    obtain ⟨v2, ws2, rfl, r2, rv⟩ := rv.one
    cases rv
    exact ⟨_, _, rfl, PostS.set (e := ⟨e1.sl.set i s, e1.cs⟩) (re1.set r1) r2 p⟩
  · exact p.elim
theorem ds_par3 {i j l : Nat} {x y z : Str} {px py pz pt : Pos} {kt k2 : Nat} {pt2 : Pos} (hcm : X.calm = true) (hN : X.N.Nodup) (hi : X.N[i]? = some x) (hj : X.N[j]? = some y) (hl : X.N[l]? = some z) (hij : i ≠ j) (hil : i ≠ l) (hjl : j ≠ l) (hx : X.env.scope.names.lookup x = some .local) (hy : X.env.scope.names.lookup y = some .local) (hz : X.env.scope.names.lookup z = some .local)
    (hw : swappedStores [.Tuple [.Name x px, .Name y py, .Name z pz] kt pt] (.Tuple [a, b, c] k2 pt2) X.env = pure (some [x, y, z])) (ha : DE X C W a ma) (hb : DE X C W b mb) (hc : DE X C W c mc) (h1 : nst a = true) (h2 : nst b = true) (h3 : nst c = true) :
    DS X C W (.Assign [.Tuple [.Name x px, .Name y py, .Name z pz] kt pt] (.Tuple [a, b, c] k2 pt2) pos) (bnd ma fun s => bnd mb fun t => bnd mc fun u => bnd (setS i s) fun _ => bnd (setS j t) fun _ => bnd (setS l u) fun _ => ret .nxt) := by
  refine (ps_par3 hcm hN hi hj hl hij hil hjl hx hy hz (da_three ha hb hc h1 h2 h3) hw).imp fun D σ H h => ?_
  have h' : tS X.K C W (bnd (bnd ma fun s => bnd mb fun t => bnd mc fun u => ret [s, t, u]) fun ss => match ss with | [s, t, u] => bnd (setS i s) fun _ => bnd (setS j t) fun _ => bnd (setS l u) fun _ => ret .nxt | _ => stk) D σ H := by
    obtain ⟨e, g, re, p⟩ := h
    refine ⟨e, g, re, ?_⟩
    simp only [bnd_assoc, bnd_ret]
    exact p
  refine h'.bind fun vs H1 ss e1 g1 re1 rv p => ?_
  rcases ss with _ | ⟨s, _ | ⟨t, _ | ⟨u, _ | ⟨u2, ss⟩⟩⟩⟩
  · exact p.elim
  · exact p.elim
  · exact p.elim
  · obtain ⟨v1, ws, rfl, r1, rv⟩ := rv.one
    obtain ⟨v2, ws2, rfl, r2, rv⟩ := rv.one
    obtain ⟨v3, ws3, rfl, r3, rv⟩ := rv.one
    cases rv
    exact ⟨_, _, _, rfl, PostS.set (e := ⟨(e1.sl.set i s).set j t, e1.cs⟩) ((re1.set r1).set (e := ⟨e1.sl.set i s, e1.cs⟩) r2) r3 p⟩
  · exact p.elim
theorem PostS.d {β : Type} {K : PySem.W.Frag} {σ : St} {g : Gh} {H : Hp} {e : En} {D : Ends} {f : DL.D → M Fl} {v : V} (re : Rel K e σ H g) {s : Sl} (r : RepS K g v s) (h : PostS K C W D g H (bnd (dOf s) f e)) :
    ∃ d e' g', Rel K e' σ H g' ∧ Stp g H g' H ∧ Dr K g'.G v d ∧ e'.sl = e.sl ∧ g'.adr = g.adr ∧ PostS K C W D g' H (f d e') := by
  unfold bnd at h
  cases hm : dOf s e with
  | ok d e' =>
    rw [hm] at h
    obtain ⟨g', re', st, q, h1, h2⟩ := re.d r hm
    exact ⟨d, e', g', re', st, q, h1, h2, h.shift st⟩
  | exc x e' => exact (dOf_noexc hm).elim
  | stuck => rw [hm] at h; exact h.elim
theorem PostS.getC {K : PySem.W.Frag} {σ : St} {g : Gh} {H : Hp} {e : En} {D : Ends} {f : Ce → M Fl} {k : Nat} {v : V} (re : Rel K e σ H g) (r : RepS K g v (.cel k)) (h : PostS K C W D g H (bnd (DL.getC k) f e)) :
    ∃ p c, g.adr[k]? = some p ∧ v = .ref p ∧ e.cs[k]? = some c ∧ CeAt K g H p c ∧ PostS K C W D g H (f c e) := by
  obtain ⟨p, hk, rfl⟩ := r
  unfold bnd DL.getC at h
  cases hc : e.cs[k]? with
  | none => rw [hc] at h; exact h.elim
  | some c => rw [hc] at h; exact ⟨p, c, hk, rfl, rfl, re.sto.cel k p c hk hc, h⟩
/-- what o[i] = v does -/
theorem put_of {K : PySem.W.Frag} {σ : St} {g : Gh} {H : Hp} {e : En} {D : Ends} {o i v : V} {p t s : Sl} (re : Rel K e σ H g) (ro : RepS K g o p) (ri : RepS K g i t) (rv : RepS K g v s) (h : PostS K C W D g H (bnd (putM p t s) (fun _ => ret .nxt) e)) : rSetL o i v H fun H3 => D.nx σ H3 := by
  cases p with
  | und => exact h.elim
  | xc _ _ => exact h.elim
  | val _ => exact h.elim
  | cel k =>
    simp only [putM, bnd_assoc] at h
    obtain ⟨di, rdi, h⟩ := h.rd re ri
    obtain ⟨dv, e1, g1, re1, st1, drv, _, ha, h⟩ := PostS.d (β := Unit) re rv h
    obtain ⟨q, c, hk, rfl, hc, ce, h⟩ := h.getC re1 (ro.mono st1.le)
    cases c with
    | gone => exact h.elim
    | dct _ _ => exact h.elim
    | rls _ => exact h.elim
    | lst xs =>
      cases rdi with
      | int j =>
        obtain ⟨n, ys, hy, t1⟩ := ce
        cases hx : ixP xs.length j with
        | none => simp only [hx] at h; exact h.elim
        | some n' =>
          simp only [hx] at h
          refine ⟨q, ys, j, n', rfl, rfl, hy, ?_, ?_⟩
          · rw [t1.length]; exact hx
          · obtain ⟨re2, st2⟩ := re1.putC (o := .lst (ys.set n' v)) (c := .lst (xs.set n' dv)) hk n ⟨n, _, upd_same, t1.set n' drv⟩
            exact PostS.nxt (e := ⟨e1.sl, e1.cs.set k (.lst (xs.set n' dv))⟩) (h.shift st2) σ re2
      | _ => exact h.elim
theorem ds_sub {o i : Expr} {mo mi : M Sl} {pos' : Pos} (hs : swapsWithSole [.Subscript o i pos'] e pos.line X.env = pure false) (ho : DE X C W o mo) (hi : DE X C W i mi) (he : DE X C W e me) (hsl : ∀ v, assign (.Subscript o i pos') X.env v = (do
      let ov ← holding [v] (eval o X.env)
      let iv ← holding [v, ov] (eval i X.env)
      standAt pos'
      holding [v, ov, iv] (setItem ov iv v)
      release [v, ov, iv] [])) (hw : swappedStores [.Subscript o i pos'] e X.env = pure none) (h1 : (assignEach [.Subscript o i pos'] X.env).map (·.2) = [assign (.Subscript o i pos') X.env]) :
    DS X C W (.Assign [.Subscript o i pos'] e pos) (bnd me fun s => bnd mo fun p => bnd mi fun t => bnd (putM p t s) fun _ => ret .nxt) := by
  refine (ps_asg he (pg_sub ho hi set_list hsl) hs hw h1).imp fun D σ H h => ?_
  refine h.bind fun v H1 s e1 g1 re1 rv p => ?_
  refine p.bind re1 fun o H2 so e2 g2 re2 st2 ro p2 => p2.bind re2 fun i H3 si e3 g3 re3 st3 ri p3 => ?_
  exact put_of re3 (ro.mono st3.le) ri (rv.mono (st2.le.trans st3.le)) p3
end
end DL
/-! DL, part n: dict stores, changes in place, tests, loops. -/
namespace DL
open PySem L2
variable [xb : Xb] [Tb]
section
variable {X : Cx} {C : Nat → Addr} {W : WX} {a b c e : Expr} {ma mb mc me : M Sl} {pos : Pos} {st : Stmt} {sts p q : List Stmt} {m1 m2 : M Fl}
theorem dput_of {K : PySem.W.Frag} {σ : St} {g : Gh} {H : Hp} {e : En} {D : Ends} {o i v : V} {p t s : Sl} (re : Rel K e σ H g) (ro : RepS K g o p) (ri : RepS K g i t) (rv : RepS K g v s) (h : PostS K C W D g H (bnd (putM2 p t s) (fun _ => ret .nxt) e)) :
    ∃ a H4, o = .ref a ∧ DPut H a i v H4 ∧ D.nx σ H4 := by
  cases p with
  | und => exact h.elim
  | xc _ _ => exact h.elim
  | val _ => exact h.elim
  | cel k =>
    simp only [putM2, bnd_assoc] at h
    obtain ⟨di, rdi, h⟩ := h.rd re ri
    obtain ⟨dv, e1, g1, re1, st1, drv, _, ha, h⟩ := PostS.d (β := Unit) re rv h
    obtain ⟨q, c, hk, rfl, hc, ce, h⟩ := h.getC re1 (ro.mono st1.le)
    cases c with
    | gone => exact h.elim
    | lst _ => exact h.elim
    | rls _ => exact h.elim
    | dct ks vs =>
      obtain ⟨n, kvs, hy, t1, t2⟩ := ce
      simp only at h
      have h : PostS K C W D g1 H (DL.req (keyD di && decide (ks.length < SZ)) (bnd (match lookD di ks vs with | some _ => DL.setC k (.dct ks (putVs di dv ks vs)) | none => DL.setC k (.dct (ks ++ [di]) (vs ++ [dv]))) fun _ => ret .nxt) e1) := by
        cases hb : (keyD di && decide (ks.length < SZ)) with
        | true => rw [hb] at h; exact h
        | false => rw [hb] at h; exact h.elim
      obtain ⟨hq, h⟩ := h.req
      simp only [Bool.and_eq_true, decide_eq_true_eq] at hq
      obtain ⟨key, hkey, hall⟩ : ∃ key : Key, i = kV key ∧ ∀ (k' : Key) (d' : DL.D), Dr K g1.G (kV k') d' → eqD d' di = decide (k' = key) := by
        cases rdi with
        | int j => exact keyD_of (H := H) (.int j) hq.1
        | str z => exact keyD_of (H := H) (.str z) hq.1
        | _ => cases hq.1
      have hdi : Dr K g1.G (kV key) di := by
        cases rdi with
        | int j => rw [← hkey]; exact .int j
        | str z => rw [← hkey]; exact .str z
        | _ => cases hq.1
      have hlen : kvs.length < sizeLine := by
        have := t1.length
        rw [List.length_map] at this
        rw [this, szl]; exact hq.2
      refine ⟨q, upd H q (.dK (putK kvs key v)), rfl, by rw [hkey]; exact DPut.k hy hlen, ?_⟩
      rcases look_of hall t1 t2 with ⟨z1, z2⟩ | ⟨x, u, z1, z2, _⟩
      · rw [z1] at h
        have e2 : putK kvs key v = kvs ++ [(key, v)] := by
          unfold putK
          rw [valV_any, z2]
          rfl
        rw [e2]
        obtain ⟨re2, st2⟩ := re1.putC (o := .dK (kvs ++ [(key, v)])) (c := .dct (ks ++ [di]) (vs ++ [dv])) hk n ⟨n, _, upd_same, by rw [List.map_append]; exact t1.append (.cons hdi .nil), by rw [List.map_append]; exact t2.append (.cons drv .nil)⟩
        exact PostS.nxt (e := ⟨e1.sl, e1.cs.set k (.dct (ks ++ [di]) (vs ++ [dv]))⟩) (h.shift st2) σ re2
      · rw [z1] at h
        have e2 : putK kvs key v = kvs.map fun kv => if kv.1 = key then (kv.1, v) else kv := by
          unfold putK
          rw [valV_any, z2]
          rfl
        rw [e2]
        obtain ⟨i1, i2⟩ := putV_of hall drv t1 t2
        obtain ⟨re2, st2⟩ := re1.putC (o := .dK (kvs.map fun kv => if kv.1 = key then (kv.1, v) else kv)) (c := .dct ks (putVs di dv ks vs)) hk n ⟨n, _, upd_same, by rw [i2]; exact t1, i1⟩
        exact PostS.nxt (e := ⟨e1.sl, e1.cs.set k (.dct ks (putVs di dv ks vs))⟩) (h.shift st2) σ re2
theorem ds_dput {o i : Expr} {mo mi : M Sl} {pos' : Pos} (hu : X.A.units + 1 < cLine) (hs : swapsWith e (some (.Subscript o i pos')) pos.line X.env = pure false) (ho : DE X C W o mo) (hi : DE X C W i mi) (he : DE X C W e me) :
    DS X C W (.Assign [.Subscript o i pos'] e pos) (bnd me fun s => bnd mo fun p => bnd mi fun t => bnd (putM2 p t s) fun _ => ret .nxt) := by
  refine (ps_dput hu ho hi he hs).imp fun D σ H h => ?_
  refine h.bind fun v H1 s e1 g1 re1 rv p => ?_
  refine p.bind re1 fun o H2 so e2 g2 re2 st2 ro p2 => p2.bind re2 fun i H3 si e3 g3 re3 st3 ri p3 => ?_
  exact dput_of re3 (ro.mono st3.le) ri (rv.mono (st2.le.trans st3.le)) p3
theorem ds_aug {i : Nat} {x : Str} {k : BinK} {pos' : Pos} (hN : X.N.Nodup) (hi : X.N[i]? = some x) (hx : Loc X.env.scope x) (hf : X.fn x = true ∨ X.env.scope.names.lookup x = some .local) (he : DE X C W e me) :
    DS X C W (.AugAssign (.Name x pos') (opK k) e pos) (bnd (getS i) fun s => bnd me fun t => bnd (rdOf s) fun x => bnd (rdOf t) fun y => bnd (augD k x y) fun r => bnd (setS i r) fun _ => ret .nxt) := by
  obtain ⟨r, ho, hop⟩ := aug_ok (X := X) (C := C) k
  refine (ps_aug hN hi hx he ho hf).imp fun D σ H h => ?_
  obtain ⟨e0, g, re, p⟩ := h
  rcases getS_cases i e0 with ⟨s, hs⟩ | hs
  · obtain ⟨_, v, hv, rs⟩ := re.slot hs
    have p : PostS X.K C W D g H (bnd me (fun t => bnd (rdOf s) fun x => bnd (rdOf t) fun y => bnd (augD k x y) fun r => bnd (setS i r) fun _ => ret .nxt) e0) := by
      have q := p
      unfold bnd at q
      rw [hs] at q
      exact q
    refine ⟨v, hv, ?_⟩
    refine PostS.bind (m := me) re p fun w H1 t e1 g1 re1 st1 rt p1 => ?_
    obtain ⟨dx, hdx, p1⟩ := p1.rd re1 (rs.mono st1.le)
    obtain ⟨dy, hdy, p1⟩ := p1.rd re1 rt
    have key : Post X.K C (RepS X.K) W σ g1 H1 (augD k dx dy e1) (fun z H2 => D.nx (σ.set i (some z)) H2) := by
      unfold bnd at p1
      cases hm : augD k dx dy e1 with
      | stuck => rw [hm] at p1; exact p1.elim
      | exc x e' => rw [hm] at p1; exact fun cls d g' H' re st q => p1 cls d σ g' H' re st q
      | ok r e' =>
        rw [hm] at p1
        intro z g' H' re' st' rz
        exact PostS.set re' rz (p1.shift st')
    exact hop W σ _ _ _ _ _ _ _ _ re1 hdx hdy key
  · unfold bnd at p; rw [hs] at p; exact p.elim
theorem ds_ite {mt : M Bool} (hc : DT X C W c mt) (ha : DSs X C W p m1) (hb : DSs X C W q m2) : DS X C W (.If c p q pos) (bnd mt fun t => iteM t m1 m2) := by
  refine (ps_if hc ha hb).imp fun D σ H h => ?_
  refine h.bind (R1 := RB) fun r H1 t e1 g1 re1 hr p => ?_
  have hr : r = t := hr
  subst hr
  cases r with
  | true => rw [if_pos rfl]; exact ⟨e1, g1, re1, p⟩
  | false => rw [if_neg Bool.false_ne_true]; exact ⟨e1, g1, re1, p⟩
/-- a loop's body -/
theorem PostS.body {K : PySem.W.Frag} {g : Gh} {H : Hp} {e : En} {D : Ends} {mb k : M Fl} {N : St → Hp → Prop} (h : PostS K C W D g H (bnd mb (fun fl => forK fl k) e))
    (hN : ∀ e' σ' g' H', Rel K e' σ' H' g' → Stp g H g' H' → PostS K C W D g' H' (k e') → N σ' H') : PostS K C W { D with nx := N, ct := N, bk := D.nx } g H (mb e) := by
  unfold bnd at h
  cases hm : mb e with
  | stuck => rw [hm] at h; exact h.elim
  | exc x e' => rw [hm] at h; exact h
  | ok fl e' =>
    rw [hm] at h
    intro σ' g' H' re' st
    cases fl with
    | nxt => exact hN e' σ' g' H' re' st (h.shift st)
    | cnt => exact hN e' σ' g' H' re' st (h.shift st)
    | brk => exact h σ' g' H' re' st
    | rtn s => exact h σ' g' H' re' st
theorem ds_for {tg iter : Expr} {t : Tg} {mi : M (List DL.D)} (hp : PassesOwn (model X.prog X.w) X.A X.env X.xe) (hc : X.calm = true) (hs : ∀ x, foldedSetIterable iter X.env x = pure x) (hi : DI X C W tg iter mi) (hg : PG X tg (tG X.K t)) (hb : DSs X C W p m1) :
    DS X C W (.For tg iter p [] pos) (bnd mi fun xs => forD t m1 xs) := by
  refine (ps_for hp hc hi hg hb hs).imp fun D σ H h => ?_
  refine h.bind (R1 := RI X.K) fun J H1 ds e1 g1 re1 ri p => ?_
  refine for_it ri (fun i σ' H' => ∃ ei gi, Rel X.K ei σ' H' gi ∧ Stp g1 H1 gi H' ∧ PostS X.K C W D gi H' (forD t m1 (ds.drop i) ei)) ?_ ?_ ?_ ?_
  · exact ⟨e1, g1, re1, Stp.refl _ _, by rw [List.drop_zero]; exact p⟩
  · rintro i σ' H' hi ⟨ei, gi, rel, st, _⟩
    exact st.le.le.trans rel.sto.gh
  · rintro i x σ' H0 H' hi ⟨ei, gi, rel, st, p⟩ ⟨d, hd, hy⟩
    have hdrop : ds.drop i = d :: ds.drop (i + 1) := by
      rw [List.drop_eq_getElem_cons hi]
      congr 1
      exact (List.getElem?_eq_some_iff.mp hd).2
    rw [hdrop] at p
    obtain ⟨g', rel', st', dr⟩ : ∃ g', Rel X.K ei σ' H' g' ∧ Stp gi H0 g' H' ∧ Dr X.K g'.G x d := by
      rcases hy with ⟨rfl, dr⟩ | ⟨T, us, es, rfl, hT, rfl, rfl, t⟩
      · exact ⟨gi, rel, Stp.refl _ _, dr.mono st.le.le⟩
      · obtain ⟨r2, s2⟩ := rel.newD (.tup us) hT
        exact ⟨_, r2, s2, .tup (SqT.of upd_same) (t.mono (st.le.le.trans s2.le.le))⟩
    have p := p.shift st'
    unfold forD at p
    cases hb : bindT t d ei with
    | stuck => unfold bnd at p; rw [hb] at p; exact p.elim
    | exc x e2 => exact (bindT_noexc _ _ _ _ _ hb).elim
    | ok u e2 =>
      have p : PostS X.K C W D g' H' (bnd m1 (fun fl => forK fl (forD t m1 (ds.drop (i + 1)))) e2) := by
        have := p
        unfold bnd at this
        rw [hb] at this
        exact this
      refine ⟨ei, g', d, rel', dr, e2, hb, fun σ2 rel2 _ => ⟨e2, g', rel2, p.body fun e3 σ3 g3 H3 rel3 st3 p3 => ?_⟩⟩
      exact ⟨e3, g3, rel3, st.trans (st'.trans st3), p3⟩
  · rintro σ' H' ⟨ei, gi, rel, st, p⟩
    rw [List.drop_length] at p
    exact p.nxt σ' rel
theorem PostS.chk {K : PySem.W.Frag} {g : Gh} {H : Hp} {e : En} {D : Ends} {c : Option Nat × List DL.D} {f : Unit → M Fl} (p : PostS K C W D g H (bnd (DL.chk c ()) f e)) : Pe c e ∧ PostS K C W D g H (f () e) := by
  unfold bnd at p
  cases hc : DL.chk c () e with
  | stuck => rw [hc] at p; exact p.elim
  | exc x e2 => exact (chk_noexc hc).elim
  | ok l e2 =>
    obtain ⟨_, h2, h3⟩ := chk_ok' hc
    rw [hc] at p
    simp only at p
    rw [h2] at p
    exact ⟨h2 ▸ h3, p⟩
/-- a loop's body, the walked list as it was -/
theorem PostS.bodyC {K : PySem.W.Frag} {g : Gh} {H : Hp} {e : En} {D : Ends} {mb k : M Fl} {c : Option Nat × List DL.D} {N : St → Hp → Prop} (h : PostS K C W D g H (bnd (bnd mb (DL.chk c)) (fun fl => forK fl k) e))
    (hN : ∀ e' σ' g' H', Rel K e' σ' H' g' → Stp g H g' H' → Pe c e' → PostS K C W D g' H' (k e') → N σ' H') : PostS K C W { D with nx := N, ct := N, bk := D.nx } g H (mb e) := by
  rw [bnd_assoc] at h
  unfold bnd at h
  cases hm : mb e with
  | stuck => rw [hm] at h; exact h.elim
  | exc x e' => rw [hm] at h; exact h
  | ok fl e' =>
    rw [hm] at h
    simp only at h
    cases hc : DL.chk c fl e' with
    | stuck => rw [hc] at h; exact h.elim
    | exc x e2 => exact (chk_noexc hc).elim
    | ok fl2 e2 =>
      obtain ⟨h1, h2, h3⟩ := chk_ok' hc
      subst h1; subst h2
      rw [hc] at h
      simp only at h
      intro σ' g' H' re' st
      cases fl2 with
      | nxt => exact hN e2 σ' g' H' re' st h3 (h.shift st)
      | cnt => exact hN e2 σ' g' H' re' st h3 (h.shift st)
      | brk => exact h σ' g' H' re' st
      | rtn s => exact h σ' g' H' re' st
theorem ds_forC {tg iter : Expr} {t : Tg} {mi : M (Option Nat × List DL.D)} (hp : PassesOwn (model X.prog X.w) X.A X.env X.xe) (hc : X.calm = true) (hs : ∀ x, foldedSetIterable iter X.env x = pure x) (hi : DIc X C W tg iter mi) (hg : PG X tg (tG X.K t)) (hb : DSs X C W p m1) :
    DS X C W (.For tg iter p [] pos) (bnd mi fun c => bnd (DL.chk c ()) fun _ => forD t (bnd m1 (DL.chk c)) c.2) := by
  refine (ps_for hp hc hi hg hb hs).imp fun D σ H h => ?_
  refine h.bind (R1 := RIc X.K) fun J H1 ds e1 g1 re1 ri p => ?_
  obtain ⟨hpe, p⟩ := PostS.chk p
  obtain ⟨P, Y, hw, hPY⟩ := ri
  refine for_it hw (fun i σ' H' => ∃ ei gi, Rel X.K ei σ' H' gi ∧ Stp g1 H1 gi H' ∧ Pe ds ei ∧ PostS X.K C W D gi H' (forD t (bnd m1 (DL.chk ds)) (ds.2.drop i) ei)) ?_ ?_ ?_ ?_
  · exact ⟨e1, g1, re1, Stp.refl _ _, hpe, by rw [List.drop_zero]; exact p⟩
  · rintro i σ' H' hi ⟨ei, gi, rel, st, hq, _⟩
    exact (hPY _ _ gi H' rel st.le hq).1
  · rintro i x σ' H0 H' hi ⟨ei, gi, rel, st, hq, p⟩ hyy
    obtain ⟨d, hd, hy⟩ := (hPY _ _ gi H0 rel st.le hq).2 i x H' hyy
    have hdrop : ds.2.drop i = d :: ds.2.drop (i + 1) := by
      rw [List.drop_eq_getElem_cons hi]
      congr 1
      exact (List.getElem?_eq_some_iff.mp hd).2
    rw [hdrop] at p
    obtain ⟨g', rel', st', dr⟩ : ∃ g', Rel X.K ei σ' H' g' ∧ Stp gi H0 g' H' ∧ Dr X.K g'.G x d := by
      rcases hy with ⟨rfl, dr⟩ | ⟨T, us, es, rfl, hT, rfl, rfl, t⟩
      · exact ⟨gi, rel, Stp.refl _ _, dr⟩
      · obtain ⟨r2, s2⟩ := rel.newD (.tup us) hT
        exact ⟨_, r2, s2, .tup (SqT.of upd_same) (t.mono s2.le.le)⟩
    have p := p.shift st'
    unfold forD at p
    cases hb : bindT t d ei with
    | stuck => unfold bnd at p; rw [hb] at p; exact p.elim
    | exc x e2 => exact (bindT_noexc _ _ _ _ _ hb).elim
    | ok u e2 =>
      have p : PostS X.K C W D g' H' (bnd (bnd m1 (DL.chk ds)) (fun fl => forK fl (forD t (bnd m1 (DL.chk ds)) (ds.2.drop (i + 1)))) e2) := by
        have e : ∀ F : Unit → M Fl, bnd (bindT t d) F ei = F u e2 := fun F => by
          unfold bnd
          rw [hb]
        have := p
        rw [e] at this
        exact this
      refine ⟨ei, g', d, rel', dr, e2, hb, fun σ2 rel2 _ => ⟨e2, g', rel2, p.bodyC fun e3 σ3 g3 H3 rel3 st3 hq3 p3 => ?_⟩⟩
      exact ⟨e3, g3, rel3, st.trans (st'.trans st3), hq3, p3⟩
  · rintro σ' H' ⟨ei, gi, rel, st, _, p⟩
    rw [List.drop_length] at p
    exact p.nxt σ' rel
theorem ds_whl {mt : M Bool} {n : Nat} (hp : PassesOwn (model X.prog X.w) X.A X.env X.xe) (hc : DT X C W c mt) (hb : DSs X C W p m1) : DS X C W (.While c p [] pos) (whl mt m1 n) := by
  refine (ps_while hp hc hb).imp fun D σ H h => ?_
  refine ⟨fun m σ' H' => ∃ e' g', Rel X.K e' σ' H' g' ∧ PostS X.K C W D g' H' (whl mt m1 m e'), ⟨n, h⟩, ?_⟩
  rintro m σ' H' ⟨e', g', rel, p⟩
  cases m with
  | zero => exact p.elim
  | succ m =>
    refine PostS.bind (R1 := RB) (m := mt) rel p fun r H1 b e1 g1 re1 st1 hr p => ?_
    have hr : r = b := hr
    subst hr
    cases r with
    | true =>
      rw [if_pos rfl]
      refine ⟨fun σ2 H2 => ∃ e2 g2, Rel X.K e2 σ2 H2 g2 ∧ PostS X.K C W D g2 H2 (whl mt m1 m e2), fun σ2 H2 q => ⟨m, Nat.lt_succ_self m, q⟩, e1, g1, re1, PostS.body p fun e3 σ3 g3 H3 rel3 st3 p3 => ⟨e3, g3, rel3, p3⟩⟩
    | false =>
      rw [if_neg Bool.false_ne_true]
      exact p.nxt σ' re1
end
end DL
/-! DL, part y: sorted(xs, key=f) over the heap, where f's calls may touch the frames' slots. -/
namespace DL
open PySem PySem.W PySem.Calls PyProof.Rows
/-- what stands stays; what stands at fs up to its slots -/
structure Kp (fs : List Addr) (h h' : Heap) : Prop where
  out : ∀ b o, h.get? b = some o → b ∉ fs → h'.get? b = some o
  inn : ∀ b o, h.get? b = some o → b ∈ fs → ∃ sl, h'.get? b = some { o with slots := sl }
section
variable {fs : List Addr} {h h' h2 : Heap}
theorem Kp.any (p : Kp fs h h') {b : Addr} {o : Obj} (e : h.get? b = some o) : ∃ sl, h'.get? b = some { o with slots := sl } := by
  by_cases hb : b ∈ fs
  · exact p.inn b o e hb
  · exact ⟨o.slots, p.out b o e hb⟩
theorem Kp.all (k : ∀ b o, h.get? b = some o → h'.get? b = some o) : Kp fs h h' := ⟨fun b o e _ => k b o e, fun b o e _ => ⟨o.slots, k b o e⟩⟩
theorem Kp.trans (p : Kp fs h h') (q : Kp fs h' h2) : Kp fs h h2 where
  out := fun b o e hb => q.out b o (p.out b o e hb) hb
  inn := fun b o e hb => by
    obtain ⟨sl, e1⟩ := p.inn b o e hb
    obtain ⟨sl', e2⟩ := q.inn b _ e1 hb
    exact ⟨sl', e2⟩
theorem Kp.but (p : Kp fs h h') {c : Addr} (hc : h.get? c = none) (k : ∀ b o, b ≠ c → h'.get? b = some o → h2.get? b = some o) : Kp fs h h2 := by
  have ne : ∀ b o, h.get? b = some o → b ≠ c := fun b o e z => by rw [z, hc] at e; cases e
  exact ⟨fun b o e hb => k b o (ne b o e) (p.out b o e hb), fun b o e hb => by
    obtain ⟨sl, e1⟩ := p.inn b o e hb
    exact ⟨sl, k b _ (ne b o e) e1⟩⟩
mutual
theorem reads_kp (p : Kp fs h h') : ∀ (d : PyData) (v : Value) (as : List Addr), alike d d = true → Reads h v d as → Reads h' v d as
  | .none, _, _, _, r => by cases r; exact .none
  | .bool b, _, _, _, r => by cases r; exact .bool b
  | .int i, _, _, _, r => by cases r; exact .int i _
  | .str x, _, _, _, r => by cases r; exact .str x _
  | .list ys, _, _, hal, r => by
    cases r with
    | list q1 q2 q3 q4 =>
      obtain ⟨sl, q⟩ := p.any q1
      exact .list q q2 q3 (readsAll_kp p ys _ _ (by simpa [alike] using hal) q4)
  | .tuple ys, _, _, hal, r => by
    cases r with
    | tuple q1 q2 q3 q4 =>
      obtain ⟨sl, q⟩ := p.any q1
      exact .tuple q q2 q3 (readsAll_kp p ys _ _ (by simpa [alike] using hal) q4)
  | .dict _, _, _, hal, _ => absurd hal (by simp [alike])
theorem readsAll_kp (p : Kp fs h h') : ∀ (ds : List PyData) (us : List Value) (as : List Addr), alikeAll ds ds = true → ReadsAll h us ds as → ReadsAll h' us ds as
  | [], _, _, _, r => by cases r; exact .nil
  | d :: ds, _, _, hal, r => by
    cases r with
    | cons q1 q2 => exact .cons (reads_kp p d _ _ (alike_all_cons hal).1 q1) (readsAll_kp p ds _ _ (alike_all_cons hal).2 q2)
end
end
/-- a key's call: all stays but for slots, the key is read -/
def KeyOf (fs : List Addr) (k : PyData) (s : Shared) (u : Value) (s2 : Shared) : Prop := Kp fs s.heap s2.heap ∧ s2.os = s.os ∧ AllBare s2.gens ∧ Reads s2.heap u k []
section
variable {prog : Program} {w : World} {A : Around} {E : Value → Shared → Prop} {s : Shared} {a kS : Addr} {vs : List Value} {kz : List PyData} {e1 : Nat} {P : PySem.Fin → Shared → Prop} {f : Value} {fs : List Addr} {h0 : Heap}
/-- the turns, and the end -/
theorem srt_turns (nfs : ∀ b ∈ fs, ∃ o, h0.get? b = some o) (na0 : h0.get? a = none) (nk0 : h0.get? kS = none) (hka : kS ≠ a) (kp : Kp fs h0 s.heap) (bare : AllBare s.gens)
    (nk : s.heap.get? kS = some (seqObj "list" #[] 0)) (na : s.heap.get? a = some (seqObj "list" #[] e1)) (hlen : kz.length = vs.length) (hZ : vs.length ≤ sizeLine) (hal : AllAlike kz) (hsk : Sortable kz) (hu : ∀ d, d ∈ kz → A.units + d.depth < cLine)
    (turn : ∀ (i : Nat) (v : Value) (k : PyData) (s' : Shared), vs[i]? = some v → kz[i]? = some k → Kp fs h0 s'.heap → s'.os = s.os → AllBare s'.gens → wpAny (model prog w) A (call f [v]) (KeyOf fs k s') (fun _ _ => False) s')
    (fin : ∀ s' out c, Kp fs h0 s'.heap → s'.os = s.os → AllBare s'.gens → s'.heap.get? a = some (seqObj "list" (List.toArray out) c) → KeyedOut false kz vs out → P (.done (.ret .none)) s') :
    wpAny (model prog w) A (ksk_rest a f false vs.toArray e1 (.ref kS)) P E s := by
  have afs : a ∉ fs := fun z => by
    obtain ⟨o, q⟩ := nfs a z
    rw [na0] at q; cases q
  have kfs : kS ∉ fs := fun z => by
    obtain ⟨o, q⟩ := nfs kS z
    rw [nk0] at q; cases q
  unfold ksk_rest
  refine wpAny_bind (wpAny_rule ?_)
  first
    | rw [List.forIn_toArray]
    | (rw [← Array.forIn_toList]; simp only [List.toList_toArray])
    | rw [← Array.forIn_toList]
  refine wpAny_bind (ksk_fold (fun i s' => ∃ (kA : Array Value) (ep : Nat), Kp fs h0 s'.heap ∧ s'.os = s.os ∧ AllBare s'.gens ∧ s'.heap.get? kS = some (seqObj "list" kA ep) ∧ s'.heap.get? a = some (seqObj "list" #[] e1) ∧ EachIs (fun v k => Reads s'.heap v k [] ∧ alike k k = true) kA.toList (kz.take i)) vs 0 s
    ⟨#[], 0, kp, rfl, bare, nk, na, by rw [List.take_zero]; exact EachIs.nil⟩ ?turns ?rest)
  case turns =>
    rintro j x s' hx ⟨kA, ep, p1, p2, p3, p4, p5, p6⟩
    simp only [Nat.zero_add] at p6 ⊢
    have hj : j < vs.length := (List.getElem?_eq_some_iff.mp hx).1
    have hkj : kz[j]? = some (kz[j]'(by omega)) := List.getElem?_eq_getElem (by omega)
    generalize kz[j]'(by omega) = k at hkj
    have hkk : alike k k = true := hal k (List.mem_of_getElem? hkj) k (List.mem_of_getElem? hkj)
    have hsz : kA.size ≤ vs.length := by
      have q := p6.length
      rw [Array.length_toList, List.length_take] at q
      omega
    refine wpAny_bind (wpAny_attempt (wpAny_mono (turn j x k s' hx hkj p1 p2 p3) (fun u s2 hk => ?_) fun _ _ z => z.elim))
    obtain ⟨k1, k2, k3, k4⟩ := hk
    try dsimp only
    have nk2 : s2.heap.get? kS = some (seqObj "list" kA ep) := k1.out _ _ p4 kfs
    have na2 : s2.heap.get? a = some (seqObj "list" #[] e1) := k1.out _ _ p5 afs
    have sb := Heap.SameBut.update s2.heap kS (Obj.mapSeq (·.push u))
    have hat : (s2.heap.update kS (Obj.mapSeq (·.push u))).get? kS = some (seqObj "list" (kA.push u) _) := get?_update_seq nk2 (·.push u)
    have eT : kz.take (j + 1) = kz.take j ++ [k] := by rw [List.take_add_one, hkj]; simp
    have eA : (kA.push u).toList = kA.toList ++ [u] := by simp
    refine wpAny_bind (listUpdate_at nk2 rfl ?_ (Nat.le_trans hsz hZ) (Nat.le_trans (Nat.le_of_eq (Array.size_push ..)) (Nat.succ_le_succ (Nat.le_trans hsz hZ))))
    have stay : ∀ (v : Value) (d : PyData), Reads s2.heap v d [] ∧ alike d d = true → Reads (s2.heap.update kS (Obj.mapSeq (·.push u))) v d [] ∧ alike d d = true := fun v d q =>
      ⟨Reads.keepBut (a := kS) (fun b o hb e => (sb.2 b hb).trans e) (fun o e => by rw [nk2] at e; rw [← Option.some.inj e]) d v [] q.2 q.1 (by simp), q.2⟩
    refine wpAny_pure ⟨rfl, kA.push u, _, (p1.trans k1).but nk0 fun b o hb e => (sb.2 b hb).trans e, k2.trans p2, k3, hat, (sb.2 a hka.symm).trans na2, ?_⟩
    rw [eA, eT]
    exact each_snoc (R := fun (v : Value) (d : PyData) => Reads (s2.heap.update kS (Obj.mapSeq (·.push u))) v d [] ∧ alike d d = true) (stay u k ⟨k4, hkk⟩) (p6.mono fun v d q => stay v d ⟨reads_kp k1 d v [] q.2 q.1, q.2⟩)
  case rest =>
    rintro s' ⟨kA, ep, p1, p2, p3, p4, p5, p6⟩
    have pe : EachIs (fun v k => ∃ as, Reads s'.heap v k as) kA.toList kz := by
      have e3 : kz.take (0 + vs.length) = kz := List.take_of_length_le (by omega)
      rw [e3] at p6
      exact p6.mono fun v k q => ⟨[], q.1⟩
    have hsz : kA.size = vs.length := by
      have q := pe.length
      rw [Array.length_toList] at q
      omega
    try dsimp only
    refine wpAny_bind (listItems_at p4 rfl ?_)
    refine keyH_end (κ := dataKind s'.heap kz) (h₁ := hideAll s'.heap [kS]) (s := s') (fun b o _ e => of_hideAll [kS] e) (hideAll_none [kS] (by simp)) p4 p5 hka (SortsAt.data (s := s') pe hal hsk hu) hsz hZ fun h3 tk3 c k3 n3 => ?_
    refine fin { s' with heap := h3, toks := tk3 } _ c ?_ p2 p3 n3 ⟨s'.heap, kA.toList, hal, rfl, pe⟩
    have old : ∀ b o, h0.get? b = some o → ∀ o', s'.heap.get? b = some o' → h3.get? b = some o' := fun b o e o' e' => by
      have n1 : b ≠ a := fun z => by rw [z, na0] at e; cases e
      have n2 : b ≠ kS := fun z => by rw [z, nk0] at e; cases e
      exact k3 b o' n1 (hideAll_get [kS] e' (by simpa using n2))
    exact ⟨fun b o e hb => old b o e _ (p1.out b o e hb), fun b o e hb => by
      obtain ⟨sl, q⟩ := p1.inn b o e hb
      exact ⟨sl, old b o e _ q⟩⟩
/-- list.sort on the copy -/
theorem srt_copy {n : Nat} (nfs : ∀ b ∈ fs, ∃ o, h0.get? b = some o) (na0 : h0.get? a = none) (old : ∀ b o, h0.get? b = some o → s.heap.get? b = some o) (bare : AllBare s.gens) (ho : s.heap.get? a = some (seqObj "list" vs.toArray n))
    (hlen : kz.length = vs.length) (hZ : vs.length ≤ sizeLine) (hal : AllAlike kz) (hsk : Sortable kz) (hu : ∀ d, d ∈ kz → A.units + d.depth < cLine)
    (turn : ∀ (i : Nat) (v : Value) (k : PyData) (s' : Shared), vs[i]? = some v → kz[i]? = some k → Kp fs h0 s'.heap → s'.os = s.os → AllBare s'.gens → wpAny (model prog w) A (call f [v]) (KeyOf fs k s') (fun _ _ => False) s')
    (fin : ∀ s' out c, Kp fs h0 s'.heap → s'.os = s.os → AllBare s'.gens → s'.heap.get? a = some (seqObj "list" (List.toArray out) c) → KeyedOut false kz vs out → P (.done (.ret .none)) s') :
    wpAny (model prog w) A (ksk_tree a f false) P E s := by
  have ha : a < s.heap.objs.size := Heap.lt_size ho
  have ho1 : (s.heap.update a (Obj.mapSeq fun _ => (#[] : Array Value))).get? a = some (seqObj "list" #[] _) := get?_update_seq ho fun _ => #[]
  have hsz : ((s.heap.update a (Obj.mapSeq fun _ => (#[] : Array Value))).push (seqObj "tuple" vs.toArray 0)).objs.size = s.heap.objs.size + 1 := by rw [size_push', Heap.size_update]
  have lt0 : ∀ b o, h0.get? b = some o → b < s.heap.objs.size := fun b o e => Heap.lt_size (old b o e)
  unfold ksk_tree
  refine wpAny_bind (listItems_at ho rfl ?_)
  refine wpAny_bind (listUpdate_at ho rfl ?_ (by rw [List.size_toArray]; exact hZ) (Nat.zero_le _))
  refine wpAny_bind (seqEpoch_at ho1 rfl ?_)
  refine wpAny_bind (wpAny_newTuple ?_ (by show vs.length ≤ _; exact hZ))
  refine wpAny_bind (wpAny_newList ?_ (Nat.zero_le _))
  refine wpAny_holding ?_
  refine srt_turns (s := { s with heap := ((s.heap.update a (Obj.mapSeq fun _ => (#[] : Array Value))).push (seqObj "tuple" vs.toArray 0)).push (seqObj "list" #[] 0) }) (kS := ((s.heap.update a (Obj.mapSeq fun _ => (#[] : Array Value))).push (seqObj "tuple" vs.toArray 0)).objs.size)
    nfs na0 ?_ (by rw [hsz]; exact Nat.ne_of_gt (Nat.lt_succ_of_lt ha)) (Kp.all fun b o e => ?_) bare (Heap.get?_push_size _ rfl) (Heap.get?_push_of_some _ (Heap.get?_push_of_some _ ho1)) hlen hZ hal hsk hu turn fin
  · cases q : h0.get? ((s.heap.update a (Obj.mapSeq fun _ => (#[] : Array Value))).push (seqObj "tuple" vs.toArray 0)).objs.size with
    | none => rfl
    | some o =>
      have := lt0 _ o q
      rw [hsz] at this
      exact absurd (Nat.lt_of_succ_lt this) (Nat.lt_irrefl _)
  · have hb : b ≠ a := fun z => by rw [z, na0] at e; cases e
    exact sortingHeap_old hb (old b o e)
/-- sorted(x, key=f), x anything that is collected -/
theorem srt_run {x : Value} {Q : Value → Shared → Prop} {F : List Value → Prop} (hf : ∃ q, f = .ref q) (bare : AllBare s.gens) (nfs : ∀ b ∈ fs, ∃ o, s.heap.get? b = some o) (hal : AllAlike kz) (hsk : Sortable kz) (hu : ∀ d, d ∈ kz → A.units + 2 + d.depth < cLine)
    (hcol : ∀ {Q' : List Value → Shared → Prop}, (∀ vs h' tk, (∀ b o, s.heap.get? b = some o → h'.get? b = some o) → F vs → vs.length ≤ sizeLine → Q' vs { s with heap := h', toks := tk }) → wpAny (model prog w) A.in1 (collect x) Q' E s)
    (hF : ∀ vs, F vs → kz.length = vs.length)
    (turn : ∀ (vs : List Value) (i : Nat) (v : Value) (k : PyData) (s' : Shared), F vs → vs[i]? = some v → kz[i]? = some k → Kp fs s.heap s'.heap → s'.os = s.os → AllBare s'.gens → wpAny (model prog w) A.in1.in1 (call f [v]) (KeyOf fs k s') (fun _ _ => False) s')
    (fin : ∀ vs s' a out c, F vs → s.heap.get? a = none → Kp fs s.heap s'.heap → s'.os = s.os → AllBare s'.gens → s'.heap.get? a = some (seqObj "list" (List.toArray out) c) → KeyedOut false kz vs out → Q (.ref a) s') :
    wpAny (model prog w) A (call (.builtin "sorted") [x] [(Str.ofString "key", f)]) Q E s := by
  obtain ⟨q, rfl⟩ := hf
  refine call_function_entry_kw kind_sorted plain_sorted entry_sorted (ksk_s1 _ _) ?_
  unfold Builtin.«sorted»
  refine wpAny_bind (m := checkCount "sorted" 1 1 _) (wpAny_pure ?_)
  refine wpAny_bind (hcol fun vs h' tk ext hv hz => ?_)
  refine wpAny_bind (wpAny_newList ?_ hz)
  have at_ : (h'.push { cls := .type "list", data := .seq vs.toArray }).get? h'.objs.size = some (seqObj "list" vs.toArray 0) := Heap.get?_push_size _ rfl
  have na0 : s.heap.get? h'.objs.size = none := by
    cases e : s.heap.get? h'.objs.size with
    | none => rfl
    | some o => exact absurd (Heap.lt_size (ext _ _ e)) (Nat.lt_irrefl _)
  refine wpAny_bind (wpAny_holding (wpAny_call_entry_kw slot_list_sort ⟨_, at_, rfl⟩ entry_list_sort ?_ (ksk_l1 _ _)))
  show wpAny (model prog w) A.in1.in1 (Builtin.«list.sort» ⟨[.ref h'.objs.size], [(Str.ofString "key", .ref q)]⟩) _ _ _
  rw [ksk_t1]
  refine srt_copy (fs := fs) (h0 := s.heap) (kz := kz) nfs na0 (fun b o e => Heap.get?_push_of_some _ (ext b o e)) bare at_ (hF vs hv) hz hal hsk (fun d hd => ?_) (fun i v k s' h1 h2 h3 h4 h5 => turn vs i v k s' hv h1 h2 h3 h4 h5) fun s' out c h1 h2 h3 h4 h5 => ?_
  · exact hu d hd
  · exact ⟨_, rfl, wpAny_pure ⟨_, rfl, fin vs s' _ out c hv na0 h1 h2 h3 h4 h5⟩⟩
end
end DL
/-! DL, part z: the lambda of sorted(xs, key=lambda x: ..): what it sees stands still while keys are made. -/
namespace DL
open PySem L2 LamX PySem.Spec PyProof.Rows PySem.W
/-- a list or tuple, live or known -/
def coreO : HO → Option HO
  | .lst xs => some (.lst xs)
  | .tup xs => some (.tup xs)
  | .frz _ (.lst xs) => some (.lst xs)
  | .frz _ (.tup xs) => some (.tup xs)
  | _ => none
/-- the heap as known objects -/
def fzH (H : Hp) (h : Heap) : Hp := fun b => match H b, h.get? b with
  | some u, some o => (coreO u).map fun v => .frz o v
  | _, _ => none
theorem fzH_none {H : Hp} {h : Heap} {b : Addr} (n : H b = none) : fzH H h b = none := by unfold fzH; rw [n]
theorem fzH_some {H : Hp} {h : Heap} {b : Addr} {u : HO} (e : fzH H h b = some u) : ∃ o v v', u = .frz o v ∧ H b = some v' ∧ coreO v' = some v ∧ h.get? b = some o := by
  unfold fzH at e
  cases q1 : H b with
  | none => rw [q1] at e; cases e
  | some v' =>
    cases q2 : h.get? b with
    | none => rw [q1, q2] at e; cases e
    | some o =>
      rw [q1, q2] at e
      cases q3 : coreO v' with
      | none => simp only [q3, Option.map_none] at e; cases e
      | some v =>
        simp only [q3, Option.map_some, Option.some.injEq] at e
        exact ⟨o, v, v', e.symm, rfl, q3, rfl⟩
theorem fzH_at {H : Hp} {h : Heap} {b : Addr} {v v' : HO} {o : Obj} (e1 : H b = some v') (e2 : coreO v' = some v) (e3 : h.get? b = some o) : fzH H h b = some (.frz o v) := by
  unfold fzH
  rw [e1, e3]
  simp only [e2, Option.map_some]
theorem core_cases {v v' : HO} (h : coreO v' = some v) : (∃ xs, v = .lst xs ∧ (v' = .lst xs ∨ ∃ o, v' = .frz o (.lst xs))) ∨ (∃ xs, v = .tup xs ∧ (v' = .tup xs ∨ ∃ o, v' = .frz o (.tup xs))) := by
  unfold coreO at h
  split at h
  · cases h; exact .inl ⟨_, rfl, .inl rfl⟩
  · cases h; exact .inr ⟨_, rfl, .inl rfl⟩
  · cases h; exact .inl ⟨_, rfl, .inr ⟨_, rfl⟩⟩
  · cases h; exact .inr ⟨_, rfl, .inr ⟨_, rfl⟩⟩
  · cases h
theorem ok_there {P : Program} {w : World} {H : Hp} {h : Heap} (ok : HOk P w H h) {b : Addr} {v v' : HO} (e : H b = some v') (c : coreO v' = some v) : ∃ o, h.get? b = some o := by
  have q := ok b v' e
  rcases core_cases c with ⟨xs, _, rfl | ⟨o, rfl⟩⟩ | ⟨xs, _, rfl | ⟨o, rfl⟩⟩
  · obtain ⟨_, its, n, _, z⟩ := q; exact ⟨_, z⟩
  · exact ⟨o, q.1⟩
  · obtain ⟨_, its, _, ob, z, _⟩ := q; exact ⟨_, z⟩
  · exact ⟨o, q.1⟩
theorem ok_core {P : Program} {w : World} {H H' : Hp} {h h' : Heap} (ok : HOk P w H h) {b : Addr} {v v' : HO} (e : H b = some v') (c : coreO v' = some v) (k : ∀ o, h.get? b = some o → h'.get? b = some o) : ObjOk P w H' h' b v := by
  have q := ok b v' e
  rcases core_cases c with ⟨xs, rfl, rfl | ⟨o, rfl⟩⟩ | ⟨xs, rfl, rfl | ⟨o, rfl⟩⟩
  · obtain ⟨z, its, n, r, y⟩ := q; exact ⟨z, its, n, r, k _ y⟩
  · obtain ⟨_, z, its, n, r, y⟩ := q; exact ⟨z, its, n, r, k _ y⟩
  · obtain ⟨z, its, r, ob, y, y2⟩ := q; exact ⟨z, its, r, ob, k _ y, y2⟩
  · obtain ⟨_, z, its, r, ob, y, y2⟩ := q; exact ⟨z, its, r, ob, k _ y, y2⟩
theorem fzH_ok {P : Program} {w : World} {H : Hp} {h h' : Heap} (ok : HOk P w H h) (k : ∀ b o, H b ≠ none → h.get? b = some o → h'.get? b = some o) : HOk P w (fzH H h) h' := fun b u e => by
  obtain ⟨o, v, v', rfl, e1, e2, e3⟩ := fzH_some e
  have hb : H b ≠ none := by rw [e1]; simp
  exact ⟨k b o hb e3, ok_core ok e1 e2 fun o q => k b o hb q⟩
/-! ### data that stands still -/
section
variable {K : PySem.W.Frag} {G H : Hp} {h : Heap}
theorem _root_.L2.SqT.fz (hh : ∀ b v v', H b = some v' → coreO v' = some v → ∃ o, h.get? b = some o) (l : LeH G H) {a : Addr} {xs : List V} (q : SqT K G a xs) : SqT K (fzH H h) a xs := by
  rcases q with (q | ⟨o, q⟩) | q
  · obtain ⟨o', z⟩ := hh a _ _ (l _ _ q) rfl
    exact .inl (.inr ⟨o', fzH_at (l _ _ q) rfl z⟩)
  · obtain ⟨o', z⟩ := hh a _ _ (l _ _ q) rfl
    exact .inl (.inr ⟨o', fzH_at (l _ _ q) rfl z⟩)
  · exact .inr q
theorem _root_.L2.SqL.fz (hh : ∀ b v v', H b = some v' → coreO v' = some v → ∃ o, h.get? b = some o) (l : LeH G H) {a : Addr} {xs : List V} (q : SqL K G a xs) : SqL K (fzH H h) a xs := by
  rcases q with (q | ⟨o, q⟩) | q
  · obtain ⟨o', z⟩ := hh a _ _ (l _ _ q) rfl
    exact .inl (.inr ⟨o', fzH_at (l _ _ q) rfl z⟩)
  · obtain ⟨o', z⟩ := hh a _ _ (l _ _ q) rfl
    exact .inl (.inr ⟨o', fzH_at (l _ _ q) rfl z⟩)
  · exact .inr q
mutual
theorem Dr.fz (hh : ∀ b v v', H b = some v' → coreO v' = some v → ∃ o, h.get? b = some o) (l : LeH G H) : ∀ {v : V} {d : D}, Dr K G v d → fzOk d = true → Dr K (fzH H h) v (fzD d)
  | _, _, .non, _ => .non
  | _, _, .bl b, _ => .bl b
  | _, _, .int i, _ => .int i
  | _, _, .str s, _ => .str s
  | _, _, .lst q t, ok => .frl (SqL.fz hh l (SqL.of q)) (Drs.fz hh l t ok)
  | _, _, .tup q t, ok => .tup (SqT.fz hh l q) (Drs.fz hh l t ok)
  | _, _, .dct _ _ _, ok => by cases ok
  | _, _, .frl q t, ok => .frl (SqL.fz hh l q) (Drs.fz hh l t ok)
theorem Drs.fz (hh : ∀ b v v', H b = some v' → coreO v' = some v → ∃ o, h.get? b = some o) (l : LeH G H) : ∀ {vs : List V} {ds : List D}, Drs K G vs ds → fzOks ds = true → Drs K (fzH H h) vs (fzDs ds)
  | _, _, .nil, _ => .nil
  | _, _, .cons (d := d) (ds := ds) q t, ok => by
    have ok : (fzOk d && fzOks ds) = true := ok
    rw [Bool.and_eq_true] at ok
    exact .cons (Dr.fz hh l q ok.1) (Drs.fz hh l t ok.2)
end
theorem fzV_rep [xb : Xb] (hh : ∀ b v v', H b = some v' → coreO v' = some v → ∃ o, h.get? b = some o) (l : LeH G H) {v : V} {d : D} (q : Dr K G v d) : fzV d = .und ∨ RepS K ⟨fzH H h, []⟩ v (fzV d) := by
  unfold fzV
  cases e : fzOk d with
  | true => exact .inr (Dr.fz hh l q e)
  | false => exact .inl rfl
end
/-! ### the lambda's names -/
/-- one parameter, captured names, globals -/
structure LamP (N : List Str) (sc scope : Scope) (i : Nat) (x : Str) : Prop where
  kind : scope.kind = .function
  co : scope.isCoroutine = false
  gen : scope.isGenerator = false
  own : ∀ y ∈ scope.names, y.2 ≠ .cell ∧ (y.2 = .local → y.1 = x)
  par : scope.names.lookup x = some .local
  ix : N[i]? = some x
  free : ∀ y ∈ scope.names, y.2 = .free → sc.names.lookup y.1 = some .cell ∨ sc.names.lookup y.1 = some .free
def lamPB (N : List Str) (sc scope : Scope) (i : Nat) (x : Str) : Bool :=
  decide (scope.kind = .function) && !scope.isCoroutine && !scope.isGenerator && decide (scope.names.lookup x = some .local) && decide (N[i]? = some x) &&
  scope.names.all fun y => !decide (y.2 = .cell) && (!decide (y.2 = .local) || decide (y.1 = x)) && (!decide (y.2 = .free) || decide (sc.names.lookup y.1 = some .cell) || decide (sc.names.lookup y.1 = some .free))
theorem lamP_by {N : List Str} {sc scope : Scope} {i : Nat} {x : Str} (h : lamPB N sc scope i x = true) : LamP N sc scope i x := by
  unfold lamPB at h
  simp only [Bool.and_eq_true, Bool.or_eq_true, Bool.not_eq_true', decide_eq_true_eq, decide_eq_false_iff_not, List.all_eq_true] at h
  obtain ⟨⟨⟨⟨⟨h1, h2⟩, h3⟩, h4⟩, h5⟩, h6⟩ := h
  refine ⟨h1, h2, h3, fun y hy => ⟨(h6 y hy).1.1, fun e => ?_⟩, h4, h5, fun y hy e => ?_⟩
  · rcases (h6 y hy).1.2 with z | z
    · exact absurd e z
    · exact z
  · rcases (h6 y hy).2 with (z | z) | z
    · exact absurd e z
    · exact .inl z
    · exact .inr z
theorem LamP.has {X : Cx} {N : List Str} {scope : Scope} {i : Nat} {x : Str} (L : LamP N X.env.scope scope i x) (ok : X.Ok) : ∀ y ∈ scope.names, y.2 = .free → ∃ c, X.env.cells.lookup y.1 = some c := fun y hy e => by
  rcases L.free y hy e with k | k
  · exact ok.has _ (.inl k)
  · exact ok.has _ (.inr k)
section
variable {X : Cx} {pins : List (Addr × Obj)} {σ : L2.St} {H : Hp} {s s1 : Shared}
/-- the frames that run, their slots changed -/
theorem funs_kp {base h h' : Heap} {fs : List Addr} (kp : Kp fs h h') : ∀ {l : List Env}, h.FunFrames base l → h'.FunFrames base l
  | [], _ => trivial
  | env :: l, hl => by
    obtain ⟨hk, ⟨L, o, hf, hn, ho, hd⟩, hr⟩ := hl
    obtain ⟨sl, e⟩ := kp.any ho
    exact ⟨hk, ⟨L, _, hf, hn, e, hd⟩, funs_kp kp hr⟩
theorem _root_.L2.Inv.nfs (I : Inv X pins σ H s) : ∀ b ∈ frs X.stack, ∃ o, s.heap.get? b = some o := fun b hb => by
  obtain ⟨_, o, ho, _⟩ := I.stack.mem hb
  exact ⟨o, ho⟩
theorem _root_.L2.Inv.tfs (I : Inv X pins σ H s) {b : Addr} (h : H b ≠ none) : b ∉ frs X.stack := fun z => h (I.stkFree b z)
/-- what a key's call wants -/
theorem _root_.L2.Inv.env0z (I : Inv X pins σ H s) (kp : Kp (frs X.stack) s.heap s1.heap) (bare : AllBare s1.gens) : Env0 X.prog X.w X.K X.mg X.base X.A.in1.in1 X.stack s1 (fzH H s.heap) := by
  refine ⟨I.ok.frames, I.ok.mod, fun b o e => ?_, ?_, funs_kp kp I.stack, fun b hb => fzH_none (I.stkFree b hb), fzH_ok I.hok fun b o hb e => kp.out b o e (I.tfs hb), bare⟩
  · obtain ⟨e1, e2⟩ := I.bs b o e
    refine ⟨kp.out b o e1 fun z => ?_, fzH_none e2⟩
    have := (I.stack.mem z).1
    rw [e] at this
    cases this
  · obtain ⟨m, ⟨o, es, ep, ho, _⟩, _⟩ := I.loc
    obtain ⟨sl, e⟩ := kp.any ho
    exact Nat.le_trans (Nat.le_trans I.ok.bsz I.ok.above) (Nat.le_of_lt (Heap.lt_size e))
/-- the lambda begins -/
theorem lam_begin {scope : Scope} {f c' : Addr} {i : Nat} {x : Str} {h₁ : Heap} {tk : Nat} {v : V} {u : Value} (I : Inv X pins σ H s) (L : LamP X.N X.env.scope scope i x) (nd : X.N.Nodup) (kp : Kp (frs X.stack) s.heap s1.heap) (bare : AllBare s1.gens) (hd : X.A.handled = none)
    (hns : h₁.Ns s1.heap.objs.size fun y => ([(x, u)] : List (Str × Value)).reverse.lookup y) (ext : ∀ b o, s1.heap.get? b = some o → h₁.get? b = some o) (ru : RelV v u) :
    Inv (lamCx X X.A.in1.in1 X.stack s1 (fzH H s.heap) (fun _ _ _ => False) scope f c') [] (σ.set i (some v)) (fzH H s.heap) { s1 with heap := h₁, toks := tk } := by
  have e0 := I.env0z kp bare
  have hfree := L.has I.ok
  have cm : ∀ {y c}, (cloFrom X.env.cells scope.names []).lookup y = some c → X.env.cells.lookup y = some c := fun {y c} e => by
    rcases cloFrom_mem (PySem.mem_of_lookup e) with hm | ⟨h1, h2⟩
    · cases hm
    · obtain ⟨c1, hc⟩ := hfree _ h1 rfl
      have hc : X.env.cells.lookup y = some c1 := hc
      have e2 : c = c1 := by rw [h2, hc] <;> rfl
      rw [e2]; exact hc
  have look : ∀ {y}, scope.names.lookup y = some .free → ∃ c, (cloFrom X.env.cells scope.names []).lookup y = some c := fun {y} hl => mem_lookup (cloFrom_has (cells := X.env.cells) (acc := []) (PySem.mem_of_lookup hl))
  have cellK : ∀ {c : Addr} {v : Option Value}, s.heap.IsCell c v → h₁.IsCell c v := fun {c v} ⟨o, ho, hd⟩ => by
    obtain ⟨sl, q⟩ := kp.any ho
    exact ⟨_, ext _ _ q, hd⟩
  have noA : ∀ b : Addr, b ∉ (lamCx X X.A.in1.in1 X.stack s1 (fzH H s.heap) (fun _ _ _ => False) scope f c').ex := fun b z => absurd (show b ∈ ([] : List Addr) from z) (by simp)
  refine ⟨⟨e0.mod, L.kind, rfl, rfl, Nat.le_refl _, fun y z c e1 e2 => I.ok.inj y z c (cm e1) (cm e2), fun y hy => ?_, fun y c z _ => ?_, fun _ => hd, Around.frames_deeper e0.frames, .inr ⟨rfl, rfl⟩, fun b z => absurd z (noA b), e0.bs, e0.bsz, fun b _ _ => noA b,
      fun b z => absurd z (noA b), e0.funs, e0.frf⟩,
    rfl, e0.bare, Un.kept ext, ⟨_, hns, fun j y z e1 e2 e3 => ?_⟩, fun y c e => ?_, e0.hok.fresh (Nat.le_refl _), fun y c e => fzH_none (I.freeC y c (cm e)), fun q hq => absurd (show q ∈ ([] : List (Addr × Obj)) ++ [] from hq) (by simp), e0.hok.kept ext, by rw [List.length_set]; exact I.len⟩
  · have hy : scope.names.lookup y = some .cell ∨ scope.names.lookup y = some .free := hy
    rcases hy with hy | hy
    · exact absurd rfl (L.own _ (PySem.mem_of_lookup hy)).1
    · exact look hy
  · have z : false = true := z
    cases z
  · have e3 : Vis scope y := e3
    rcases e3 with k | k | k
    · have hyx : y = x := (L.own _ (PySem.mem_of_lookup k)).2 rfl
      subst hyx
      have hji : j = i := by
        obtain ⟨l1, q1⟩ := List.getElem?_eq_some_iff.mp (show X.N[j]? = some y from e1)
        obtain ⟨l2, q2⟩ := List.getElem?_eq_some_iff.mp L.ix
        exact (List.getElem_inj nd).mp (q1.trans q2.symm)
      subst hji
      have hl : j < σ.length := by rw [I.len]; exact (List.getElem?_eq_some_iff.mp L.ix).1
      rw [List.getElem?_set_self hl] at e2
      cases e2
      exact ⟨u, ru, .inl ⟨k, by simp⟩⟩
    · exact absurd rfl (L.own _ (PySem.mem_of_lookup k)).1
    · have hne : j ≠ i := fun z => by
        subst z
        have e1 : X.N[j]? = some y := e1
        rw [L.ix] at e1
        cases e1
        rw [L.par] at k
        cases k
      rw [List.getElem?_set_ne (Ne.symm hne)] at e2
      obtain ⟨m, hn, hl⟩ := I.loc
      have hvis : Vis X.env.scope y := (L.free _ (PySem.mem_of_lookup k) rfl).elim (fun k => .inr (.inl k)) (fun k => .inr (.inr k))
      obtain ⟨w', r, q⟩ := hl j y z e1 e2 hvis
      obtain ⟨c2, h2⟩ := look k
      refine ⟨w', r, .inr ⟨.inr k, c2, h2, ?_⟩⟩
      have c1 := cm h2
      rcases q with ⟨k', _⟩ | ⟨_, c3, e', z⟩
      · have k' : X.env.scope.names.lookup y = some .local := k'
        rcases L.free _ (PySem.mem_of_lookup k) rfl with k2 | k2 <;> rw [show X.env.scope.names.lookup y = _ from k2] at k' <;> cases k'
      · rw [c1] at e'
        cases e'
        exact cellK z
  · obtain ⟨w', z⟩ := I.cell y c (cm e)
    exact ⟨w', cellK z⟩
end
theorem cx_false {P : Program} {w : World} {outer : List Env} {H : Hp} {s : Shared} {e : Value} {s' : Shared} (h : L2.CX P w outer H s (fun _ _ _ => False) e s') : False := by
  obtain ⟨_, _, _, _, _, _, _, _, _, _, _, _, z⟩ := h
  exact z
mutual
theorem reads_nil {h : Heap} : ∀ (d : D) (u : Value) (as : List Addr), alkD d d = true → Reads h u (toPy d) as → as = []
  | .int i, _, _, _, r => by
    have r : Reads h _ (.int i) _ := r
    cases r; rfl
  | .str s, _, _, _, r => by
    have r : Reads h _ (.str ⟨s.toArray⟩) _ := r
    cases r; rfl
  | .tup xs, _, _, hal, r => by
    have r : Reads h _ (.tuple (toPys xs)) _ := r
    cases r with
    | tuple _ _ _ q => exact readsAll_nil xs _ _ hal q
  | .non, _, _, hal, _ => by cases hal
  | .bl _, _, _, hal, _ => by cases hal
  | .lst _, _, _, hal, _ => by cases hal
  | .dct _ _, _, _, hal, _ => by cases hal
  | .frl _, _, _, hal, _ => by cases hal
theorem readsAll_nil {h : Heap} : ∀ (ds : List D) (us : List Value) (as : List Addr), alkDs ds ds = true → ReadsAll h us (toPys ds) as → as = []
  | [], _, _, _, r => by
    have r : ReadsAll h _ [] _ := r
    cases r; rfl
  | d :: ds, _, _, hal, r => by
    have hal : (alkD d d && alkDs ds ds) = true := hal
    rw [Bool.and_eq_true] at hal
    have r : ReadsAll h _ (toPy d :: toPys ds) _ := r
    cases r with
    | cons q1 q2 => rw [reads_nil d _ _ hal.1 q1, readsAll_nil ds _ _ hal.2 q2]; rfl
end
variable [xb : Xb] [Tb]
/-- the lambda's state -/
theorem fz_rel (hT : Tb.T = []) {K : PySem.W.Frag} {e : En} {σ : L2.St} {g : Gh} {H : Hp} {h : Heap} (hh : ∀ b v v', H b = some v' → coreO v' = some v → ∃ o, h.get? b = some o) (len : e.sl.length = σ.length)
    (slt : ∀ (i : Nat) (s : Sl), e.sl[i]? = some s → s = .und ∨ ∃ v, σ[i]? = some (some v) ∧ RepS K g v s) (gh : LeH g.G H) (cel : ∀ (k : Nat) (a : Addr) (c : Ce), g.adr[k]? = some a → e.cs[k]? = some c → CeAt K g H a c)
    {v : V} {d : D} (dr : Dr K H v d) (i : Nat) : Rel K ⟨(e.sl.map (fzS e.cs)).set i (fzV d), []⟩ (σ.set i (some v)) (fzH H h) ⟨fzH H h, []⟩ := by
  refine ⟨by simp [len], fun j s q => ?_, ⟨LeH.refl _, rfl, List.nodup_nil, fun a ha => (by cases ha), fun k a c h1 _ => (by simp at h1), fun p hp => (by rw [hT] at hp; cases hp), fun b ps z => ?_⟩⟩
  · have q : ((e.sl.map (fzS e.cs)).set i (fzV d))[j]? = some s := q
    by_cases hj : j = i
    · subst hj
      have hl : j < e.sl.length := by
        have := (List.getElem?_eq_some_iff.mp q).1
        simpa using this
      rw [List.getElem?_set_self (by simpa using hl)] at q
      cases q
      rcases fzV_rep hh (LeH.refl H) dr with z | z
      · exact .inl z
      · exact .inr ⟨v, by rw [List.getElem?_set_self (by rw [← len]; exact hl)], z⟩
    · rw [List.getElem?_set_ne (Ne.symm hj), List.getElem?_map] at q
      cases e1 : e.sl[j]? with
      | none => rw [e1] at q; cases q
      | some t =>
        rw [e1] at q
        have q : some (fzS e.cs t) = some s := q
        cases q
        rcases slt j t e1 with z | ⟨w, h1, h2⟩
        · subst z; exact .inl rfl
        · have key : fzS e.cs t = .und ∨ RepS K ⟨fzH H h, []⟩ w (fzS e.cs t) := by
            cases t with
            | und => exact .inl rfl
            | xc _ _ => exact .inl rfl
            | val d' => exact fzV_rep hh gh h2
            | cel k =>
              obtain ⟨a, ha, rfl⟩ := h2
              have key2 : ∀ o : Option Ce, e.cs[k]? = o → (match o with | some (.lst xs) => fzV (.lst xs) | _ => .und) = .und ∨ RepS K ⟨fzH H h, []⟩ (.ref a) (match o with | some (.lst xs) => fzV (.lst xs) | _ => .und) := fun o hc => by
                cases o with
                | none => exact .inl rfl
                | some c =>
                  cases c with
                  | lst xs =>
                    obtain ⟨_, ys, q1, q2⟩ := cel k a _ ha hc
                    exact fzV_rep hh (LeH.refl H) (Dr.lst q1 (q2.mono gh))
                  | gone => exact .inl rfl
                  | dct _ _ => exact .inl rfl
                  | rls _ => exact .inl rfl
              exact key2 _ rfl
          rcases key with z | z
          · exact .inl z
          · exact .inr ⟨w, by rw [List.getElem?_set_ne (Ne.symm hj)]; exact h1, z⟩
  · obtain ⟨o, v, v', z, _⟩ := fzH_some z
    cases z
section
variable {X : Cx} {pins : List (Addr × Obj)} {σ : L2.St} {H : Hp} {s s1 : Shared}
/-- a key is made -/
theorem lam_turn {C : Nat → Addr} {scope : Scope} {params : Arguments} {body : Expr} {f c' : Addr} {pm ctv : Value} {i : Nat} {x : Str} {m : M Sl} {sl : List Sl} {v : V} {u : Value} {kd : D} (I : Inv X pins σ H s) (L : LamP X.N X.env.scope scope i x) (nd : X.N.Nodup)
    (hf : s.heap.get? f = some (PySem.W.kla_obj "<lambda>" (X.env.qual ++ "<lambda>") params body scope (cloFrom X.env.cells scope.names []) pm c' ctv)) (hfr : f ∉ frs X.stack) (hco : H c' = some (CodeO c' (X.env.qual ++ "<lambda>")))
    (hbind : ∀ (q : Str) (cl : List (Str × Addr)) (pm cv ctv w : Value), bindArgs (PySem.W.kla_fn "<lambda>" q params body scope cl pm cv ctv) ⟨[w], []⟩ = pure [(x, w)]) (hr : Room 1 X.A)
    (kp : Kp (frs X.stack) s.heap s1.heap) (bare : AllBare s1.gens) (ru : RelV v u)
    (hbody : PE (lamCx X X.A.in1.in1 X.stack s1 (fzH H s.heap) (fun _ _ _ => False) scope f c') body (tM X.K C (RepS X.K) Wf m))
    (re : Rel X.K ⟨sl, []⟩ (σ.set i (some v)) (fzH H s.heap) ⟨fzH H s.heap, []⟩) (hk : ∃ e', bnd m dOf ⟨sl, []⟩ = .ok kd e') (hal : alkD kd kd = true) (hdp : dep kd ≤ 64) :
    wpAny (model X.prog X.w) X.A.in1.in1 (call (.ref f) [u]) (KeyOf (frs X.stack) (toPy kd) s1) (fun _ _ => False) s1 := by
  have e0 := I.env0z kp bare
  have of1 := kp.out f _ hf hfr
  obtain ⟨⟨oc, vs, t, hoc, hdc, hvc⟩, _, _⟩ := I.hok c' _ hco
  have hoc1 := kp.out c' oc hoc (I.tfs (by rw [hco]; simp))
  have lim : s1.heap.NoLimit := e0.mod.nolimit.keeps fun b o e => (e0.bs b o e).1
  have hdep : X.A.in1.in1.depth < recursionLimit := hr.depth
  have rc : codeAny (model X.prog X.w) X.A.in1.in1 (.call (.ref f) ⟨[u], []⟩) (fun r s' => match r with | .ok (.ret v) => KeyOf (frs X.stack) (toPy kd) s1 v s' | .ok _ => False | .error e => False) s1 := by
    refine PySem.W.kla_callFunE hdep of1 rfl L.co L.gen rfl ⟨c', oc, vs, t, rfl, hoc1, hdc, hvc⟩ ?_
    rw [hbind]
    refine wpAny_pure (wpAny_newFunctionEnv (fun y hy => (L.own y hy).1) (fun y hy => ?_) (fun h₁ hns hsb => ⟨lim.fresh _ hsb, ?_⟩) L.kind)
    · rcases List.mem_cons.mp hy with z | z
      · subst z; exact L.par
      · cases z
    · have ext : ∀ b o, s1.heap.get? b = some o → h₁.get? b = some o := fun b o e => hsb.extBut b o (Nat.ne_of_lt (Heap.lt_size e)) (Heap.get?_push_of_some _ e)
      have J := lam_begin (f := f) (c' := c') (tk := s1.toks + ([(x, u)] : List (Str × Value)).length) I L nd kp bare hr.hd hns ext ru
      show codeAny _ _ (.expr body (lamEnv X scope s1.heap.objs.size f c')) _ _
      obtain ⟨e', hm⟩ := hk
      have ht : tM X.K C (RepS X.K) Wf m (σ.set i (some v)) (fzH H s.heap) (fun w H' => Dp X.K H' w (toPy kd)) := by
        refine ⟨⟨sl, []⟩, _, re, ?_⟩
        unfold bnd at hm
        cases q : m ⟨sl, []⟩ with
        | stuck => rw [q] at hm; cases hm
        | exc y e2 => rw [q] at hm; cases hm
        | ok r e2 =>
          rw [q] at hm
          intro w g' H' re' st rv
          obtain ⟨g2, re2, _, dr, _, _⟩ := Rel.d re' rv hm
          exact Dr.dp hdp (dr.mono re2.sto.gh)
      refine PySem.W.kla_codeExpr (wpAny_mono (hbody.run [] _ _ _ _ J ht) (fun w s' hq => ?_) fun e s' hq => ?_)
      · obtain ⟨w', H', J', rv, q⟩ := hq
        refine ⟨⟨fun b o e hb => ?_, fun b o e hb => ?_⟩, J'.os, J'.bare, ?_⟩
        · cases n : fzH H s.heap b with
          | none => exact J'.base.keep b o e n hb (by intro z; exact absurd (show b ∈ ([] : List Addr) from z) (by simp))
          | some z =>
            obtain ⟨o', v1, v2, rfl, _⟩ := fzH_some n
            obtain ⟨q1, _⟩ := e0.hok b _ n
            obtain ⟨q2, _⟩ := J'.hok b _ (J'.base.frzs b o' v1 n)
            rw [e] at q1
            cases q1
            exact q2
        · exact J'.base.slot b o e (fzH_none (I.stkFree b hb)) hb (by intro z; exact absurd (show b ∈ ([] : List Addr) from z) (by simp))
        · obtain ⟨as, r⟩ := Dp.reads J' (toPy kd) w' w q rv
          rw [reads_nil kd w as hal r] at r
          exact r
      · exact wpAny_mono hq (fun _ s'' z => (cx_false z).elim) fun _ s'' z => (cx_false z).elim
  exact wpAny_call (codeAny_mono rc fun r s' hq => by
    cases r with
    | ok fl => cases fl <;> exact hq
    | error e => exact hq.elim)
end
/-! ### the keys -/
theorem keysM_at {m : M Sl} {i : Nat} {sl : List Sl} : ∀ {xs ks : List D}, keysM m i sl xs = some ks → ks.length = xs.length ∧ ∀ (j : Nat) (d : D), xs[j]? = some d → ∃ k, ks[j]? = some k ∧ keyM m i sl d = some k
  | [], ks, h => by
    unfold keysM at h
    cases h
    exact ⟨rfl, fun j d q => by simp at q⟩
  | x :: xs, ks, h => by
    unfold keysM at h
    split at h
    · rename_i k l h1 h2
      cases h
      obtain ⟨e1, e2⟩ := keysM_at h2
      refine ⟨by simp [e1], fun j d q => ?_⟩
      cases j with
      | zero => simp at q; subst q; exact ⟨k, rfl, h1⟩
      | succ j => exact e2 j d (by simpa using q)
    · cases h
theorem keyM_of {m : M Sl} {i : Nat} {sl : List Sl} {d k : D} (h : keyM m i sl d = some k) : ∃ e', bnd m dOf ⟨sl.set i (fzV d), []⟩ = .ok k e' := by
  unfold keyM at h
  split at h
  · rename_i k' e' q
    cases h
    exact ⟨e', q⟩
  · cases h
structure SrtF (ks : List D) : Prop where
  al : ∀ x ∈ ks, ∀ y ∈ ks, alkD x y = true
  ty : (∀ x ∈ ks, isTup1 x = true) ∨ ∀ x ∈ ks, notTupD x = true
  dp : deps ks ≤ 60
  ln : ks.length ≤ SZ
theorem srtF_of {ks : List D} (ho : srtOk ks = true) : SrtF ks := by
  unfold srtOk at ho
  simp only [Bool.and_eq_true, Bool.or_eq_true, decide_eq_true_eq, List.all_eq_true] at ho
  exact ⟨ho.1.1.1, ho.1.1.2, ho.1.2, ho.2⟩
theorem SrtF.alike {ks : List D} (h : SrtF ks) : AllAlike (ks.map toPy) := fun d hd d' hd' => by
  obtain ⟨p, hp, rfl⟩ := List.mem_map.mp hd
  obtain ⟨p', hp', rfl⟩ := List.mem_map.mp hd'
  exact alk_py _ _ (h.al _ hp _ hp')
theorem SrtF.sortable {ks : List D} (h : SrtF ks) : Sortable (ks.map toPy) := by
  rcases h.ty with q | q
  · refine .inl fun d hd => ?_
    obtain ⟨p, hp, rfl⟩ := List.mem_map.mp hd
    have := q _ hp
    cases p with
    | tup l =>
      cases l with
      | nil => cases this
      | cons b l => exact ⟨toPy b, toPys l, rfl⟩
    | _ => cases this
  · refine .inr fun d hd => ?_
    obtain ⟨p, hp, rfl⟩ := List.mem_map.mp hd
    have := q _ hp
    cases p with
    | int i => exact ⟨fun z => (by cases z), fun xs z => (by cases z)⟩
    | str i => exact ⟨fun z => (by cases z), fun xs z => (by cases z)⟩
    | _ => cases this
theorem SrtF.depth {ks : List D} (h : SrtF ks) {n : Nat} (hn : n + 64 < cLine) : ∀ d, d ∈ ks.map toPy → n + d.depth < cLine := fun d hd => by
  obtain ⟨p, hp, rfl⟩ := List.mem_map.mp hd
  have := py_depth hp h.dp
  omega
theorem zip_mem {K : PySem.W.Frag} {G : Hp} : ∀ {xsV : List V} {xs ks : List D}, Drs K G xsV xs → ∀ p ∈ xsV.zip (ks.zip xs), p.2.1 ∈ ks ∧ Dr K G p.1 p.2.2
  | _, _, _, .nil, p, hp => by cases hp
  | _, _, [], .cons _ _, p, hp => by simp at hp
  | _, _, k :: ks, .cons q t, p, hp => by
    rcases List.mem_cons.mp hp with rfl | hp
    · exact ⟨List.mem_cons_self, q⟩
    · obtain ⟨a, b⟩ := zip_mem t p hp
      exact ⟨List.mem_cons_of_mem _ a, b⟩
/-- the items in their new order -/
theorem srt_items {K : PySem.W.Frag} {G : Hp} {xsV : List V} {xs ks : List D} {us out : List Value} (dr : Drs K G xsV xs) (hl : ks.length = xs.length) (F : SrtF ks) (rv : Vals xsV us) (ko : KeyedOut false (ks.map toPy) us out) :
    ∃ ys, Vals ys out ∧ Drs K G ys (srtBy ks xs) ∧ ys.length = xs.length := by
  have hl2 : xsV.length = xs.length := dr.length
  have z1 : (xsV.zip (ks.zip xs)).map (fun p : V × D × D => p.2) = ks.zip xs := by
    rw [← List.unzip_snd, List.unzip_zip (by simp; omega)]
  have hb : (xsV.zip (ks.zip xs)).map (fun p : V × D × D => toPy p.2.1) = ks.map toPy := by
    have : (xsV.zip (ks.zip xs)).map (fun p : V × D × D => toPy p.2.1) = (((xsV.zip (ks.zip xs)).map (fun p : V × D × D => p.2)).map Prod.fst).map toPy := by
      rw [List.map_map, List.map_map]; rfl
    rw [this, z1, ← List.unzip_fst, List.unzip_zip hl]
  have zm : ∀ p ∈ xsV.zip (ks.zip xs), p.2.1 ∈ ks ∧ Dr K G p.1 p.2.2 := by
    exact zip_mem dr
  have ea : EachIs (fun (u : Value) (p : V × D × D) => RelV p.1 u) us (xsV.zip (ks.zip xs)) := by
    have key : ∀ {xsV : List V} {us : List Value} {zs : List (D × D)}, Vals xsV us → zs.length = xsV.length → EachIs (fun (u : Value) (p : V × D × D) => RelV p.1 u) us (xsV.zip zs) := by
      intro xsV us zs rv
      induction rv generalizing zs with
      | nil => intro _; exact .nil
      | cons r t ih =>
        intro h
        cases zs with
        | nil => simp at h
        | cons z zs => exact .cons r (ih (by simpa using h))
    exact key rv (by simp; omega)
  have ko' : KeyedOut false ((xsV.zip (ks.zip xs)).map fun p : V × D × D => toPy p.2.1) us out := by rw [hb]; exact ko
  have eo := keyedOut_each (fun p : V × D × D => toPy p.2.1) ko' ea
  refine ⟨((xsV.zip (ks.zip xs)).mergeSort (dataLe false fun p : V × D × D => toPy p.2.1)).map Prod.fst, ?_, ?_, ?_⟩
  · have key : ∀ {us : List Value} {ps : List (V × D × D)}, EachIs (fun (u : Value) (p : V × D × D) => RelV p.1 u) us ps → Vals (ps.map Prod.fst) us := by
      intro us ps h
      induction h with
      | nil => exact .nil
      | cons h _ ih => exact .cons h ih
    exact key eo
  · have key : ∀ {ps : List (V × D × D)}, (∀ p ∈ ps, Dr K G p.1 p.2.2) → Drs K G (ps.map Prod.fst) (ps.map fun p => p.2.2) := by
      intro ps h
      induction ps with
      | nil => exact .nil
      | cons p r ih => exact .cons (h p List.mem_cons_self) (ih fun q hq => h q (List.mem_cons_of_mem _ hq))
    have k2 := key (ps := (xsV.zip (ks.zip xs)).mergeSort (dataLe false fun p : V × D × D => toPy p.2.1)) fun p hp => (zm p (List.mem_mergeSort.mp hp)).2
    have e2 : ((xsV.zip (ks.zip xs)).mergeSort (dataLe false fun p : V × D × D => toPy p.2.1)).map (fun p => p.2.2) = srtBy ks xs := by
      have e3 := sort_maps (r := dataLe false fun p : V × D × D => toPy p.2.1) (s := fun a b : D × D => leD a.1 b.1) (l := xsV.zip (ks.zip xs)) (fun p : V × D × D => p.2) ?_
      · rw [z1] at e3
        unfold srtBy
        rw [← e3, List.map_map]
        rfl
      · intro p hp p' hp'
        rw [dataLe_eq]
        show (!dataLt (toPy p'.2.1) (toPy p.2.1)) = !ltD p'.2.1 p.2.1
        have d1 := dep_of (zm p hp).1
        have d2 := dep_of (zm p' hp').1
        have := F.dp
        rw [lt_py _ _ (F.al _ (zm p' hp').1 _ (zm p hp).1) (by omega) (by omega)]
    rw [e2] at k2
    exact k2
  · rw [List.length_map, List.length_mergeSort, List.length_zip, List.length_zip]
    omega
/-! ### the call -/
theorem vals_one {v : V} {us : List Value} (r : Vals [v] us) : ∃ u, us = [u] ∧ RelV v u := by
  cases r with
  | cons p q => cases q; exact ⟨_, rfl, p⟩
theorem ok_obj {P : Program} {w : World} {H : Hp} {h : Heap} (ok : HOk P w H h) {a : Addr} {o : HO} (e : H a = some o) : ∃ ob, h.get? a = some ob := by
  have x := ok a o e
  cases o with
  | lst xs => obtain ⟨_, _, _, _, e⟩ := x; exact ⟨_, e⟩
  | tup xs => obtain ⟨_, _, _, ob, e, _⟩ := x; exact ⟨_, e⟩
  | dK kvs => obtain ⟨_, _, _, _, o, _, _, e, _⟩ := x; exact ⟨_, e⟩
  | dT kvs => obtain ⟨_, _, _, _, o, _, _, e, _⟩ := x; exact ⟨_, e⟩
  | set S n => obtain ⟨o, _, _, _, e, _⟩ := x; exact ⟨_, e⟩
  | ins C dx fs => obtain ⟨_, _, _, e, _⟩ := x; exact ⟨_, e⟩
  | own y => exact x
  | xd fs => obtain ⟨_, ⟨_, _, _, e, _⟩, _⟩ := x; exact ⟨_, e⟩
  | rng lo hi => obtain ⟨_, _, _, e⟩ := x; exact ⟨_, e⟩
  | frz ob u => exact ⟨_, x.1⟩
  | tbl ps => exact ⟨_, x⟩
  | met f y => exact ⟨_, x⟩
  | ext φ => exact x.2.1
theorem ext_sto {K : PySem.W.Frag} {cs : List Ce} {H1 H2 : Hp} {g : Gh} (s : Sto K cs H1 g) (eN : ExtN H1 H2) (T2 : Tabs Tb.T H2) : Sto K cs H2 g where
  gh := fun b o e => eN b o (s.gh b o e) fun ps z => s.gtb b ps (by rw [e, z])
  len := s.len
  nod := s.nod
  thr := fun a ha => by
    obtain ⟨o, e, c⟩ := s.thr a ha
    exact ⟨o, eN a o e c.nt, c⟩
  cel := fun k a c h1 h2 => by
    obtain ⟨o, e, co⟩ := s.thr a (List.mem_of_getElem? h1)
    exact (s.cel k a c h1 h2).mono (GLe.refl g) (fun z => z) fun o' e' => eN a o' e' (by rw [e] at e'; cases e'; exact co.nt)
  tab := T2
  gtb := s.gtb
theorem ext_stp {H1 H2 : Hp} {g : Gh} (eN : ExtN H1 H2) : Stp g H1 g H2 := ⟨GLe.refl g, fun b o e _ n => eN b o e n, fun _ h => .inl h, fun _ _ h => .inl h⟩
theorem _root_.L2.SqL.ext {K : PySem.W.Frag} {H1 H2 : Hp} (eN : ExtN H1 H2) {a : Addr} {xs : List V} (q : SqL K H1 a xs) : SqL K H2 a xs := by
  rcases q with (q | ⟨o, q⟩) | q
  · exact .inl (.inl (eN _ _ q fun ps z => by cases z))
  · exact .inl (.inr ⟨o, eN _ _ q fun ps z => by cases z⟩)
  · exact .inr q
section
variable {X : Cx} {C : Nat → Addr} {W : WX}
/-- what is known when sorted begins -/
structure LamAt (X : Cx) (pins : List (Addr × Obj)) (σ : L2.St) (params : Arguments) (body : Expr) (scope : Scope) (H1 : Hp) (s2 : Shared) (H2 : Hp) (f c' : Addr) : Prop where
  inv : Inv X pins σ H2 s2
  ext : ExtN H1 H2
  tab : Tabs Tb.T H2
  obj : ∃ pm ctv, s2.heap.get? f = some (PySem.W.kla_obj "<lambda>" (X.env.qual ++ "<lambda>") params body scope (cloFrom X.env.cells scope.names []) pm c' ctv)
  fr : f ∉ frs X.stack
  cod : H2 c' = some (CodeO c' (X.env.qual ++ "<lambda>"))
theorem pe_sortLam {a : Expr} {ta : TE} {params : Arguments} {body : Expr} {scope : Scope} {i : Nat} {x : Str} {p lpos kpos pos : Pos} (hg : Gl X "sorted") (hm : X.mg "sorted" = none) (h1 : nst a = true) (ha : PE X a ta) (L : LamP X.N X.env.scope scope i x)
    {c P : Addr} (hc : X.env.code = .ref c) (TB : TabB X.base X.mg c P) (hmT : (P, X.env.qual ++ "<lambda>") ∈ Tb.T) (hu : ∀ p ∈ Tb.T, p.1 = P → p.2 = X.env.qual ++ "<lambda>") (hdef : defaultsOf params X.env = ([], [])) :
    PE X (.Call (.Name "sorted" p) [a] [⟨some "key", .Lambda params body scope lpos, kpos⟩] pos) (fun σ H Q => ta σ H fun v H1 => Tabs Tb.T H1 ∧ ∀ (pins : List (Addr × Obj)) (s2 : Shared) (H2 : Hp) (f c' : Addr) (u : Value), LamAt X pins σ params body scope H1 s2 H2 f c' → RelV v u →
      wpAny (model X.prog X.w) X.A (call (.builtin "sorted") [u] [(Str.ofString "key", .ref f)]) (EP X pins σ Q) X.xe s2) := by
  refine ⟨fun pins s σ H Q I h => ?_⟩
  refine wpAny_Call_Name_kw (ld_blt I hg hm (u := .builtin "sorted") (by decide +kernel) ?_ (by decide +kernel) (by decide +kernel))
  have he : backTo pos (starEach [a] X.env) = (false, eval a X.env) :: backTo pos (starEach [] X.env) := by rw [star_cons h1]; rfl
  let AF : V → Hp → Prop := fun v H1 => Tabs Tb.T H1 ∧ ∀ (pins : List (Addr × Obj)) (s2 : Shared) (H2 : Hp) (f c' : Addr) (u : Value), LamAt X pins σ params body scope H1 s2 H2 f c' → RelV v u →
      wpAny (model X.prog X.w) X.A (call (.builtin "sorted") [u] [(Str.ofString "key", .ref f)]) (EP X pins σ Q) X.xe s2
  refine PyProof.Rows.callWith_kw (rest := []) (thn ((pa_cons ha pa_nil (star_cons h1)).run pos pins s σ H (fun vs H1 => match vs with | [v] => AF v H1 | _ => False) I h) fun us s1 ⟨vs, H1, I1, r1, q1⟩ => ?_) he (by rw [he]; rfl)
  match vs, r1, q1 with
  | [v], r1, q1 =>
    obtain ⟨u, rfl, ru⟩ := vals_one r1
    obtain ⟨q2, q3⟩ : AF v H1 := q1
    show wpAny _ _ (evalAll ((do let v ← eval (.Lambda params body scope lpos) X.env; standAt pos; pure v) :: (backToKw pos (keywordEach [] X.env)).map (·.2))) _ _ s1
    refine wpAny_evalAll_cons (wpAny_bind (lam_make2 I1 TB hc hmT hu q2 hdef (L.has I1.ok) fun f c' pm ctv H2 s2 I2 eN T2 hf hfn hfr hco => wpAny_bind (wpAny_standAt (wpAny_pure ?_))))
    refine wpAny_evalAll_nil ?_
    exact q3 pins s2 H2 f c' u ⟨I2, eN, T2, ⟨pm, ctv, hf⟩, hfr, hco⟩ ru
end
section
variable {X : Cx} {C : Nat → Addr} {W : WX} {pins : List (Addr × Obj)} {σ : L2.St} {H1 H2 : Hp} {s2 : Shared} {Q : VK}
/-- the sorting, from its entry -/
theorem srt_enter {params : Arguments} {body : Expr} {scope : Scope} {i f fl : Nat} {x : Str} {c' : Addr} {m : M Sl} {e1 : En} {g1 : Gh} {xs : List D} {xsV : List V} {u : Value} (LA : LamAt X pins σ params body scope H1 s2 H2 f c') (L : LamP X.N X.env.scope scope i x) (nd : X.N.Nodup) (hr : Room 1 X.A) (hu : X.A.units + 66 < cLine)
    (hbind : ∀ (q : Str) (cl : List (Str × Addr)) (pm cv ctv w : Value), bindArgs (PySem.W.kla_fn "<lambda>" q params body scope cl pm cv ctv) ⟨[w], []⟩ = pure [(x, w)])
    (hbody : ∀ s' : Shared, PE (lamCx X X.A.in1.in1 X.stack s' (fzH H2 s2.heap) (fun _ _ _ => False) scope f c') body (@tM xb ⟨[]⟩ _ _ X.K C (RepS X.K) Wf m))
    (re1 : Rel X.K e1 σ H1 g1) (dr : Drs X.K g1.G xsV xs) (p : Post X.K C (RepS X.K) W σ g1 H1 (srtLM fl i m xs e1) Q)
    (hcol : ∀ {Q' : List Value → Shared → Prop}, (∀ us h' tk, (∀ b o, s2.heap.get? b = some o → h'.get? b = some o) → Vals xsV us → us.length ≤ sizeLine → Q' us { s2 with heap := h', toks := tk }) → wpAny (model X.prog X.w) X.A.in1 (collect u) Q' X.xe s2) :
    wpAny (model X.prog X.w) X.A (call (.builtin "sorted") [u] [(Str.ofString "key", .ref f)]) (EP X pins σ Q) X.xe s2 := by
  obtain ⟨I2, eN, T2, ⟨pm, ctv, hf⟩, hfr, hco⟩ := LA
  unfold srtLM at p
  cases hk : keysM m i (e1.sl.map (fzS e1.cs)) xs with
  | none => rw [hk] at p; exact p.elim
  | some ks =>
    rw [hk] at p
    obtain ⟨ho, p⟩ := Post.req p
    simp only [Bool.and_eq_true, decide_eq_true_eq] at ho
    have F := srtF_of ho.1.1
    obtain ⟨kl, ka⟩ := keysM_at hk
    have re2 : Rel X.K e1 σ H2 g1 := re1.slots (GLe.refl g1) rfl (ext_sto re1.sto eN T2)
    have p2 := p.shift (ext_stp eN)
    have hl2 : xsV.length = xs.length := dr.length
    refine srt_run (fs := frs X.stack) (kz := ks.map toPy) (F := Vals xsV) ⟨f, rfl⟩ I2.bare I2.nfs F.alike F.sortable (fun d hd => F.depth (n := X.A.units + 2) (by omega) d hd) hcol (fun us r => by rw [List.length_map, kl, ← hl2]; exact r.length) (fun us j w k s' rv hw hkj kp os bare => ?_) fun us s' a out c rv na kp os bare ha ko => ?_
    · rw [List.getElem?_map] at hkj
      have hj : j < xs.length := by
        have := (List.getElem?_eq_some_iff.mp hw).1
        rw [← rv.length, hl2] at this
        exact this
      have hx : xs[j]? = some xs[j] := List.getElem?_eq_getElem hj
      obtain ⟨kd, q1, q2⟩ := ka j _ hx
      rw [q1] at hkj
      have hkj : some (toPy kd) = some k := hkj
      cases hkj
      obtain ⟨v, hv, dv⟩ := dr.get hx
      obtain ⟨w', hw', rw_⟩ := rv.get hv
      rw [hw] at hw'
      cases hw'
      have hmem := List.mem_of_getElem? q1
      have hd := dep_of hmem
      have hd2 := F.dp
      have rl := @fz_rel xb ⟨[]⟩ rfl X.K e1 σ g1 H2 s2.heap (fun b v v' => ok_there I2.hok) re2.len re2.slt re2.sto.gh re2.sto.cel v _ (dv.mono re2.sto.gh) i
      exact @lam_turn xb ⟨[]⟩ X pins σ H2 s2 s' C scope params body f c' pm ctv i x m _ v w kd I2 L nd hf hfr hco hbind hr kp bare rw_ (hbody s') rl (keyM_of q2) (F.al kd hmem kd hmem) (by omega)
    · obtain ⟨ys, y1, y2, y3⟩ := srt_items dr kl F rv ko
      have hn : H2 a = none := by
        cases q : H2 a with
        | none => rfl
        | some o =>
          obtain ⟨ob, z⟩ := ok_obj I2.hok q
          rw [na] at z; cases z
      have q := Post.newL re2 p2 y2 a hn
      have ne : ∀ b o, H2 b = some o → b ≠ a := fun b o e => ne_of_none e hn
      have un : Un (frs X.stack) [] H2 (upd H2 a (.lst ys)) s2.heap s'.heap :=
        ⟨fun b o e _ hb _ => kp.out b o e hb, fun b o e _ hb _ => kp.inn b o e hb, fun b o e n _ => by
          have hb : b ≠ a := fun z => by rw [z, na] at e; cases e
          rw [upd_ne hb]; exact n, fun b o e _ => by
          obtain ⟨sl, q⟩ := kp.any e
          exact ⟨_, q⟩, fun b xs e => by rw [upd_ne (ne b _ e)]; exact e, fun b o u e => by rw [upd_ne (ne b _ e)]; exact e, fun b ps e => ⟨#[], by rw [upd_ne (ne b _ e), e]; simp⟩⟩
      have hok : HOk X.prog X.w (upd H2 a (.lst ys)) s'.heap := fun b o e => by
        by_cases hb : b = a
        · subst hb
          rw [upd_same] at e
          cases e
          refine ⟨?_, out, c, y1, ha⟩
          rw [y3]; exact sz_le ho.2
        · rw [upd_ne hb] at e
          refine (I2.hok b o e).stay (fun c v hc q => kp.out c v q (I2.tfs ?_)) (fun c q => by rw [upd_ne (ne c _ q)]; exact q) fun c xs q => by rw [upd_ne (ne c _ q)]; exact q
          rcases hc with z | z
          · rw [z, e]; simp
          · rw [z]; simp
      obtain ⟨hh, gg, dd, tt, os'⟩ := s'
      obtain rfl : os' = s2.os := os
      exact ⟨.ref a, upd H2 a (.lst ys), I2.call (h' := hh) (g' := gg) (d' := dd) (t' := tt) (ch := []) un hok bare (fun b z => absurd z (by simp)), rfl, q⟩
end
section
variable {X : Cx} {C : Nat → Addr} {W : WX} {a : Expr} {ma m : M Sl} {params : Arguments} {body : Expr} {scope : Scope} {i fl : Nat} {x : Str} {p lpos kpos pos rp rpos : Pos}
/-- sorted(xs, key=lambda x: ..) -/
theorem de_srtL (hcalm : X.calm = true) (hg : Gl X "sorted") (hm : X.mg "sorted" = none) (h1 : nst a = true) (ha : DE X C W a ma) (L : LamP X.N X.env.scope scope i x) (nd : X.N.Nodup)
    {c P : Addr} (hc : X.env.code = .ref c) (TB : TabB X.base X.mg c P) (hmT : (P, X.env.qual ++ "<lambda>") ∈ Tb.T) (hu : ∀ p ∈ Tb.T, p.1 = P → p.2 = X.env.qual ++ "<lambda>") (hdef : defaultsOf params X.env = ([], [])) (hr : Room 1 X.A) (hun : X.A.units + 66 < cLine)
    (hbind : ∀ (q : Str) (cl : List (Str × Addr)) (pm cv ctv w : Value), bindArgs (PySem.W.kla_fn "<lambda>" q params body scope cl pm cv ctv) ⟨[w], []⟩ = pure [(x, w)])
    (hbody : ∀ (s s' : Shared) (H : Hp) (f c' : Addr), PE (lamCx X X.A.in1.in1 X.stack s' (fzH H s.heap) (fun _ _ _ => False) scope f c') body (@tM xb ⟨[]⟩ _ _ X.K C (RepS X.K) Wf m)) :
    DE X C W (.Call (.Name "sorted" p) [a] [⟨some "key", .Lambda params body scope lpos, kpos⟩] pos) (bnd ma fun s => srtKM false fl i m s) := by
  refine (pe_sortLam hg hm h1 ha L hc TB hmT hu hdef).imp fun σ H Q h => ?_
  refine h.bind fun v H1 s e1 g1 re1 rv p => ⟨re1.sto.tab, fun pins s2 H2 f c' u LA ru => ?_⟩
  obtain ⟨d, rd, p⟩ := Post.rd re1 rv p
  have go : ∀ {ad : Addr} {xsV : List V} {xs : List D}, v = .ref ad → SqL X.K H1 ad xsV → Drs X.K g1.G xsV xs → Post X.K C (RepS X.K) W σ g1 H1 (srtLM fl i m xs e1) Q → wpAny (model X.prog X.w) X.A (call (.builtin "sorted") [u] [(Str.ofString "key", .ref f)]) (EP X pins σ Q) X.xe s2 := by
    intro ad xsV xs ev hs dr p
    subst ev
    obtain rfl : u = Value.ref ad := ru
    obtain ⟨its, rvl, hl, hz⟩ := LA.inv.list (hs.ext LA.ext)
    refine srt_enter LA L nd hr hun hbind (fun s' => hbody s2 s' H2 f c') re1 dr p fun {Q'} k => ?_
    refine collect_list hl.isList (k its _ s2.toks (fun b o e => ?_) rvl (by rw [← rvl.length]; exact hz)) (by rw [← rvl.length]; exact hz)
    rw [Heap.get?_update_ne _ _ _ _ (Nat.ne_of_lt (Heap.lt_size e))]
    exact Heap.get?_push_of_some _ e
  cases rd with
  | lst q t => exact go rfl (SqL.of q) t p
  | frl q t => exact go rfl (LeH.seqL re1.sto.gh q) t p
  | non => exact p.elim
  | bl b => exact p.elim
  | int i => exact p.elim
  | str s => exact p.elim
  | tup _ _ => exact p.elim
  | dct _ _ _ => exact p.elim
/-- sorted(range(n), key=lambda x: ..) -/
theorem de_srtR (hcalm : X.calm = true) (hg : Gl X "sorted") (hm : X.mg "sorted" = none) (hg2 : Gl X "range") (hm2 : X.mg "range" = none) (h1 : nst a = true) (ha : DE X C W a ma) (L : LamP X.N X.env.scope scope i x) (nd : X.N.Nodup)
    {c P : Addr} (hc : X.env.code = .ref c) (TB : TabB X.base X.mg c P) (hmT : (P, X.env.qual ++ "<lambda>") ∈ Tb.T) (hu : ∀ p ∈ Tb.T, p.1 = P → p.2 = X.env.qual ++ "<lambda>") (hdef : defaultsOf params X.env = ([], [])) (hr : Room 1 X.A) (hun : X.A.units + 66 < cLine)
    (hbind : ∀ (q : Str) (cl : List (Str × Addr)) (pm cv ctv w : Value), bindArgs (PySem.W.kla_fn "<lambda>" q params body scope cl pm cv ctv) ⟨[w], []⟩ = pure [(x, w)])
    (hbody : ∀ (s s' : Shared) (H : Hp) (f c' : Addr), PE (lamCx X X.A.in1.in1 X.stack s' (fzH H s.heap) (fun _ _ _ => False) scope f c') body (@tM xb ⟨[]⟩ _ _ X.K C (RepS X.K) Wf m)) :
    DE X C W (.Call (.Name "sorted" p) [.Call (.Name "range" rp) [a] [] rpos] [⟨some "key", .Lambda params body scope lpos, kpos⟩] pos) (bnd ma fun s => srtKM true fl i m s) := by
  have hrg : PE X (.Call (.Name "range" rp) [a] [] rpos) _ := pe_callTy cr_range1 hg2 hm2 (by decide +kernel) (pa_cons ha pa_nil (star_cons h1)) (by decide +kernel) (by decide +kernel) (star_cons h1) rfl
  refine (pe_sortLam hg hm rfl hrg L hc TB hmT hu hdef).imp fun σ H Q h => ?_
  refine h.bind fun v H1 s e1 g1 re1 rv p => ?_
  obtain ⟨n, rfl, p⟩ := intM_of rv p
  obtain ⟨ho, p⟩ := p.req
  simp only [Bool.and_eq_true, decide_eq_true_eq] at ho
  refine ⟨n, rfl, fun q hq => ?_⟩
  have re2 : Rel X.K e1 σ (upd H1 q (.rng 0 n)) g1 := re1.junk (re1.gfree hq) (re1.afree hq) (fun b hb => upd_ne hb) fun o z => by rw [hq] at z; cases z
  have p2 := p.shift ((Stp.refl g1 H1).upd (o := .rng 0 n) hq)
  refine ⟨re2.sto.tab, fun pins s2 H2 f c' u LA ru => ?_⟩
  obtain rfl : u = Value.ref q := ru
  have hq2 : H2 q = some (.rng 0 n) := LA.ext _ _ upd_same fun ps z => by cases z
  obtain ⟨t1, t2, t3, hob⟩ := LA.inv.hok q _ hq2
  have t : Drs X.K g1.G (rgV 0 n) (rangeL 0 n.toNat) := by
    have := rel_rg 0 0 (K := X.K) (G := g1.G) n.toNat
    unfold rgV
    rw [Int.sub_zero]
    exact this
  refine srt_enter LA L nd hr hun hbind (fun s' => hbody s2 s' H2 f c') re2 t p2 fun {Q'} k => ?_
  have hh : X.A.in1.handled = none := LA.inv.ok.hd hcalm
  have b1 : n ≤ 16777216 := by
    have := ho.2
    unfold SZ at this
    omega
  refine collect_range (n := (n - 0).toNat) hh (show IsRange s2.heap q 0 n 1 t1 t2 t3 from hob) (small_one (by omega) (by omega) (by omega) (by omega)) (rangeSize_nat 0 n) (by omega) fun h' tk acc hk hi => ?_
  refine k acc.toList h' tk hk (vals_rg hi) ?_
  rw [Array.length_toList, hi.1, sizeLine_eq]
  omega
end
end DL
/-! DL, part N: exceptions: raise, try, isinstance. -/
namespace DL
open PySem L2 PySem.Spec PyProof.Rows
/-- X() -/
theorem pmk_own0 {X : Cx} {C : Addr} {bmB : List Value} {B newId initId : String} {x : Str} {p pos : Pos} (F : ExcBaseFacts B newId initId bmB) (q : PySem.W.excIn X.K C bmB newId = true) (gC : X.mg x = some (.ref C))
    (kC : PySem.W.keepIn X.K (.ref C) = true) (r : Raises X (.ref C)) (hg : Gl X x) (hdb : (x == ("__debug__" : Str)) = false) :
    PMk X (.Call (.Name x p) [] [] pos) (fun _ H Q => Q (.ref C) none H) := by
  intro pins s σ H Q I h
  refine wpAny_Call_Name_kw (ld_glob I hg gC ?_ hdb)
  refine PySem.W.callWith_K0 I.kIn kC ?_
  show wpAny _ _ (call (.ref C) []) _ _ _
  obtain ⟨bm, N, nm, qn, bs, hdct, sn, sub, ab, col, dd, k0, k1, k2, k3, k5, mN, hC, hN, hni, T⟩ := exc_obj I.kIn q
  refine wpAny_call_exc_subT F T hC hN hni (fun h' e hm => ?_) (by rw [sizeLine_eq]; simp)
  exact mk_of I hm r h (I.hok.gone hm.new)
variable [xb : Xb] [Tb]
section
variable {X : Cx} {C : Nat → Addr} {W : WX} {n : Nat} {xs : List Nat}
theorem XcOk.rai (T : XcOk X.K X.mg C xs n) : Raises X (.ref (C n)) := raises_own T.cls.hs T.ty
theorem exc_of {D : Ends} {σ : L2.St} {H : Hp} (h : tS X.K C W (fun e => .exc ⟨n, none⟩ e) D σ H) : W (.ref (C n)) none σ H := by
  obtain ⟨e, g, re, p⟩ := h
  exact p (.ref (C n)) none σ g H re (Stp.refl _ _) ⟨rfl, rfl⟩
theorem ds_rse0 {p pos pos2 : Pos} (T : XcOk X.K X.mg C xs n) (h2 : 2 ≤ n) (hc : X.calm = true) (tk : Takes X W) (hg : Gl X (xNm n)) : DS X C W (.Raise (some (.Call (.Name (xNm n) p) [] [] pos)) none pos2) (fun e => .exc ⟨n, none⟩ e) :=
  (ps_raise hc tk (pmk_own0 PySem.F.excBase_ValueError (T.own h2) T.mg_ T.kp T.rai hg (xNm_ok n))).imp fun D σ H h => exc_of h
theorem ds_rse1 {p p1 pos pos2 : Pos} {m : Str} {j : Nat} (T : XcOk X.K X.mg C xs n) (h2 : 2 ≤ n) (hc : X.calm = true) (tk : Takes X W) (hg : Gl X (xNm n)) : DS X C W (.Raise (some (.Call (.Name (xNm n) p) [.Constant (.str m) j p1] [] pos)) none pos2) (fun e => .exc ⟨n, none⟩ e) :=
  (ps_raise hc tk (pmk_own PySem.F.excBase_ValueError (T.own h2) T.mg_ T.kp T.rai hg (xNm_ok n))).imp fun D σ H h => exc_of h
end
section
variable {X : Cx} {pins : List (Addr × Obj)} {σ : L2.St} {H : Hp} {sI s s' : Shared} {B : Heap} {a : Addr} {oe : Obj}
/-- an exception caught is known from now on -/
theorem Inv.landedX (I : Inv X pins σ H sI) (nb : ∀ b o, sI.heap.get? b = some o → b ∉ frs X.stack → B.get? b = some o) (st : B.StaysIn s'.heap) (up : sI.heap.UpToSlots s'.heap) (os : s'.os = sI.os) (ag : AllBare s'.gens)
    (na : H a = none) (nB : B.get? a = none) (nfr : a ∉ frs X.stack) (he : s'.heap.get? a = some oe) : Inv X pins σ (upd H a (xcO a oe)) s' := by
  have nf : ∀ b ∈ frs X.stack, ∀ o, sI.heap.get? b = some o → ∃ sl, s'.heap.get? b = some { o with slots := sl } := fun b hb o e => by
    obtain ⟨_, o', e', hd⟩ := I.stack.mem hb
    rw [e] at e'; cases e'
    exact up b o e hd
  have ne : ∀ b o, sI.heap.get? b = some o → b ≠ a := fun b o e z => by
    subst z
    have := nb b o e nfr
    rw [nB] at this
    cases this
  have hk : HOk X.prog X.w (upd H a (xcO a oe)) s'.heap := fun b u e => by
    by_cases hb : b = a
    · subst hb
      rw [upd_same] at e
      cases e
      exact ⟨he, ⟨oe, he⟩, fun h1 h2 p q => q _ p⟩
    · rw [upd_ne hb] at e
      exact (((I.inGround nb).kept st) b u e).stay (fun c v _ q => q) (fun c q => by rw [upd_ne (ne_of_none q na)]; exact q) fun c xs q => by rw [upd_ne (ne_of_none q na)]; exact q
  have J := I.call (ch := []) (h' := s'.heap) (g' := s'.gens) (t' := s'.toks) (d' := s'.drawn) (H' := upd H a (xcO a oe))
    ⟨fun b o e _ hb _ => st b o (nb b o e hb), fun b o e _ hb _ => nf b hb o e, fun b o e n _ => by rw [upd_ne (ne b o e)]; exact n, fun b o e _ => by
      by_cases hb : b ∈ frs X.stack
      · obtain ⟨sl, q⟩ := nf b hb o e
        exact ⟨_, q⟩
      · exact ⟨o, st b o (nb b o e hb)⟩, fun b _ e => by rw [upd_ne (ne_of_none e na)]; exact e, fun b _ _ e => by rw [upd_ne (ne_of_none e na)]; exact e, fun b ps e => ⟨#[], by rw [upd_ne (ne_of_none e na), e]; simp⟩⟩
    hk ag (fun _ z => nomatch z)
  obtain ⟨a1, a2, a3, a4, a5⟩ := s'
  have e5 : a5 = sI.os := os
  subst e5
  exact J
theorem Inv.suiteV (I : Inv X pins σ H s) (a : Addr) : Inv (X.suite a (X.pn ++ pins)) [] σ H s :=
  ⟨I.ok.suite _ _, I.os, I.bare, I.base, I.loc, I.cell, I.free, I.freeC, fun p hp => I.pin p (by rw [List.append_nil] at hp; exact hp), I.hok, I.len⟩
theorem Inv.unsuiteV {pn' : List (Addr × Obj)} (I : Inv (X.suite a (X.pn ++ pins)) pn' σ H s) (ok : X.Ok) : Inv X pins σ H s :=
  ⟨ok, I.os, I.bare, I.base, I.loc, I.cell, I.free, I.freeC, fun p hp => I.pin p (List.mem_append_left _ hp), I.hok, I.len⟩
end
def bnI (i : Option Nat) (a : Addr) (σ : L2.St) : L2.St := match i with
  | some i => σ.set i (some (.ref a))
  | none => σ
def unI (i : Option Nat) (σ : L2.St) : L2.St := match i with
  | some i => σ.set i none
  | none => σ
/-- what a clause wishes of an exception of the body -/
def wV (K : PySem.W.Frag) (c : Value) (i : Option Nat) (ts : TS) (Wout : WX) (D : Ends) : WX := fun cls d σ H =>
  ∃ b, PySem.W.exmOne K cls c = some b ∧ (b = true → ∀ a oe, H a = none → Zc cls d oe → (∃ vs, oe.data = .fields vs) → ts { nx := fun σ' H' => D.nx (unI i σ') H', rt := D.rt, bk := fun σ' H' => D.bk (unI i σ') H', ct := fun σ' H' => D.ct (unI i σ') H' } (bnI i a σ) (upd H a (xcO a oe))) ∧
    (b = false → Wout cls d σ H)
section
variable {X : Cx} {x nm : Str} {c : Value} {i : Nat} {body suite : List Stmt} {b₀ : Stmt} {np pos pos' : Pos} {tb : WX → TS} {ts : TS} {Wout : WX}
theorem ps_tryV (hs : X.stack = X.env :: X.outer) (hf : X.env.frame = some X.env.locals) (hN : X.N.Nodup) (hi : X.N[i]? = some nm) (hln : X.env.kindOf nm = some .local) (hc : Names X x c) (tk : Takes X Wout)
    (hb : ∀ (W : WX) (pn : List (Addr × Obj)) (xe : Value → Shared → Prop), Takes (X.tr pn xe) W → PassesOwn (model X.prog X.w) X.A X.env xe → PSs (X.tr pn xe) body (tb W))
    (hsu : ∀ (a : Addr) (pn : List (Addr × Obj)), PSs (X.suite a pn) (b₀ :: suite) ts) :
    PS X (.Try body [.ExceptHandler (some (.Name x np)) (some nm) (b₀ :: suite) pos'] [] [] pos) (fun D σ H => tb (wV X.K c (some i) ts Wout D) D σ H) := by
  refine ⟨fun pins s σ H D I h => ?_⟩
  have ok := I.ok
  have hfr : X.A.frames = some (X.env :: X.outer) := by rw [ok.frames, hs]
  have hloc : Loc X.env.scope nm := .inl hln
  refine wpAny_Try_except ?_
  refine wpAny_mono ((hb (wV X.K c (some i) ts Wout D) (X.pn ++ pins) (fun e s₁ => wpAny (model X.prog X.w) X.A (noteFrame e X.env) (fun _ s₂ => wpAny (model X.prog X.w) X.A (setFlight e none) (fun _ s₃ =>
    wpAny (model X.prog X.w) X.A (handleBy e X.env [.ExceptHandler (some (.Name x np)) (some nm) (b₀ :: suite) pos']) (SP X pins D) X.xe s₃) X.xe s₂) X.xe s₁) (fun u s' xx => ?_) PassesOwn.looking).run [] s σ H D (I.toTry _) h) (fun f s1 hsp => ?_) (fun e s1 he => he)
  · -- the catch
    obtain ⟨a, B, sI, pins', σ', H', cls, d, rfl, J', nb, up, sky, na, os, ag, b, hb1, hyes, hno⟩ := xx
    have J : Inv X pins σ' H' sI := J'.ofTry ok
    have sky' : Sky B (X.env :: X.outer) a (Zc cls d) X.env.locals s'.heap := by rw [← hs]; exact sky
    show wpAny (model X.prog X.w) X.A (noteFrame (.ref a) X.env) _ _ _
    refine Sky.land Zc.steady hfr hf sky' fun h3 fl3 up3 => ?_
    have J3 : Inv X pins σ' H' { s' with heap := h3 } := J.landed nb fl3.1 (up.trans up3) os ag
    obtain ⟨oe3, vs3, he3, hz3, hd3⟩ := fl3.there
    have notFr : ∀ {h : Heap} {o : Obj} {vs : Array Value}, h.FunFrames B (X.env :: X.outer) → h.get? a = some o → o.data = .fields vs → a ∉ frs (X.env :: X.outer) := fun {h o vs} ff e dd hm => by
      obtain ⟨_, o', e', hnf⟩ := ff.mem hm
      rw [e] at e'; cases e'
      exact hnf _ dd
    have nfr := notFr fl3.2.2.1 he3 hd3
    have nL : a ≠ X.env.locals := fun z => nfr (List.mem_filterMap.mpr ⟨X.env, List.mem_cons_self, by rw [hf, z]⟩)
    have nF : a ∉ X.fs := fun hm => by
      obtain ⟨e, he, q⟩ := List.mem_filterMap.mp hm
      exact nfr (List.mem_filterMap.mpr ⟨e, List.mem_cons_of_mem _ he, q⟩)
    have S3 := J3.suite he3 hd3 na nL nF
    refine wpAny_handleBy_cons (codeAny_handlers_test ?_) (by intro q; cases q)
    have LT : PySem.W.Looks (model X.prog X.w) h3 (typeOf (.ref a)) cls := fun A Q E s k q => wpAny_typeOf_ref (k _ _ he3) (by rw [hz3.1]; exact q)
    have LM := PySem.W.exm_one (M := model X.prog X.w) (J3.kIn) LT hb1
    have test : ∀ {Q : Value → Shared → Prop} {E : Value → Shared → Prop}, Q c { s' with heap := h3 } → wpAny (model X.prog X.w) (X.A.mark (some (.ref a))) (eval (.Name x np) X.env) Q E { s' with heap := h3 } := fun {Q E} q => by
      obtain ⟨hg, hdbg, hm | ⟨hm, hv, hnn⟩⟩ := hc
      · exact ld_glob (X := X.suite a ((a, oe3) :: (X.pn ++ pins))) S3 hg hm q hdbg
      · exact ld_blt (X := X.suite a ((a, oe3) :: (X.pn ++ pins))) S3 hg hm hv q hnn hdbg
    refine test (LM.here ?_)
    cases b with
    | true =>
      refine codeAny_handlers_suite_as ?_
      refine HandSPX.lands_againZ fl3 fun h4 fl4 up4 => ?_
      obtain ⟨oe4, vs4, he4, hz4, hd4⟩ := fl4.there
      have J4 : Inv X pins σ' (upd H' a (xcO a oe4)) { s' with heap := h4 } := Inv.landedX J nb fl4.1 ((up.trans up3).trans up4) os ag na fl4.2.1 (by rw [hs]; exact nfr) he4
      have S4 := Inv.suiteV J4 a
      refine store_ok (X := X.suite a (X.pn ++ pins)) (v := .ref a) S4 hN hi hloc rfl (fun s5 S5 => ?_) (.inr hln)
      refine wpAny_mono ((hsu a (X.pn ++ pins)).run [] s5 _ _ _ S5 (hyes rfl a oe4 na hz4 ⟨_, hd4⟩)) (fun f s6 hsp => ?_) (fun _ _ z => False.elim z)
      have end_ : ∀ {σ6 : L2.St} {H6 : Hp} {Q : Shared → Prop}, Inv (X.suite a (X.pn ++ pins)) [] σ6 H6 s6 → (∀ s7, Inv X pins (σ6.set i none) H6 s7 → Q s7) →
          wpAny (model X.prog X.w) X.A (do bindName X.env nm .none; unbindBehindTheSuite X.env nm pos') (fun _ s7 => Q s7) X.xe s6 := fun {σ6 H6 Q} S6 hq => gone_ok (Inv.unsuiteV S6 ok) hN hi hln hq
      cases f with
      | next =>
        obtain ⟨σ6, H6, S6, q6⟩ := hsp
        exact end_ S6 fun s7 J7 => ⟨_, _, J7, q6⟩
      | brk =>
        obtain ⟨σ6, H6, S6, q6⟩ := hsp
        exact end_ S6 fun s7 J7 => ⟨_, _, J7, q6⟩
      | cont =>
        obtain ⟨σ6, H6, S6, q6⟩ := hsp
        exact end_ S6 fun s7 J7 => ⟨_, _, J7, q6⟩
      | ret u =>
        obtain ⟨v6, σ6, H6, S6, r6, q6⟩ := hsp
        exact end_ S6 fun s7 J7 => ⟨_, _, _, J7, r6, q6⟩
    | false =>
      show wpAny _ X.A (handleBy (.ref a) X.env []) _ _ _
      refine wpAny_handleBy_nil ?_
      obtain ⟨k1, k2, k3, oe, vs, T, oT, ts', he, hz, hd, h1, hr⟩ := id fl3
      unfold PySem.passOn
      refine wpAny_bind (wpAny_field he hd h1 ?_)
      rw [if_neg (show ¬ ((Value.ref T == Value.none) = true) from by simp)]
      have fin : wpAny (model X.prog X.w) X.A (setFlight (.ref a) X.env.frame) (fun _ s4 => wpAny (model X.prog X.w) X.A (throw (.ref a) : Sem Flow) (SP X pins D) X.xe s4) X.xe { s' with heap := h3 } := by
        rw [hf]
        refine HandSPX.setFlight_upZ fl3 fun h4 hh4 up4 => wpAny_throw (tk _ _ ?_)
        exact ⟨a, B, sI, pins, σ', H', cls, d, rfl, J, nb, (up.trans up3).trans up4, .inr (.inr (by rw [hs]; exact hh4)), na, os, ag, hno rfl⟩
      first
        | exact wpAny_bind (wpAny_pure (wpAny_bind fin))
        | exact wpAny_bind fin
  · cases f with
    | next =>
      obtain ⟨σ', H', J', q⟩ := hsp
      exact wpAny_execs_nil ⟨σ', H', J'.ofTry ok, q⟩
    | brk =>
      obtain ⟨σ', H', J', q⟩ := hsp
      exact ⟨σ', H', J'.ofTry ok, q⟩
    | cont =>
      obtain ⟨σ', H', J', q⟩ := hsp
      exact ⟨σ', H', J'.ofTry ok, q⟩
    | ret u =>
      obtain ⟨v, σ', H', J', r, q⟩ := hsp
      exact ⟨v, σ', H', J'.ofTry ok, r, q⟩
theorem ps_tryN (hs : X.stack = X.env :: X.outer) (hf : X.env.frame = some X.env.locals) (hc : Names X x c) (tk : Takes X Wout)
    (hb : ∀ (W : WX) (pn : List (Addr × Obj)) (xe : Value → Shared → Prop), Takes (X.tr pn xe) W → PassesOwn (model X.prog X.w) X.A X.env xe → PSs (X.tr pn xe) body (tb W))
    (hsu : ∀ (a : Addr) (pn : List (Addr × Obj)), PSs (X.suite a pn) (b₀ :: suite) ts) :
    PS X (.Try body [.ExceptHandler (some (.Name x np)) none (b₀ :: suite) pos'] [] [] pos) (fun D σ H => tb (wV X.K c none ts Wout D) D σ H) := by
  refine ⟨fun pins s σ H D I h => ?_⟩
  have ok := I.ok
  have hfr : X.A.frames = some (X.env :: X.outer) := by rw [ok.frames, hs]
  refine wpAny_Try_except ?_
  refine wpAny_mono ((hb (wV X.K c none ts Wout D) (X.pn ++ pins) (fun e s₁ => wpAny (model X.prog X.w) X.A (noteFrame e X.env) (fun _ s₂ => wpAny (model X.prog X.w) X.A (setFlight e none) (fun _ s₃ =>
    wpAny (model X.prog X.w) X.A (handleBy e X.env [.ExceptHandler (some (.Name x np)) none (b₀ :: suite) pos']) (SP X pins D) X.xe s₃) X.xe s₂) X.xe s₁) (fun u s' xx => ?_) PassesOwn.looking).run [] s σ H D (I.toTry _) h) (fun f s1 hsp => ?_) (fun e s1 he => he)
  · -- the catch
    obtain ⟨a, B, sI, pins', σ', H', cls, d, rfl, J', nb, up, sky, na, os, ag, b, hb1, hyes, hno⟩ := xx
    have J : Inv X pins σ' H' sI := J'.ofTry ok
    have sky' : Sky B (X.env :: X.outer) a (Zc cls d) X.env.locals s'.heap := by rw [← hs]; exact sky
    show wpAny (model X.prog X.w) X.A (noteFrame (.ref a) X.env) _ _ _
    refine Sky.land Zc.steady hfr hf sky' fun h3 fl3 up3 => ?_
    have J3 : Inv X pins σ' H' { s' with heap := h3 } := J.landed nb fl3.1 (up.trans up3) os ag
    obtain ⟨oe3, vs3, he3, hz3, hd3⟩ := fl3.there
    have notFr : ∀ {h : Heap} {o : Obj} {vs : Array Value}, h.FunFrames B (X.env :: X.outer) → h.get? a = some o → o.data = .fields vs → a ∉ frs (X.env :: X.outer) := fun {h o vs} ff e dd hm => by
      obtain ⟨_, o', e', hnf⟩ := ff.mem hm
      rw [e] at e'; cases e'
      exact hnf _ dd
    have nfr := notFr fl3.2.2.1 he3 hd3
    have nL : a ≠ X.env.locals := fun z => nfr (List.mem_filterMap.mpr ⟨X.env, List.mem_cons_self, by rw [hf, z]⟩)
    have nF : a ∉ X.fs := fun hm => by
      obtain ⟨e, he, q⟩ := List.mem_filterMap.mp hm
      exact nfr (List.mem_filterMap.mpr ⟨e, List.mem_cons_of_mem _ he, q⟩)
    have S3 := J3.suite he3 hd3 na nL nF
    refine wpAny_handleBy_cons (codeAny_handlers_test ?_) (by intro q; cases q)
    have LT : PySem.W.Looks (model X.prog X.w) h3 (typeOf (.ref a)) cls := fun A Q E s k q => wpAny_typeOf_ref (k _ _ he3) (by rw [hz3.1]; exact q)
    have LM := PySem.W.exm_one (M := model X.prog X.w) (J3.kIn) LT hb1
    have test : ∀ {Q : Value → Shared → Prop} {E : Value → Shared → Prop}, Q c { s' with heap := h3 } → wpAny (model X.prog X.w) (X.A.mark (some (.ref a))) (eval (.Name x np) X.env) Q E { s' with heap := h3 } := fun {Q E} q => by
      obtain ⟨hg, hdbg, hm | ⟨hm, hv, hnn⟩⟩ := hc
      · exact ld_glob (X := X.suite a ((a, oe3) :: (X.pn ++ pins))) S3 hg hm q hdbg
      · exact ld_blt (X := X.suite a ((a, oe3) :: (X.pn ++ pins))) S3 hg hm hv q hnn hdbg
    refine test (LM.here ?_)
    cases b with
    | true =>
      refine codeAny_handlers_suite ?_
      refine HandSPX.lands_againZ fl3 fun h4 fl4 up4 => ?_
      obtain ⟨oe4, vs4, he4, hz4, hd4⟩ := fl4.there
      have J4 : Inv X pins σ' (upd H' a (xcO a oe4)) { s' with heap := h4 } := Inv.landedX J nb fl4.1 ((up.trans up3).trans up4) os ag na fl4.2.1 (by rw [hs]; exact nfr) he4
      have S4 := Inv.suiteV J4 a
      refine wpAny_mono ((hsu a (X.pn ++ pins)).run [] _ _ _ _ S4 (hyes rfl a oe4 na hz4 ⟨_, hd4⟩)) (fun f s6 hsp => ?_) (fun _ _ z => False.elim z)
      cases f with
      | next =>
        obtain ⟨σ6, H6, S6, q6⟩ := hsp
        exact ⟨_, _, Inv.unsuiteV S6 ok, q6⟩
      | brk =>
        obtain ⟨σ6, H6, S6, q6⟩ := hsp
        exact ⟨_, _, Inv.unsuiteV S6 ok, q6⟩
      | cont =>
        obtain ⟨σ6, H6, S6, q6⟩ := hsp
        exact ⟨_, _, Inv.unsuiteV S6 ok, q6⟩
      | ret u =>
        obtain ⟨v6, σ6, H6, S6, r6, q6⟩ := hsp
        exact ⟨_, _, _, Inv.unsuiteV S6 ok, r6, q6⟩
    | false =>
      show wpAny _ X.A (handleBy (.ref a) X.env []) _ _ _
      refine wpAny_handleBy_nil ?_
      obtain ⟨k1, k2, k3, oe, vs, T, oT, ts', he, hz, hd, h1, hr⟩ := id fl3
      unfold PySem.passOn
      refine wpAny_bind (wpAny_field he hd h1 ?_)
      rw [if_neg (show ¬ ((Value.ref T == Value.none) = true) from by simp)]
      have fin : wpAny (model X.prog X.w) X.A (setFlight (.ref a) X.env.frame) (fun _ s4 => wpAny (model X.prog X.w) X.A (throw (.ref a) : Sem Flow) (SP X pins D) X.xe s4) X.xe { s' with heap := h3 } := by
        rw [hf]
        refine HandSPX.setFlight_upZ fl3 fun h4 hh4 up4 => wpAny_throw (tk _ _ ?_)
        exact ⟨a, B, sI, pins, σ', H', cls, d, rfl, J, nb, (up.trans up3).trans up4, .inr (.inr (by rw [hs]; exact hh4)), na, os, ag, hno rfl⟩
      first
        | exact wpAny_bind (wpAny_pure (wpAny_bind fin))
        | exact wpAny_bind fin
  · cases f with
    | next =>
      obtain ⟨σ', H', J', q⟩ := hsp
      exact wpAny_execs_nil ⟨σ', H', J'.ofTry ok, q⟩
    | brk =>
      obtain ⟨σ', H', J', q⟩ := hsp
      exact ⟨σ', H', J'.ofTry ok, q⟩
    | cont =>
      obtain ⟨σ', H', J', q⟩ := hsp
      exact ⟨σ', H', J'.ofTry ok, q⟩
    | ret u =>
      obtain ⟨v, σ', H', J', r, q⟩ := hsp
      exact ⟨v, σ', H', J'.ofTry ok, r, q⟩
end
/-! the same of the core -/
section
variable {K : PySem.W.Frag} {σ : L2.St} {g : Gh} {H : Hp} {e : En}
/-- an exception caught: data from now on -/
theorem Rel.newX (re : Rel K e σ H g) {p : Addr} {oe : Obj} (hp : H p = none) : Rel K e σ (upd H p (xcO p oe)) ⟨upd g.G p (xcO p oe), g.adr⟩ ∧ Stp g H ⟨upd g.G p (xcO p oe), g.adr⟩ (upd H p (xcO p oe)) := by
  have gf := re.gfree hp
  have af := re.afree hp
  refine ⟨re.slots (Gh.upd_le gf) rfl ⟨fun b u q => ?_, re.sto.len, re.sto.nod, fun a ha => ?_, fun k a c h1 h2 => ?_, tabs_new re.sto.tab hp, gtb_upd re.sto.gtb (fun ps z => by cases z)⟩, ⟨Gh.upd_le gf, fun b u q hb _ => ?_, fun a ha => .inl ha, fun b u q => ?_⟩⟩
  · have q : upd g.G p (xcO p oe) b = some u := q
    by_cases hb : b = p
    · subst hb; rw [upd_same] at q ⊢; exact q
    · rw [upd_ne hb] at q ⊢; exact re.sto.gh b u q
  · obtain ⟨u, q, z⟩ := re.sto.thr a ha
    exact ⟨u, by rw [upd_ne (ne_of_none q hp)]; exact q, z⟩
  · have hne : a ≠ p := fun z => af (z ▸ List.mem_of_getElem? h1)
    exact (re.sto.cel k a c h1 h2).mono (Gh.upd_le gf) (fun z => by show upd g.G p (xcO p oe) a = none; rw [upd_ne hne]; exact z) fun u q => by rw [upd_ne hne]; exact q
  · rw [upd_ne (ne_of_none q hp)]; exact q
  · by_cases hb : b = p
    · subst hb; exact .inr (.inl (nC.of hp))
    · have q' : upd g.G p (xcO p oe) b = some u := q
      rw [upd_ne hb] at q'; exact .inl q'
end
section
variable {X : Cx} {C : Nat → Addr} {W : WX} {xs : List Nat} {n : Nat} {mb mh : M Fl} {D : Ends} {g : Gh} {H : Hp} {e : En}
/-- what the clause is to do -/
theorem suite_of {i : Option Nat} {x : Xn} {e' : En} {cls : Value} {d : Option Addr} {σ' : L2.St} {g' : Gh} {H' : Hp} {a : Addr} {oe : Obj} (hC : C = Xb.C) (h : PostS X.K C W D g H (tryK i mh x e')) (re : Rel X.K e' σ' H' g') (st : Stp g H g' H') (rx : XRel C x cls d g'.G) (na : H' a = none) (hz : Zc cls d oe) (hd : ∃ vs, oe.data = .fields vs) :
    tS X.K C Wf mh { nx := fun σ' H' => D.nx (unI i σ') H', rt := D.rt, bk := fun σ' H' => D.bk (unI i σ') H', ct := fun σ' H' => D.ct (unI i σ') H' } (bnI i a σ') (upd H' a (xcO a oe)) := by
  obtain ⟨re2, st2⟩ := re.newX (oe := oe) na
  have h := h.shift (st.trans st2)
  cases i with
  | none =>
    refine ⟨e', _, re2, ?_⟩
    have h : PostS X.K C W D _ _ (nox mh e') := h
    unfold nox at h
    cases hm : mh e' with
    | stuck => rw [hm] at h; exact h.elim
    | exc y e3 => rw [hm] at h; exact h.elim
    | ok fl e3 => rw [hm] at h; exact h
  | some i =>
    have rs : RepS X.K ⟨upd g'.G a (xcO a oe), g'.adr⟩ (.ref a) (.xc x.nm x.row) := by
      refine ⟨a, oe, d, rfl, upd_same, ?_, hd, rx.2.mono (Gh.upd_le (re.gfree na)).le⟩
      rw [← hC, ← rx.1]
      exact hz
    have re3 := re2.set (i := i) rs
    refine ⟨⟨e'.sl.set i (.xc x.nm x.row), e'.cs⟩, _, re3, ?_⟩
    have h : PostS X.K C W D _ _ (bnd (nox mh) (fun fl => bnd (setS i .und) fun _ => ret fl) ⟨e'.sl.set i (.xc x.nm x.row), e'.cs⟩) := h
    unfold bnd nox at h
    cases hm : mh ⟨e'.sl.set i (.xc x.nm x.row), e'.cs⟩ with
    | stuck => rw [hm] at h; exact h.elim
    | exc y e3 => rw [hm] at h; exact h.elim
    | ok fl e3 =>
      rw [hm] at h
      intro σ4 g4 H4 re4 st4
      have k := h (σ4.set i none) g4 H4 (re4.wipe [i]) st4
      cases fl with
      | nxt => exact k
      | brk => exact k
      | cnt => exact k
      | rtn s => exact k
theorem try_of {i : Option Nat} {σ : L2.St} (hC : C = Xb.C) (T : ∀ m ∈ xs, PySem.W.exmOne X.K (.ref (C m)) (.ref (C n)) = some (catches n m)) (h : tS X.K C W (tryM xs n mb (tryK i mh)) D σ H) :
    tS X.K C (wV X.K (.ref (C n)) i (tS X.K C Wf mh) W D) mb D σ H := by
  obtain ⟨e, g, re, p⟩ := h
  refine ⟨e, g, re, ?_⟩
  unfold tryM at p
  cases hm : mb e with
  | stuck => rw [hm] at p; exact p.elim
  | ok fl e' => rw [hm] at p; exact p
  | exc x e' =>
    rw [hm] at p
    intro cls d σ' g' H' re' st rx
    have p2 : ∀ b1 b2, xs.contains x.nm = b1 → catches n x.nm = b2 → PostS X.K C W D g H (match b1, b2 with
      | true, true => (tryK i mh x e' : Out Fl)
      | true, false => .exc x e'
      | false, _ => .stuck) := fun b1 b2 h1 h2 => by subst h1; subst h2; exact p
    cases hx : xs.contains x.nm with
    | false =>
      have p3 := p2 false _ hx rfl
      cases hq : catches n x.nm <;> rw [hq] at p3 <;> exact p3.elim
    | true =>
      have hmem : x.nm ∈ xs := by simpa using hx
      refine ⟨catches n x.nm, by rw [rx.1]; exact T _ hmem, fun hq a oe na hz hd => ?_, fun hq => ?_⟩
      · exact suite_of hC (p2 true true hx hq) re' st rx na hz hd
      · exact p2 true false hx hq cls d σ' g' H' re' st rx
end
section
variable {X : Cx} {C : Nat → Addr} {W : WX} {xs : List Nat} {n i : Nat} {mb mh : M Fl} {body : List Stmt} {st : Stmt} {nm : Str} {np pos pos' : Pos}
theorem ds_tryV (hC : C = Xb.C) (T : ∀ m ∈ xs, PySem.W.exmOne X.K (.ref (C m)) (.ref (C n)) = some (catches n m)) (hs : X.stack = X.env :: X.outer) (hf : X.env.frame = some X.env.locals) (hN : X.N.Nodup) (hi : X.N[i]? = some nm) (hln : X.env.kindOf nm = some .local) (hc : Names X (xNm n) (.ref (C n))) (tk : Takes X W)
    (hb : ∀ (W : WX) (pn : List (Addr × Obj)) (xe : Value → Shared → Prop), Takes (X.tr pn xe) W → PassesOwn (model X.prog X.w) X.A X.env xe → DSs (X.tr pn xe) C W body mb)
    (hsu : ∀ (a : Addr) (pn : List (Addr × Obj)), PSs (X.suite a pn) [st] (tS X.K C Wf mh)) :
    DS X C W (.Try body [.ExceptHandler (some (.Name (xNm n) np)) (some nm) [st] pos'] [] [] pos) (tryM xs n mb (tryK (some i) mh)) :=
  (ps_tryV (tb := fun W => tS X.K C W mb) (ts := tS X.K C Wf mh) hs hf hN hi hln hc tk hb hsu).imp fun D σ H h => try_of hC T h
theorem ds_tryN (hC : C = Xb.C) (T : ∀ m ∈ xs, PySem.W.exmOne X.K (.ref (C m)) (.ref (C n)) = some (catches n m)) (hs : X.stack = X.env :: X.outer) (hf : X.env.frame = some X.env.locals) (hc : Names X (xNm n) (.ref (C n))) (tk : Takes X W)
    (hb : ∀ (W : WX) (pn : List (Addr × Obj)) (xe : Value → Shared → Prop), Takes (X.tr pn xe) W → PassesOwn (model X.prog X.w) X.A X.env xe → DSs (X.tr pn xe) C W body mb)
    (hsu : ∀ (a : Addr) (pn : List (Addr × Obj)), PSs (X.suite a pn) [st] (tS X.K C Wf mh)) :
    DS X C W (.Try body [.ExceptHandler (some (.Name (xNm n) np)) none [st] pos'] [] [] pos) (tryM xs n mb (tryK none mh)) :=
  (ps_tryN (tb := fun W => tS X.K C W mb) (ts := tS X.K C Wf mh) hs hf hc tk hb hsu).imp fun D σ H h => try_of hC T h
end
/-! isinstance of an exception at hand -/
def rIsX (K : PySem.W.Frag) : List V → Hp → VK → Prop := fun vs H Q => ∃ (a D : Addr) (oe : Obj) (d : Option Addr) (c : V) (cv : Value) (b : Bool), vs = [.ref a, c] ∧ H a = some (xcO a oe) ∧ Zc (.ref D) d oe ∧ (∃ us, oe.data = .fields us) ∧ (d = none ∨ ∃ dd fs, d = some dd ∧ H dd = some (.xd fs)) ∧ ExcC K D ∧ (∀ u, RelV c u → u = cv) ∧ PySem.W.kitOne K (.ref D) cv = some b ∧ Q (.bl b) H
theorem call_isX {X : Cx} : CallR X (.builtin "isinstance") (rIsX X.K) := by
  intro pins s σ H xs us Q I r h
  obtain ⟨a, D, oe, d, c, cv, b, rfl, hH, hz, hf, hd, C, hcv, e, q⟩ := h
  cases r with
  | cons rx rr =>
    cases rr with
    | cons rt rr =>
      cases rr
      cases rx
      have ec := hcv _ rt
      subst ec
      obtain ⟨hget, _⟩ := I.hok a _ hH
      obtain ⟨vs, hv⟩ := hf
      obtain ⟨od, J⟩ : ∃ od, PySem.W.InstAt s.heap a oe D od := by
        have hn : PySem.W.notCls oe = true := by unfold PySem.W.notCls; rw [hv] <;> rfl
        rcases hd with hd | ⟨dd, fs, hd, hx⟩
        · exact ⟨none, hget, hz.1, hn, by rw [hz.2, hd]; trivial⟩
        · obtain ⟨mA, hns, hr⟩ := I.hok dd _ hx
          obtain ⟨od, ho, hl⟩ := lookIn_ns hns
          exact ⟨some od, hget, hz.1, hn, by rw [hz.2, hd]; exact ho⟩
      have hcl : (PySem.W.clsIn X.K D).isSome = true := by
        obtain ⟨cd, hc, _⟩ := PySem.W.any_some C.hd
        rw [hc]; rfl
      exact PySem.W.kia_one (PySem.W.kitx_exc hcl C.hg C.hk C.hs C.ha C.hn C.ht C.hm) I.kIn J e (fun z => nomatch z) fun tk => ⟨.bl b, H, I.kept (t' := tk) fun _ _ z => z, rfl, q⟩
section
variable {X : Cx} {C : Nat → Addr} {W : WX} {xs : List Nat} {c : Nat} {a : Expr} {ma : M Sl} {pos : Pos}
theorem isx_of {K : PySem.W.Frag} {mg : Str → Option Value} {σ : L2.St} {g1 : Gh} {H1 : Hp} {e1 : En} {Q : VK} {v cw : V} {cv : Value} {s : Sl} (T : ∀ n ∈ xs, XcOk K mg Xb.C xs n) (re1 : Rel K e1 σ H1 g1) (rv : RepS K g1 v s) (p : Post K C (RepS K) W σ g1 H1 (isxM xs c s e1) Q)
    (hc : ∀ u, RelV cw u → u = cv) (hk : ∀ n ∈ xs, PySem.W.kitOne K (.ref (Xb.C n)) cv = some (subX c n)) : rIsX K [v, cw] H1 Q := by
  cases s with
  | und => exact rv.elim
  | val d => exact p.elim
  | cel k => exact p.elim
  | xc n row =>
    obtain ⟨hx, p⟩ := Post.req p
    have hx : n ∈ xs := by simpa using hx
    obtain ⟨a, oe, d, rfl, h2, h3, h4, h5⟩ := rv
    refine ⟨a, Xb.C n, oe, d, cw, cv, subX c n, rfl, re1.sto.gh _ _ h2, h3, h4, ?_, (T n hx).cls, hc, hk n hx, Post.ans re1 p (.bl _)⟩
    cases row with
    | none => exact .inl h5
    | some r => obtain ⟨dd, fs, k1, k2, _⟩ := h5; exact .inr ⟨dd, fs, k1, re1.sto.gh _ _ k2⟩
theorem de_isx {p p2 : Pos} (T : ∀ n ∈ xs, XcOk X.K X.mg Xb.C xs n) (hcx : c ∈ xs) (hc12 : c ≠ 12) (hg : Gl X "isinstance") (hn : X.mg "isinstance" = none) (hgy : Gl X (xNm c)) (h1 : nst a = true) (ha : DE X C W a ma) :
    DE X C W (.Call (.Name "isinstance" p) [a, .Name (xNm c) p2] [] pos) (bnd ma (isxM xs c)) := by
  have hb : PE X (.Name (xNm c) p2) (tC (.ref (Xb.C c))) := pe_glob hgy (T c hcx).mg_ rfl (xNm_ok c)
  refine (pe_callB call_isX hg hn (bi_boot (.isi 0)) (pa_cons ha (pa_cons hb pa_nil (by rfl)) (star_cons h1)) (by decide +kernel) (by decide +kernel) (star_cons h1) (by rfl)).imp fun σ H Q h => ?_
  refine h.bind fun v H1 s e1 g1 re1 rv p => ?_
  exact isx_of T re1 rv p (fun u r => r) fun n hx => by
    rw [(T n hx).kit c hcx]
    unfold subX catches
    have e : (c == 12) = false := by simpa using hc12
    rw [e, Bool.or_false]
theorem de_isxV {p p2 : Pos} (T : ∀ n ∈ xs, XcOk X.K X.mg Xb.C xs n) (hg : Gl X "isinstance") (hn : X.mg "isinstance" = none) (hgy : Gl X "ValueError") (hny : X.mg "ValueError" = none) (h1 : nst a = true) (ha : DE X C W a ma) :
    DE X C W (.Call (.Name "isinstance" p) [a, .Name "ValueError" p2] [] pos) (bnd ma (isxM xs 12)) := by
  have hb : PE X (.Name "ValueError" p2) (tC (.ty "ValueError")) := pe_bltn hgy hny (by decide +kernel) rfl (by decide +kernel) (by decide +kernel)
  refine (pe_callB call_isX hg hn (bi_boot (.isi 0)) (pa_cons ha (pa_cons hb pa_nil (by rfl)) (star_cons h1)) (by decide +kernel) (by decide +kernel) (star_cons h1) (by rfl)).imp fun σ H Q h => ?_
  refine h.bind fun v H1 s e1 g1 re1 rv p => ?_
  exact isx_of T re1 rv p (fun u r => r) fun n hx => by
    rw [(T n hx).kitV]; rfl
/-- isinstance(e, (C1, C2, ..)) -/
def tRefs : List Nat → TA
  | [] => tNil
  | c :: r => tCons (tC (.ref (Xb.C c))) (tRefs r)
theorem tRefs_of {σ : L2.St} {H : Hp} : ∀ {cs : List Nat} {Q : List V → Hp → Prop}, Q (cs.map fun c => V.ref (Xb.C c)) H → tRefs cs σ H Q
  | [], Q, h => h
  | c :: r, Q, h => by
    show tRefs r σ H fun ys H2 => Q (V.ref (Xb.C c) :: ys) H2
    exact tRefs_of h
def refsOk (xs : List Nat) (gl : Str → Bool) : List Nat → List Expr → Bool
  | [], [] => true
  | c :: cs, .Name y _ :: es => decide (c ∈ xs) && decide (c ≠ 12) && decide (y = xNm c) && gl y && refsOk xs gl cs es
  | _, _ => false
theorem pa_refs {gl : Str → Bool} (hgl : ∀ y, gl y = true → Gl X y) (T : ∀ n ∈ xs, XcOk X.K X.mg Xb.C xs n) : ∀ {cs : List Nat} {es : List Expr}, refsOk xs gl cs es = true → PA X es (tRefs cs) ∧ ∀ c ∈ cs, c ∈ xs ∧ c ≠ 12
  | [], [], _ => ⟨pa_nil, fun _ h => by cases h⟩
  | [], _ :: _, h => by simp [refsOk] at h
  | _ :: _, [], h => by simp [refsOk] at h
  | c :: cs, e :: es, h => by
    cases e <;> first | (simp [refsOk] at h; done) | skip
    rename_i y p
    simp only [refsOk, Bool.and_eq_true, decide_eq_true_eq] at h
    obtain ⟨⟨⟨⟨h1, h2⟩, rfl⟩, h4⟩, h5⟩ := h
    obtain ⟨k1, k2⟩ := pa_refs hgl T h5
    refine ⟨pa_cons (pe_glob (hgl _ h4) (T c h1).mg_ rfl (xNm_ok c)) k1 (by rfl), fun d hd => ?_⟩
    rcases List.mem_cons.mp hd with rfl | hd
    · exact ⟨h1, h2⟩
    · exact k2 d hd
def rIsXT (K : PySem.W.Frag) : List V → Hp → VK → Prop := fun vs H Q => ∃ (a D : Addr) (oe : Obj) (d : Option Addr) (tp : Addr) (cs : List V) (us : List Value) (b : Bool), vs = [.ref a, .ref tp] ∧ H a = some (xcO a oe) ∧ Zc (.ref D) d oe ∧ (∃ us, oe.data = .fields us) ∧ (d = none ∨ ∃ dd fs, d = some dd ∧ H dd = some (.xd fs)) ∧ ExcC K D ∧ H tp = some (.tup cs) ∧ (∀ ws, Vals cs ws → ws = us) ∧ PySem.W.kitAny K (.ref D) us = some b ∧ Q (.bl b) H
theorem call_isXT {X : Cx} : CallR X (.builtin "isinstance") (rIsXT X.K) := by
  intro pins s σ H xs us Q I r h
  obtain ⟨a, D, oe, d, tp, cs, ws, b, rfl, hH, hz, hf, hd, C, hT, hcv, e, q⟩ := h
  cases r with
  | cons rx rr =>
    cases rr with
    | cons rt rr =>
      cases rr
      cases rx
      rename_i u2
      cases (show u2 = Value.ref tp from rt)
      obtain ⟨hget, _⟩ := I.hok a _ hH
      obtain ⟨vs, hv⟩ := hf
      obtain ⟨od, J⟩ : ∃ od, PySem.W.InstAt s.heap a oe D od := by
        have hn : PySem.W.notCls oe = true := by unfold PySem.W.notCls; rw [hv] <;> rfl
        rcases hd with hd | ⟨dd, fs, hd, hx⟩
        · exact ⟨none, hget, hz.1, hn, by rw [hz.2, hd]; trivial⟩
        · obtain ⟨mA, hns, hr⟩ := I.hok dd _ hx
          obtain ⟨od, ho, hl⟩ := lookIn_ns hns
          exact ⟨some od, hget, hz.1, hn, by rw [hz.2, hd]; exact ho⟩
      have hcl : (PySem.W.clsIn X.K D).isSome = true := by
        obtain ⟨cd, hc, _⟩ := PySem.W.any_some C.hd
        rw [hc]; rfl
      obtain ⟨_, its, rv, o, h1, h2, n, h3⟩ := (show ObjOk X.prog X.w H s.heap tp (.tup cs) from I.hok tp _ hT)
      have e3 := hcv its rv
      subst e3
      obtain ⟨oc, od2, dt, sl⟩ := o
      simp only at h2 h3
      subst h2 h3
      exact PySem.W.kia_tup (PySem.W.kitx_exc hcl C.hg C.hk C.hs C.ha C.hn C.ht C.hm) I.kIn J h1 e (fun z => nomatch z) fun tk => ⟨.bl b, H, I.kept (t' := tk) fun _ _ z => z, rfl, q⟩
theorem vals_refs : ∀ {cs : List Nat} {ws : List Value}, Vals (cs.map fun c => V.ref (Xb.C c)) ws → ws = cs.map fun c => Value.ref (Xb.C c)
  | [], ws, h => by cases h; rfl
  | c :: r, ws, h => by
    cases h with
    | cons a b =>
      rename_i u us
      cases (show u = Value.ref (Xb.C c) from a)
      rw [vals_refs b]
      rfl
theorem kit_refs {K : PySem.W.Frag} {mg : Str → Option Value} {n : Nat} (h : XcOk K mg Xb.C xs n) : ∀ {cs : List Nat}, (∀ c ∈ cs, c ∈ xs ∧ c ≠ 12) → PySem.W.kitAny K (.ref (Xb.C n)) (cs.map fun c => Value.ref (Xb.C c)) = some (cs.any fun c => subX c n)
  | [], _ => rfl
  | c :: r, hc => by
    obtain ⟨h1, h2⟩ := hc c List.mem_cons_self
    have e : (c == 12) = false := by simpa using h2
    have k : PySem.W.kitOne K (.ref (Xb.C n)) (.ref (Xb.C c)) = some (subX c n) := by
      rw [h.kit c h1]
      unfold subX catches
      rw [e, Bool.or_false]
    show (match PySem.W.kitOne K (.ref (Xb.C n)) (.ref (Xb.C c)) with | some true => some true | some false => PySem.W.kitAny K (.ref (Xb.C n)) (r.map fun c => Value.ref (Xb.C c)) | none => none) = _
    rw [k, List.any_cons, kit_refs h fun d hd => hc d (List.mem_cons_of_mem _ hd)]
    cases subX c n <;> rfl
theorem de_isxT {cs : List Nat} {es : List Expr} {p : Pos} {x1 : Nat} {gl : Str → Bool} (hgl : ∀ y, gl y = true → Gl X y) (T : ∀ n ∈ xs, XcOk X.K X.mg Xb.C xs n) (hr : refsOk xs gl cs es = true) (hl : cs.length ≤ 1000) (hg : Gl X "isinstance") (hn : X.mg "isinstance" = none) (h1 : nst a = true) (ha : DE X C W a ma) {p2 : Pos} :
    DE X C W (.Call (.Name "isinstance" p) [a, .Tuple es x1 p2] [] pos) (bnd ma (isxTM xs cs)) := by
  obtain ⟨k1, k2⟩ := pa_refs hgl T hr
  refine (pe_callB call_isXT hg hn (bi_boot (.isi 0)) (pa_cons ha (pa_cons (pe_tup k1) pa_nil (by rfl)) (star_cons h1)) (by decide +kernel) (by decide +kernel) (star_cons h1) (by rfl)).imp fun σ H Q h => ?_
  refine h.bind fun v H1 s e1 g1 re1 rv p => ?_
  show tTup (tRefs cs) σ H1 fun x H2 => rIsXT X.K [v, x] H2 Q
  refine tRefs_of ⟨by rw [List.length_map, sizeLine_eq]; omega, fun q hq => ?_⟩
  cases s with
  | und => exact rv.elim
  | val d => exact p.elim
  | cel k => exact p.elim
  | xc n row =>
    obtain ⟨hx, p⟩ := Post.req p
    have hx : n ∈ xs := by simpa using hx
    have re2 : Rel X.K e1 σ (upd H1 q (.tup (cs.map fun c => V.ref (Xb.C c)))) g1 := re1.junk (re1.gfree hq) (re1.afree hq) (fun b hb => upd_ne hb) fun o z => by rw [hq] at z; cases z
    have p2 := p.shift ((Stp.refl g1 H1).upd hq (o := .tup (cs.map fun c => V.ref (Xb.C c))))
    obtain ⟨a, oe, d, rfl, h2, h3, h4, h5⟩ := rv
    refine ⟨a, Xb.C n, oe, d, q, _, _, cs.any fun c => subX c n, rfl, re2.sto.gh _ _ h2, h3, h4, ?_, (T n hx).cls, upd_same, fun ws hw => vals_refs hw, kit_refs (T n hx) k2, Post.ans re2 p2 (.bl _)⟩
    cases row with
    | none => exact .inl h5
    | some r => obtain ⟨dd, fs, k1, k2, _⟩ := h5; exact .inr ⟨dd, fs, k1, re2.sto.gh _ _ k2⟩
end
end DL
/-! DL, part o: the written text checked against the core: expressions. -/
namespace DL
open PySem L2
def sNm (s : List Nat) : Str := ⟨s.toArray⟩
def nmOk (x : Str) : Bool := !(x == ("__debug__" : Str)) && !(x == ("__classdict__" : Str))
abbrev Ck := Bool → Gam → Expr → CE → Bool
mutual
def ckG (Γ : Gam) : Tg → Expr → Bool
  | .v i, .Name x _ => decide (Γ.N[i]? = some x) && locB Γ x
  | .t l, .Tuple es _ _ => es.all nst && decide (es.length = l.length) && ckGs Γ l es
  | _, _ => false
def ckGs (Γ : Gam) : List Tg → List Expr → Bool
  | [], [] => true
  | t :: l, e :: es => ckG Γ t e && ckGs Γ l es
  | _, _ => false
end
def kVar (Γ : Gam) (i : Nat) : Expr → Bool
  | .Name x _ => decide (Γ.N[i]? = some x) && visB Γ x && nmOk x
  | _ => false
def kLit (Γ : Gam) (d : D) : Expr → Bool
  | .Name x _ => glB Γ x && nmOk x && (match Γ.glb.lookup x with | some d' => same d' d | none => false)
  | .Constant (.int i) _ _ => same (.int i) d
  | .Constant (.bool b) _ _ => same (.bl b) d
  | .Constant .none _ _ => same .non d
  | .Constant (.str s) _ _ => same (.str s.cps.toList) d
  | _ => false
section
variable (ck : Ck) (Γ : Gam)
def ckL : List Expr → List CE → Bool
  | [], [] => true
  | e :: es, c :: cs => nst e && ck false Γ e c && ckL es cs
  | _, _ => false
def ckO : Option Expr → Option CE → Bool
  | none, none => true
  | some e, some c => ck false Γ e c
  | _, _ => false
def kBin (k : BinK) (x y : CE) : Expr → Bool
  | .BinOp a op b _ => decide (op = opK k) && ck false Γ a x && ck false Γ b y
  | _ => false
def kNeg (x : CE) : Expr → Bool
  | .UnaryOp .USub a _ => ck false Γ a x
  | _ => false
def kCmp (k : CmpK) (x y : CE) : Expr → Bool
  | .Compare a [op] [b] _ => decide (op = opC k) && nset b && ck false Γ a x && ck false Γ b y
  | _ => false
def kChain (k k' : CmpK) (x y z : CE) : Expr → Bool
  | .Compare a [op, op'] [b, c] _ => decide (op = opC k) && decide (op' = opC k') && nset c && ck false Γ a x && ck false Γ b y && ck false Γ c z
  | _ => false
def kAnd (m : Bool) (x y : CE) : Expr → Bool
  | .BoolOp .And (a :: b :: r) p => ck m Γ a x && ck m Γ (.BoolOp .And (b :: r) p) y
  | _ => false
def kOr (m : Bool) (x y : CE) : Expr → Bool
  | .BoolOp .Or (a :: b :: r) p => ck m Γ a x && ck m Γ (.BoolOp .Or (b :: r) p) y
  | _ => false
def kNot (m : Bool) (x : CE) : Expr → Bool
  | .UnaryOp .Not a _ => ck m Γ a x
  | _ => false
def kIte (x y z : CE) : Expr → Bool
  | .IfExp c a b _ => ck true Γ c x && ck false Γ a y && ck false Γ b z
  | _ => false
def kTup (cs : List CE) : Expr → Bool
  | .Tuple es _ _ => ckL ck Γ es cs
  | _ => false
def kLst (cs : List CE) : Expr → Bool
  | .List es _ => ckL ck Γ es cs
  | _ => false
def kKeys : List (Option Expr) → List D → Bool
  | [], [] => true
  | some e :: es, d :: ds => keyD d && kLit Γ d e && kKeys es ds
  | _, _ => false
def kDct (ks : List D) (cs : List CE) : Expr → Bool
  | .Dict keys vs _ => kKeys Γ keys ks && ckL ck Γ vs cs && decide (keys.length = vs.length) && decide (keys.length ≤ 15)
  | _ => false
def kDin (neg : Bool) (x y : CE) : Expr → Bool
  | .Compare a [op] [b] _ => decide (op = if neg then .NotIn else .In) && nset b && ck false Γ a x && ck false Γ b y
  | _ => false
def kIdx (x y : CE) : Expr → Bool
  | .Subscript a i _ => nslice i && ck false Γ a x && ck false Γ i y
  | _ => false
def kDgt2 (x y z : CE) : Expr → Bool
  | .Call (.Attribute a n apos) [b, c] [] pos => decide (n = ("get" : Str)) && attrOk a && (apos.endLine == pos.line) && nst b && nst c && ck false Γ a x && ck false Γ b y && ck false Γ c z
  | _ => false
def kSlc (x : CE) (lo hi : Option CE) : Expr → Bool
  | .Subscript a (.Slice l h none _) _ => ck false Γ a x && ckO ck Γ l lo && ckO ck Γ h hi
  | _ => false
def kInRng (x y : CE) : Expr → Bool
  | .Compare a [.In] [.Call (.Name n _) [b] [] _] _ => decide (n = ("range" : Str)) && glB Γ n && nst b && ck false Γ a x && ck false Γ b y
  | _ => false
def kRev (x : CE) : Expr → Bool
  | .Subscript a (.Slice none none (some (.UnaryOp .USub (.Constant (.int 1) _ _) _)) _) _ => ck false Γ a x
  | _ => false
def kLrng (x : CE) : Expr → Bool
  | .Call (.Name m _) [.Call (.Name n _) [b] [] _] [] _ => decide (m = ("list" : Str)) && decide (n = ("range" : Str)) && glB Γ m && glB Γ n && nst b && ck false Γ b x
  | _ => false
def kLrng2 (x y : CE) : Expr → Bool
  | .Call (.Name m _) [.Call (.Name n _) [b, c] [] _] [] _ => decide (m = ("list" : Str)) && decide (n = ("range" : Str)) && glB Γ m && glB Γ n && nst b && nst c && ck false Γ b x && ck false Γ c y
  | _ => false
def kCall (f : Nat) (cs : List CE) : Expr → Bool
  | .Call (.Name x _) (a :: es) [] _ => decide (Γ.fns.lookup f = some x) && glB Γ x && nmOk x && ckL ck Γ (a :: es) cs
  | .Call (.Name x _) [] [] _ => decide (Γ.fns.lookup f = some x) && glB Γ x && nmOk x && cs.isEmpty
  | _ => false
def kBi (b : Bi) (cs : List CE) : Expr → Bool
  | .Call (.Name x _) (a :: es) [] _ => decide (x = biNm b) && glB Γ x && (match b with
    | .isi T => (match es, cs with
      | [.Name y _], [c] => decide (T < 6) && decide (y = PySem.Str.ofString (tyN T)) && glB Γ y && nst a && ck false Γ a c
      | _, _ => false)
    | _ => ckL ck Γ (a :: es) cs)
  | _ => false
def kMt (m : Mt) (x : CE) (cs : List CE) : Expr → Bool
  | .Call (.Attribute o n apos) es [] pos => decide (n = mtNm m) && attrOk o && (apos.endLine == pos.line) && ck false Γ o x && decide (es.length ≤ 1) && ckL ck Γ es cs
  | _ => false
def isTupE : Expr → Bool
  | .Tuple .. => true
  | _ => false
def ckI (tg : Expr) : CI → Expr → Bool
  | .seq c, e => ck false Γ e c
  | .chr c, e => ck false Γ e c
  | .rng1 x, .Call (.Name n _) [a] [] _ => decide (n = ("range" : Str)) && glB Γ n && nst a && ck false Γ a x
  | .rng2 x y, .Call (.Name n _) [a, b] [] _ => decide (n = ("range" : Str)) && glB Γ n && nst a && nst b && ck false Γ a x && ck false Γ b y
  | .rng3 x y c, .Call (.Name n _) [a, b, .UnaryOp .USub (.Constant (.int i) _ _) _] [] _ => decide (n = ("range" : Str)) && glB Γ n && decide (c = -i) && nst a && nst b && ck false Γ a x && ck false Γ b y
  | .enm x, .Call (.Name n _) [a] [] _ => decide (n = ("enumerate" : Str)) && isTupE tg && glB Γ n && nst a && ck false Γ a x
  | .zip x y, .Call (.Name n _) [a, b] [] _ => decide (n = ("zip" : Str)) && isTupE tg && glB Γ n && nst a && nst b && ck false Γ a x && ck false Γ b y
  | _, _ => false
def ownOf (vs : List Nat) : List (Str × Nat) := vs.filterMap fun i => Γ.N[i]?.map fun x => (x, i)
def ckC : Option CE → List Expr → Bool
  | none, [] => true
  | some c, [e] => ck true Γ e c
  | _, _ => false
def kComp (vs : List Nat) (tg : Tg) (it : CI) (cond : Option CE) (elt : CE) : Expr → Bool
  | .ListComp e [⟨t, i, ifs, asy⟩] scope _ => decide (asy = 0) && nset i && decide ((ownOf Γ vs).map (·.2) = vs) && blkC Γ.N Γ.sc scope (ownOf Γ vs) && (tvs tg).all (fun j => decide (j ∈ vs)) && ckI ck Γ t it i
      && ckG { Γ with sc := scope, l0 := none } tg t && ckC ck { Γ with sc := scope, l0 := none } cond ifs && ck false { Γ with sc := scope, l0 := none } e elt
  | _ => false
def kSrtK (rg : Bool) (i : Nat) (x body : CE) : Expr → Bool
  | .Call (.Name n _) [a] [⟨some kw, .Lambda ⟨[], [⟨y, none, _⟩], none, [], [], none, []⟩ lb scope _, _⟩] _ => decide (n = ("sorted" : Str)) && decide (kw = ("key" : Str)) && glB Γ n && lamPB Γ.N Γ.sc scope i y &&
    (match Γ.l0 with
    | some fn0 => ck false ⟨Γ.N, scope, Γ.glb, fn0, none, []⟩ lb body
    | none => false) &&
    (match rg with
    | false => nst a && ck false Γ a x
    | true => (match a with
      | .Call (.Name m _) [b] [] _ => decide (m = ("range" : Str)) && glB Γ m && nst b && ck false Γ b x
      | _ => false))
  | _ => false
def kIsx (xs : List Nat) (c : Nat) (x : CE) : Expr → Bool
  | .Call (.Name f _) [a, .Name y _] [] _ => decide (f = ("isinstance" : Str)) && glB Γ f && glB Γ y && nst a && decide (xs = Γ.xs) && ck false Γ a x && ((decide (c = 12) && decide (y = ("ValueError" : Str))) || (decide (c ∈ Γ.xs) && decide (y = xNm c) && decide (c ≠ 12)))
  | _ => false
def kIsxT (xs cs : List Nat) (x : CE) : Expr → Bool
  | .Call (.Name f _) [a, .Tuple es _ _] [] _ => decide (f = ("isinstance" : Str)) && glB Γ f && nst a && decide (xs = Γ.xs) && ck false Γ a x && refsOk Γ.xs (glB Γ) cs es && decide (cs.length ≤ 1000)
  | _ => false
def oneB : Expr → Option Expr
  | .BoolOp _ [a] _ => some a
  | _ => none
def bodyE : CE → Expr → Bool
  | .var i, e => kVar Γ i e
  | .lit d, e => kLit Γ d e
  | .bin _ k x y, e => kBin ck Γ k x y e
  | .neg x, e => kNeg ck Γ x e
  | .cmp k x y, e => kCmp ck Γ k x y e
  | .chain k k' x y z, e => kChain ck Γ k k' x y z e
  | .and2 x y, e => kAnd ck Γ false x y e
  | .or2 x y, e => kOr ck Γ false x y e
  | .not1 x, e => kNot ck Γ false x e
  | .ite x y z, e => kIte ck Γ x y z e
  | .tup cs, e => kTup ck Γ cs e
  | .lst _ cs, e => kLst ck Γ cs e
  | .dct _ ks cs, e => kDct ck Γ ks cs e
  | .din neg x y, e => kDin ck Γ neg x y e
  | .dget x y, e => kIdx ck Γ x y e
  | .dgt2 x y z, e => kDgt2 ck Γ x y z e
  | .idx x y, e => kIdx ck Γ x y e
  | .slc _ x lo hi, e => kSlc ck Γ x lo hi e
  | .inRng x y, e => kInRng ck Γ x y e
  | .rev _ x, e => kRev ck Γ x e
  | .lrng _ x, e => kLrng ck Γ x e
  | .lrng2 _ x y, e => kLrng2 ck Γ x y e
  | .addR x y, e => kBin ck Γ .add x y e
  | .call f cs, e => kCall ck Γ f cs e
  | .frz x, e => ck false Γ e x
  | .bi b _ cs, e => kBi ck Γ b cs e
  | .mt m _ x cs, e => kMt ck Γ m x cs e
  | .comp _ vs tg it cond elt, e => kComp ck Γ vs tg it cond elt e
  | .srtK rg _ i x b, e => kSrtK ck Γ rg i x b e
  | .compC _ vs tg a cond elt, e => kComp ck Γ vs tg (.seq a) cond elt e
  | .isx xs n x, e => kIsx ck Γ xs n x e
  | .isxT xs cs x, e => kIsxT ck Γ xs cs x e
  | .xrow _, _ => false
def bodyT : CE → Expr → Bool
  | .and2 x y, e => kAnd ck Γ true x y e
  | .or2 x y, e => kOr ck Γ true x y e
  | .not1 x, e => kNot ck Γ true x e
  | .cmp k x y, e => kCmp ck Γ k x y e
  | .chain k k' x y z, e => kChain ck Γ k k' x y z e
  | .din neg x y, e => kDin ck Γ neg x y e
  | c, e => plainT e && ck false Γ e c
end
def chkE : Nat → Ck
  | 0, _, _, _, _ => false
  | n + 1, m, Γ, e, c => match oneB e with
    | some a => chkE n m Γ a c
    | none => match m with
      | false => bodyE (chkE n) Γ c e
      | true => bodyT (chkE n) Γ c e
end DL
/-! DL, part p: the check is sound: expressions. -/
namespace DL
open PySem L2
variable [xb : Xb] [Tb]
def Snd (cal : Nat → Fn) (ck : Ck) : Prop := ∀ [tb : Tb] (m : Bool) (X : Cx) (Γ : Gam) (C : Nat → Addr) (W : WX) (e : Expr) (c : CE), Good X Γ C W cal (spB X.K C) → ck m Γ e c = true →
  (m = false → DE X C W e (ev cal c)) ∧ (m = true → DT X C W e (bnd (ev cal c) truM) ∧ ∀ op es p, e = .BoolOp op es p → PW X e (tM X.K C RB W (bnd (ev cal c) truM)))
section
variable {cal : Nat → Fn} {ck : Ck} {X : Cx} {Γ : Gam} {C : Nat → Addr} {W : WX} {e : Expr} {c : CE}
theorem Snd.E (S : Snd cal ck) (G : Good X Γ C W cal (spB X.K C)) (h : ck false Γ e c = true) : DE X C W e (ev cal c) := (S false X Γ C W e c G h).1 rfl
theorem Snd.T (S : Snd cal ck) (G : Good X Γ C W cal (spB X.K C)) (h : ck true Γ e c = true) : DT X C W e (bnd (ev cal c) truM) := ((S true X Γ C W e c G h).2 rfl).1
theorem Snd.P (S : Snd cal ck) (G : Good X Γ C W cal (spB X.K C)) {op : BoolOp} {es : List Expr} {p : Pos} (h : ck true Γ (.BoolOp op es p) c = true) : PW X (.BoolOp op es p) (tM X.K C RB W (bnd (ev cal c) truM)) := ((S true X Γ C W _ c G h).2 rfl).2 op es p rfl
theorem nm_ok {x : Str} (h : nmOk x = true) : (x == ("__debug__" : Str)) = false ∧ (x == ("__classdict__" : Str)) = false := by
  unfold nmOk at h
  simpa using h
theorem sVar {i : Nat} (G : Good X Γ C W cal (spB X.K C)) (h : kVar Γ i e = true) : DE X C W e (getS i) := by
  unfold kVar at h
  split at h
  · simp only [Bool.and_eq_true, decide_eq_true_eq] at h
    obtain ⟨⟨h1, h2⟩, h3⟩ := h
    obtain ⟨h4, h5⟩ := nm_ok h3
    exact de_var (by rw [G.hN]; exact h1) (G.vis h2) h4 h5
  · cases h
theorem units1 (G : Good X Γ C W cal (spB X.K C)) : X.A.units + 1 < cLine ∧ X.A.units + 64 < cLine := by
  have := G.units
  omega
mutual
theorem same_eq : ∀ {a b : D}, same a b = true → a = b
  | .non, b, h => by cases b <;> first | rfl | cases h
  | .bl x, b, h => by
    cases b <;> first | (cases h; done) | skip
    case bl y => have h : (x == y) = true := h; rw [beq_iff_eq] at h; rw [h]
  | .int x, b, h => by
    cases b <;> first | (cases h; done) | skip
    case int y => have h : (x == y) = true := h; rw [beq_iff_eq] at h; rw [h]
  | .str x, b, h => by
    cases b <;> first | (cases h; done) | skip
    case str y => have h : (x == y) = true := h; rw [beq_iff_eq] at h; rw [h]
  | .lst x, b, h => by
    cases b <;> first | (cases h; done) | skip
    case lst y => have h : sames x y = true := h; rw [sames_eq h]
  | .tup x, b, h => by
    cases b <;> first | (cases h; done) | skip
    case tup y => have h : sames x y = true := h; rw [sames_eq h]
  | .dct x z, b, h => by
    cases b <;> first | (cases h; done) | skip
    case dct y w => have h : (sames x y && sames z w) = true := h; rw [Bool.and_eq_true] at h; rw [sames_eq h.1, sames_eq h.2]
  | .frl x, b, h => by cases b <;> cases h
theorem sames_eq : ∀ {a b : List D}, sames a b = true → a = b
  | [], b, h => by cases b <;> first | rfl | cases h
  | x :: xs, b, h => by
    cases b with
    | nil => cases h
    | cons y ys => have h : (same x y && sames xs ys) = true := h; rw [Bool.and_eq_true] at h; rw [same_eq h.1, sames_eq h.2]
end
theorem str_eta (s : Str) : (⟨s.cps.toList.toArray⟩ : Str) = s := by simp
theorem sLit {d : D} (G : Good X Γ C W cal (spB X.K C)) (h : kLit Γ d e = true) : DE X C W e (ret (.val d)) := by
  unfold kLit at h
  split at h
  · simp only [Bool.and_eq_true] at h
    obtain ⟨⟨h1, h2⟩, h3⟩ := h
    split at h3
    · rename_i d' hd
      obtain rfl := same_eq h3
      obtain ⟨u, v, k1, k2, k3⟩ := G.con _ _ hd
      exact de_lit (pe_glob (G.glo h1) k1 k2 (nm_ok h2).1) k3
    · cases h3
  · obtain rfl := same_eq h; exact de_lit pe_int fun _ => .int _
  · obtain rfl := same_eq h; exact de_lit pe_bl fun _ => .bl _
  · obtain rfl := same_eq h; exact de_lit pe_non fun _ => .non
  · rename_i s _ _
    obtain rfl := same_eq h
    exact de_lit pe_str fun _ => by
      have := Dr.str (K := X.K) (G := ‹_›) s.cps.toList
      rw [str_eta] at this; exact this
  · cases h
theorem sL (S : Snd cal ck) (G : Good X Γ C W cal (spB X.K C)) : ∀ {es : List Expr} {cs : List CE}, ckL ck Γ es cs = true → DA X C W es (evL cal cs) ∧ es.all nst = true
  | [], [], _ => ⟨da_nil, rfl⟩
  | [], _ :: _, h => by cases h
  | _ :: _, [], h => by cases h
  | e :: es, c :: cs, h => by
    unfold ckL at h
    simp only [Bool.and_eq_true] at h
    obtain ⟨⟨h1, h2⟩, h3⟩ := h
    obtain ⟨i1, i2⟩ := sL S G h3
    exact ⟨da_cons h1 (S.E G h2) i1, by rw [List.all_cons, h1, i2]; rfl⟩
theorem sO (S : Snd cal ck) (G : Good X Γ C W cal (spB X.K C)) : ∀ {o : Option Expr} {c : Option CE}, ckO ck Γ o c = true → DO X C W o (evO cal c)
  | none, none, _ => do_none
  | none, some _, h => by cases h
  | some _, none, h => by cases h
  | some e, some c, h => do_some (S.E G h)
theorem sBin {f : Nat} {k : BinK} {x y : CE} (S : Snd cal ck) (G : Good X Γ C W cal (spB X.K C)) (h : kBin ck Γ k x y e = true) : DE X C W e (ev cal (.bin f k x y)) := by
  unfold kBin at h
  split at h
  · simp only [Bool.and_eq_true, decide_eq_true_eq] at h
    obtain ⟨⟨rfl, h2⟩, h3⟩ := h
    exact de_bin (S.E G h2) (S.E G h3)
  · cases h
theorem sAddR {x y : CE} (S : Snd cal ck) (G : Good X Γ C W cal (spB X.K C)) (h : kBin ck Γ .add x y e = true) : DE X C W e (ev cal (.addR x y)) := by
  unfold kBin at h
  split at h
  · simp only [Bool.and_eq_true, decide_eq_true_eq] at h
    obtain ⟨⟨rfl, h2⟩, h3⟩ := h
    exact de_addR (S.E G h2) (S.E G h3)
  · cases h
theorem sNeg {x : CE} (S : Snd cal ck) (G : Good X Γ C W cal (spB X.K C)) (h : kNeg ck Γ x e = true) : DE X C W e (ev cal (.neg x)) := by
  unfold kNeg at h
  split at h
  · exact de_neg (S.E G h)
  · cases h
theorem sCmp {k : CmpK} {x y : CE} (S : Snd cal ck) (G : Good X Γ C W cal (spB X.K C)) (h : kCmp ck Γ k x y e = true) : DE X C W e (ev cal (.cmp k x y)) ∧ DT X C W e (bnd (ev cal (.cmp k x y)) truM) ∧ oneB e = none ∧ ∀ op es p, e ≠ .BoolOp op es p := by
  unfold kCmp at h
  split at h
  · simp only [Bool.and_eq_true, decide_eq_true_eq] at h
    obtain ⟨⟨⟨rfl, h1⟩, h2⟩, h3⟩ := h
    exact ⟨de_cmp (units1 G).2 h1 (S.E G h2) (S.E G h3), dt_cmp (units1 G).2 h1 (S.E G h2) (S.E G h3), rfl, fun _ _ _ z => by cases z⟩
  · cases h
theorem sChain {k k' : CmpK} {x y z : CE} (S : Snd cal ck) (G : Good X Γ C W cal (spB X.K C)) (h : kChain ck Γ k k' x y z e = true) : DE X C W e (ev cal (.chain k k' x y z)) ∧ DT X C W e (bnd (ev cal (.chain k k' x y z)) truM) ∧ ∀ op es p, e ≠ .BoolOp op es p := by
  unfold kChain at h
  split at h
  · simp only [Bool.and_eq_true, decide_eq_true_eq] at h
    obtain ⟨⟨⟨⟨⟨rfl, rfl⟩, h1⟩, h2⟩, h3⟩, h4⟩ := h
    exact ⟨de_chain (units1 G).2 h1 (S.E G h2) (S.E G h3) (S.E G h4), dt_chain (units1 G).2 h1 (S.E G h2) (S.E G h3) (S.E G h4), fun _ _ _ z => by cases z⟩
  · cases h
theorem sDin {neg : Bool} {x y : CE} (S : Snd cal ck) (G : Good X Γ C W cal (spB X.K C)) (h : kDin ck Γ neg x y e = true) : DE X C W e (ev cal (.din neg x y)) ∧ DT X C W e (bnd (ev cal (.din neg x y)) truM) ∧ ∀ op es p, e ≠ .BoolOp op es p := by
  unfold kDin at h
  split at h
  · simp only [Bool.and_eq_true, decide_eq_true_eq] at h
    obtain ⟨⟨⟨rfl, h1⟩, h2⟩, h3⟩ := h
    exact ⟨de_din (units1 G).1 h1 (S.E G h2) (S.E G h3), dt_din (units1 G).1 h1 (S.E G h2) (S.E G h3), fun _ _ _ z => by cases z⟩
  · cases h
theorem sAnd {x y : CE} (S : Snd cal ck) (G : Good X Γ C W cal (spB X.K C)) (h : kAnd ck Γ false x y e = true) : DE X C W e (ev cal (.and2 x y)) := by
  unfold kAnd at h
  split at h
  · rw [Bool.and_eq_true] at h
    exact de_and (S.E G h.1) (S.E G h.2)
  · cases h
theorem sOr {x y : CE} (S : Snd cal ck) (G : Good X Γ C W cal (spB X.K C)) (h : kOr ck Γ false x y e = true) : DE X C W e (ev cal (.or2 x y)) := by
  unfold kOr at h
  split at h
  · rw [Bool.and_eq_true] at h
    exact de_or (S.E G h.1) (S.E G h.2)
  · cases h
theorem sNot {x : CE} (S : Snd cal ck) (G : Good X Γ C W cal (spB X.K C)) (h : kNot ck Γ false x e = true) : DE X C W e (ev cal (.not1 x)) := by
  unfold kNot at h
  split at h
  · exact de_not (S.E G h)
  · cases h
theorem tAndT {x y : CE} (S : Snd cal ck) (G : Good X Γ C W cal (spB X.K C)) (h : kAnd ck Γ true x y e = true) : PW X e (tM X.K C RB W (bnd (ev cal (.and2 x y)) truM)) := by
  unfold kAnd at h
  split at h
  · rw [Bool.and_eq_true] at h
    exact (pw_and (S.T G h.1) (S.P G h.2)).imp fun σ H Q q => tt_and q
  · cases h
theorem tOrT {x y : CE} (S : Snd cal ck) (G : Good X Γ C W cal (spB X.K C)) (h : kOr ck Γ true x y e = true) : PW X e (tM X.K C RB W (bnd (ev cal (.or2 x y)) truM)) := by
  unfold kOr at h
  split at h
  · rw [Bool.and_eq_true] at h
    exact (pw_or (S.T G h.1) (S.P G h.2)).imp fun σ H Q q => tt_or q
  · cases h
theorem tNotT {x : CE} (S : Snd cal ck) (G : Good X Γ C W cal (spB X.K C)) (h : kNot ck Γ true x e = true) : DT X C W e (bnd (ev cal (.not1 x)) truM) ∧ ∀ op es p, e ≠ .BoolOp op es p := by
  unfold kNot at h
  split at h
  · exact ⟨(pt_not (S.T G h)).imp fun σ H Q q => tt_not q, fun _ _ _ z => by cases z⟩
  · cases h
theorem sIte {x y z : CE} (S : Snd cal ck) (G : Good X Γ C W cal (spB X.K C)) (h : kIte ck Γ x y z e = true) : DE X C W e (ev cal (.ite x y z)) := by
  unfold kIte at h
  split at h
  · simp only [Bool.and_eq_true] at h
    exact de_ite (S.T G h.1.1) (S.E G h.1.2) (S.E G h.2)
  · cases h
theorem sTup {cs : List CE} (S : Snd cal ck) (G : Good X Γ C W cal (spB X.K C)) (h : kTup ck Γ cs e = true) : DE X C W e (ev cal (.tup cs)) := by
  unfold kTup at h
  split at h
  · exact de_tup (sL S G h).1
  · cases h
theorem sLst {f : Nat} {cs : List CE} (S : Snd cal ck) (G : Good X Γ C W cal (spB X.K C)) (h : kLst ck Γ cs e = true) : DE X C W e (ev cal (.lst f cs)) := by
  unfold kLst at h
  split at h
  · exact de_lst (sL S G h).1
  · cases h
theorem sKey {d : D} (G : Good X Γ C W cal (spB X.K C)) (hd : keyD d = true) (h : kLit Γ d e = true) : PE X e (tC (kV (keyOf d))) := by
  unfold kLit at h
  split at h
  · simp only [Bool.and_eq_true] at h
    obtain ⟨⟨h1, h2⟩, h3⟩ := h
    split at h3
    · rename_i d' hq
      obtain rfl := same_eq h3
      obtain ⟨u, v, k1, k2, k3⟩ := G.con _ _ hq
      have ev : v = kV (keyOf d') := by
        have q := k3 (fun _ => none)
        cases d' with
        | int i => cases q; rfl
        | str s => cases q; rfl
        | _ => cases hd
      rw [← ev]
      exact pe_glob (G.glo h1) k1 k2 (nm_ok h2).1
    · cases h3
  · obtain rfl := same_eq h; exact pe_int
  · obtain rfl := same_eq h; cases hd
  · obtain rfl := same_eq h; cases hd
  · rename_i s _ _
    obtain rfl := same_eq h
    show PE X _ (tC (.str ⟨s.cps.toList.toArray⟩))
    rw [str_eta]
    exact pe_str
  · cases h
theorem sKeys (S : Snd cal ck) (G : Good X Γ C W cal (spB X.K C)) {pos : Pos} : ∀ {keys : List (Option Expr)} {ks : List D} {vs : List Expr} {cs : List CE}, kKeys Γ keys ks = true → ckL ck Γ vs cs = true → keys.length = vs.length →
    PPs X pos keys vs ((((ks.map keyOf).map kV).zip (cs.map (ev cal))).map fun x => (tC x.1, tM X.K C (RepS X.K) W x.2)) ∧ keys.all (·.isSome) = true ∧ ks.length = keys.length ∧ cs.length = vs.length
  | [], [], [], [], _, _, _ => ⟨pps_nil, rfl, rfl, rfl⟩
  | [], [], [], _ :: _, _, h, _ => by cases h
  | [], _ :: _, _, _, h, _, _ => by cases h
  | some _ :: _, [], _, _, h, _, _ => by cases h
  | none :: _, _, _, _, h, _, _ => by cases h
  | [], [], _ :: _, _, _, _, h => by cases h
  | some _ :: _, _ :: _, [], _, _, _, h => by cases h
  | some _ :: _, _ :: _, _ :: _, [], _, h, _ => by cases h
  | some e :: keys, d :: ks, v :: vs, c :: cs, h1, h2, h3 => by
    unfold kKeys at h1
    unfold ckL at h2
    simp only [Bool.and_eq_true] at h1 h2
    obtain ⟨i1, i2, i3, i4⟩ := sKeys S G (pos := pos) h1.2 h2.2 (by simpa using h3)
    exact ⟨pps_cons (sKey G h1.1.1 h1.1.2) (S.E G h2.1.2) i1, by rw [List.all_cons, i2]; rfl, by simp [i3], by simp [i4]⟩
theorem sDct {f : Nat} {ks : List D} {cs : List CE} (S : Snd cal ck) (G : Good X Γ C W cal (spB X.K C)) (h : kDct ck Γ ks cs e = true) : DE X C W e (ev cal (.dct f ks cs)) := by
  unfold kDct at h
  split at h
  · rename_i keys vs pos
    simp only [Bool.and_eq_true, decide_eq_true_eq] at h
    obtain ⟨⟨⟨h1, h2⟩, h3⟩, h4⟩ := h
    cases keys with
    | nil =>
      cases ks with
      | cons _ _ => cases h1
      | nil =>
        cases vs with
        | cons _ _ => cases h3
        | nil =>
          cases cs with
          | cons _ _ => cases h2
          | nil => exact de_dnew
    | cons k keys =>
      obtain ⟨i1, i2, i3, i4⟩ := sKeys S G (pos := pos) h1 h2 h3
      have := de_disp (f := f) (ks := ks) (ms := cs.map (ev cal)) i1 i2 h3 (by simp) h4 (by rw [List.length_map, i3, i4, h3])
      rw [← evL_eq] at this
      exact this
  · cases h
theorem sIdx {x y : CE} (S : Snd cal ck) (G : Good X Γ C W cal (spB X.K C)) (h : kIdx ck Γ x y e = true) : DE X C W e (ev cal (.idx x y)) ∧ DE X C W e (ev cal (.dget x y)) := by
  unfold kIdx at h
  split at h
  · simp only [Bool.and_eq_true] at h
    exact ⟨de_idx h.1.1 (S.E G h.1.2) (S.E G h.2), de_dget (units1 G).1 h.1.1 (S.E G h.1.2) (S.E G h.2)⟩
  · cases h
theorem sDgt2 {x y z : CE} (S : Snd cal ck) (G : Good X Γ C W cal (spB X.K C)) (h : kDgt2 ck Γ x y z e = true) : DE X C W e (ev cal (.dgt2 x y z)) := by
  unfold kDgt2 at h
  split at h
  · simp only [Bool.and_eq_true, decide_eq_true_eq] at h
    obtain ⟨⟨⟨⟨⟨⟨⟨rfl, h1⟩, h2⟩, h3⟩, h4⟩, h5⟩, h6⟩, h7⟩ := h
    exact de_dgt2 (units1 G).1 h1 h2 h3 h4 (S.E G h5) (S.E G h6) (S.E G h7)
  · cases h
theorem sSlc {f : Nat} {x : CE} {lo hi : Option CE} (S : Snd cal ck) (G : Good X Γ C W cal (spB X.K C)) (h : kSlc ck Γ x lo hi e = true) : DE X C W e (ev cal (.slc f x lo hi)) := by
  unfold kSlc at h
  split at h
  · simp only [Bool.and_eq_true] at h
    exact de_slc (S.E G h.1.1) (sO S G h.1.2) (sO S G h.2)
  · cases h
theorem sInRng {x y : CE} (S : Snd cal ck) (G : Good X Γ C W cal (spB X.K C)) (h : kInRng ck Γ x y e = true) : DE X C W e (ev cal (.inRng x y)) := by
  unfold kInRng at h
  split at h
  · simp only [Bool.and_eq_true, decide_eq_true_eq] at h
    obtain ⟨⟨⟨⟨rfl, h1⟩, h2⟩, h3⟩, h4⟩ := h
    exact de_inRng (G.glo h1) (G.blt _ (by decide +kernel)) h2 (S.E G h3) (S.E G h4)
  · cases h
theorem sRev {f : Nat} {x : CE} (S : Snd cal ck) (G : Good X Γ C W cal (spB X.K C)) (h : kRev ck Γ x e = true) : DE X C W e (ev cal (.rev f x)) := by
  unfold kRev at h
  split at h
  · exact de_rev (S.E G h)
  · cases h
theorem sLrng {f : Nat} {x : CE} (S : Snd cal ck) (G : Good X Γ C W cal (spB X.K C)) (h : kLrng ck Γ x e = true) : DE X C W e (ev cal (.lrng f x)) := by
  unfold kLrng at h
  split at h
  · simp only [Bool.and_eq_true, decide_eq_true_eq] at h
    obtain ⟨⟨⟨⟨⟨rfl, rfl⟩, h1⟩, h2⟩, h3⟩, h4⟩ := h
    exact de_lrng G.calm (G.glo h1) (G.blt _ (by decide +kernel)) (G.glo h2) (G.blt _ (by decide +kernel)) h3 (S.E G h4)
  · cases h
theorem sLrng2 {f : Nat} {x y : CE} (S : Snd cal ck) (G : Good X Γ C W cal (spB X.K C)) (h : kLrng2 ck Γ x y e = true) : DE X C W e (ev cal (.lrng2 f x y)) := by
  unfold kLrng2 at h
  split at h
  · simp only [Bool.and_eq_true, decide_eq_true_eq] at h
    obtain ⟨⟨⟨⟨⟨⟨⟨rfl, rfl⟩, h1⟩, h2⟩, h3⟩, h4⟩, h5⟩, h6⟩ := h
    exact de_lrng2 G.calm (G.glo h1) (G.blt _ (by decide +kernel)) (G.glo h2) (G.blt _ (by decide +kernel)) h3 h4 (S.E G h5) (S.E G h6)
  · cases h
theorem sCall {f : Nat} {cs : List CE} (S : Snd cal ck) (G : Good X Γ C W cal (spB X.K C)) (h : kCall ck Γ f cs e = true) : DE X C W e (ev cal (.call f cs)) := by
  unfold kCall at h
  split at h
  · simp only [Bool.and_eq_true, decide_eq_true_eq] at h
    obtain ⟨⟨⟨h1, h2⟩, h3⟩, h4⟩ := h
    obtain ⟨a, fd, k, ps, k1, k2, k3, k4, k5⟩ := G.fun_ _ _ h1
    obtain ⟨i1, i2⟩ := sL S G h4
    rw [List.all_cons, Bool.and_eq_true] at i2
    exact de_call k4 k5 (G.glo h2) k1 k2 k3 G.tk (nm_ok h3).1 i2.1 i2.2 i1
  · simp only [Bool.and_eq_true, decide_eq_true_eq, List.isEmpty_iff] at h
    obtain ⟨⟨⟨h1, h2⟩, h3⟩, rfl⟩ := h
    obtain ⟨a, fd, k, ps, k1, k2, k3, k4, k5⟩ := G.fun_ _ _ h1
    exact de_call0 k4 k5 (G.glo h2) k1 k2 k3 G.tk (nm_ok h3).1
  · cases h
theorem bi_none (G : Good X Γ C W cal (spB X.K C)) (b : Bi) : X.mg (biNm b) = none := G.blt _ (bi_name b)
theorem ty_mem : ∀ T : Nat, T < 6 → PySem.Str.ofString (tyN T) ∈ bNames := by decide +kernel
theorem isi_eq {T f : Nat} {c : CE} : ev cal (.bi (.isi T) f [c]) = bnd (ev cal c) fun s => bnd (rdOf s) fun d => ret (.val (.bl (isiD T d))) := by
  show bnd (bnd (ev cal c) fun s => bnd (ret []) fun l => ret (s :: l)) (fun ss => bnd (rdOfs ss) fun ds => biD f (.isi T) ds) = _
  simp only [bnd_assoc, bnd_ret]
  congr 1
  funext s
  show bnd (bnd (rdOf s) fun d => bnd (ret []) fun l => ret (d :: l)) (fun ds => biD f (.isi T) ds) = _
  simp only [bnd_assoc, bnd_ret]
  rfl
theorem sBi {b : Bi} {f : Nat} {cs : List CE} (S : Snd cal ck) (G : Good X Γ C W cal (spB X.K C)) (h : kBi ck Γ b cs e = true) : DE X C W e (ev cal (.bi b f cs)) := by
  unfold kBi at h
  split at h
  · simp only [Bool.and_eq_true, decide_eq_true_eq] at h
    obtain ⟨⟨rfl, h2⟩, h3⟩ := h
    split at h3
    · split at h3
      · simp only [Bool.and_eq_true, decide_eq_true_eq] at h3
        obtain ⟨⟨⟨⟨k1, rfl⟩, k3⟩, k4⟩, k5⟩ := h3
        rw [isi_eq]
        exact de_isi (f := f) k1 rfl (G.glo h2) (bi_none G (.isi 0)) (G.glo k3) (G.blt _ (ty_mem _ k1)) k4 (S.E G k5)
      · cases h3
    · rename_i hb
      obtain ⟨i1, i2⟩ := sL S G h3
      rw [List.all_cons, Bool.and_eq_true] at i2
      exact de_bi G.calm (units1 G).2 (by cases b <;> first | rfl | exact absurd rfl (hb _)) rfl (G.glo h2) (bi_none G b) i2.1 i2.2 i1
  · cases h
theorem sMt {m : Mt} {f : Nat} {x : CE} {cs : List CE} (S : Snd cal ck) (G : Good X Γ C W cal (spB X.K C)) (h : kMt ck Γ m x cs e = true) : DE X C W e (ev cal (.mt m f x cs)) := by
  unfold kMt at h
  split at h
  · rename_i o n apos es pos
    simp only [Bool.and_eq_true, decide_eq_true_eq] at h
    obtain ⟨⟨⟨⟨⟨rfl, h1⟩, h2⟩, h3⟩, h4⟩, h5⟩ := h
    obtain ⟨i1, i2⟩ := sL S G h5
    match es, cs, h5, i1, i2, h4 with
    | [], [], _, i1, i2, _ => exact de_mt0 rfl h1 h2 (S.E G h3)
    | [], _ :: _, h5, _, _, _ => cases h5
    | [a], cs, h5, i1, i2, _ =>
      rw [List.all_cons, Bool.and_eq_true] at i2
      exact de_mt rfl h1 h2 (S.E G h3) i2.1 i1
    | _ :: _ :: _, _, _, _, _, h4 => simp at h4
  · cases h
theorem sI {tg : Expr} (S : Snd cal ck) (G : Good X Γ C W cal (spB X.K C)) : ∀ {ci : CI}, ckI ck Γ tg ci e = true → DI X C W tg e (evI cal ci) := by
  intro ci h
  unfold ckI at h
  split at h
  · exact di_seq (S.E G h)
  · exact di_chr (S.E G h)
  · simp only [Bool.and_eq_true, decide_eq_true_eq] at h
    obtain ⟨⟨⟨rfl, h1⟩, h2⟩, h3⟩ := h
    exact di_rng1 (G.glo h1) (G.blt _ (by decide +kernel)) h2 (S.E G h3)
  · simp only [Bool.and_eq_true, decide_eq_true_eq] at h
    obtain ⟨⟨⟨⟨⟨rfl, h1⟩, h2⟩, h3⟩, h4⟩, h5⟩ := h
    exact di_rng2 (G.glo h1) (G.blt _ (by decide +kernel)) h2 h3 (S.E G h4) (S.E G h5)
  · simp only [Bool.and_eq_true, decide_eq_true_eq] at h
    obtain ⟨⟨⟨⟨⟨⟨rfl, h1⟩, rfl⟩, h2⟩, h3⟩, h4⟩, h5⟩ := h
    exact di_rng3 (G.glo h1) (G.blt _ (by decide +kernel)) h2 h3 rfl (S.E G h4) (S.E G h5) ((pe_un un_neg pe_int).imp fun σ H Q q => ⟨_, rfl, q⟩)
  · simp only [Bool.and_eq_true, decide_eq_true_eq] at h
    obtain ⟨⟨⟨⟨rfl, h0⟩, h1⟩, h2⟩, h3⟩ := h
    cases tg <;> first | (cases h0; done) | skip
    exact di_enm (G.glo h1) (G.blt _ (by decide +kernel)) h2 (S.E G h3)
  · simp only [Bool.and_eq_true, decide_eq_true_eq] at h
    obtain ⟨⟨⟨⟨⟨⟨rfl, h0⟩, h1⟩, h2⟩, h3⟩, h4⟩, h5⟩ := h
    cases tg <;> first | (cases h0; done) | skip
    exact di_zip (G.glo h1) (G.blt _ (by decide +kernel)) h2 h3 (S.E G h4) (S.E G h5)
  · cases h
mutual
theorem sG (G : Good X Γ C W cal (spB X.K C)) : ∀ {t : Tg} {e : Expr}, ckG Γ t e = true → PG X e (tG X.K t)
  | .v i, e, h => by
    unfold ckG at h
    split at h
    · simp only [Bool.and_eq_true, decide_eq_true_eq] at h
      obtain ⟨k1, k2⟩ := G.loc h.2
      rename_i i' x p he
      cases he
      exact dg_name G.nd (by rw [G.hN]; exact h.1) k1 k2
    · rename_i he; cases he
    · cases h
  | .t l, e, h => by
    unfold ckG at h
    split at h
    · rename_i he; cases he
    · simp only [Bool.and_eq_true, decide_eq_true_eq] at h
      rename_i he; cases he
      exact dg_tup G.calm h.1.1 (sGs G h.2 h.1.1) h.1.2
    · cases h
theorem sGs (G : Good X Γ C W cal (spB X.K C)) : ∀ {l : List Tg} {es : List Expr}, ckGs Γ l es = true → es.all nst = true → PGs X es (tGs X.K l)
  | [], [], _, _ => dgs_nil
  | [], _ :: _, h, _ => by cases h
  | _ :: _, [], h, _ => by cases h
  | t :: l, e :: es, h, hn => by
    unfold ckGs at h
    rw [Bool.and_eq_true] at h
    rw [List.all_cons, Bool.and_eq_true] at hn
    exact dgs_cons hn.1 (sG G h.1) (sGs G h.2 hn.2)
end
theorem lookup_map {env : Env} {x : Str} : ∀ {names : List (Str × NameKind)}, (names.map fun (n, k) => if (k == NameKind.free && env.scope.kind == .function && env.kindOf n == some .cell) then (n, NameKind.cell) else (n, k)).lookup x = names.lookup x ∨
    (names.lookup x = some .free ∧ (names.map fun (n, k) => if (k == NameKind.free && env.scope.kind == .function && env.kindOf n == some .cell) then (n, NameKind.cell) else (n, k)).lookup x = some .cell)
  | [] => .inl rfl
  | (n, k) :: r => by
    have ih := @lookup_map env x r
    by_cases hc : (k == NameKind.free && env.scope.kind == .function && env.kindOf n == some .cell) = true
    · rw [List.map_cons]
      simp only [hc, if_true]
      cases hx : x == n with
      | true =>
        have hk : k = .free := by
          simp only [Bool.and_eq_true] at hc
          exact eq_of_beq hc.1.1
        refine .inr ⟨?_, ?_⟩
        · simp only [List.lookup_cons, hx]; rw [hk]
        · simp only [List.lookup_cons, hx]
      | false => simp only [List.lookup_cons, hx]; exact ih
    · rw [List.map_cons]
      simp only [if_neg hc]
      cases hx : x == n with
      | true => exact .inl (by simp only [List.lookup_cons, hx])
      | false => simp only [List.lookup_cons, hx]; exact ih
theorem Good.blk (G : Good X Γ C W cal (spB X.K C)) (s : Shared) (H : Hp) (scope : Scope) (cl : List (Str × Addr)) (A : Addr) (fp : List Addr) : Good (X.blk s H scope (compEnvC scope cl A X.env) fp) { Γ with sc := scope, l0 := none } C Wf cal (spB X.K C) where
  hN := G.hN
  nd := G.nd
  calm := G.calm
  kin := fun x => lookup_map
  fnl := fun x h => by
    rcases h with h | h
    · exact .inr (lookup_relabel_local h)
    · refine .inl ?_
      show (scope.names.lookup x == some .cell) = true
      rw [show scope.names.lookup x = some .cell from h]; rfl
  con := G.con
  blt := G.blt
  fun_ := G.fun_
  units := G.units
  gd := G.gd
  tk := takes0
  lam := fun _ z => by cases z
  xc := G.xc
theorem nset_fold {i : Expr} {env : Env} (h : nset i = true) : ∀ x, foldedSetIterable i env x = pure x := by
  intro x
  cases i <;> first | (cases h; done) | rfl
structure CompC (ck : Ck) (Γ : Gam) (vs : List Nat) (tg : Tg) (it : CI) (cond : Option CE) (elt : CE) (e t i : Expr) (ifs : List Expr) (scope : Scope) : Prop where
  ns : nset i = true
  own : (ownOf Γ vs).map (·.2) = vs
  blk : blkC Γ.N Γ.sc scope (ownOf Γ vs) = true
  sub : ∀ j ∈ tvs tg, j ∈ vs
  it_ : ckI ck Γ t it i = true
  tg_ : ckG { Γ with sc := scope, l0 := none } tg t = true
  cond_ : ckC ck { Γ with sc := scope, l0 := none } cond ifs = true
  elt_ : ck false { Γ with sc := scope, l0 := none } e elt = true
theorem kComp_of {vs : List Nat} {tg : Tg} {it : CI} {cond : Option CE} {elt : CE} (h : kComp ck Γ vs tg it cond elt e = true) : ∃ e0 t i ifs scope pos, e = .ListComp e0 [⟨t, i, ifs, 0⟩] scope pos ∧ CompC ck Γ vs tg it cond elt e0 t i ifs scope := by
  unfold kComp at h
  split at h
  · simp only [Bool.and_eq_true, decide_eq_true_eq, List.all_eq_true] at h
    obtain ⟨⟨⟨⟨⟨⟨⟨⟨rfl, h1⟩, h2⟩, h3⟩, h4⟩, h5⟩, h6⟩, h7⟩, h8⟩ := h
    exact ⟨_, _, _, _, _, _, rfl, ⟨h1, h2, h3, h4, h5, h6, h7, h8⟩⟩
  · cases h
theorem blk_ok {vs : List Nat} {scope : Scope} (G : Good X Γ C W cal (spB X.K C)) (h : blkC Γ.N Γ.sc scope (ownOf Γ vs) = true) : BlkOk X.N X.env.scope scope (ownOf Γ vs) := by
  have b := blkOk_by h
  refine ⟨b.kind, b.uniq, by rw [G.hN]; exact b.ix, fun y hy e => ?_, by rw [G.hN]; exact b.own⟩
  rcases b.free y hy e with q | q
  · rcases G.kin y.1 with k | ⟨k1, k2⟩
    · exact .inl (k.trans q)
    · rw [k1] at q; cases q
  · rcases G.kin y.1 with k | ⟨k1, k2⟩
    · exact .inr (k.trans q)
    · exact .inl k2
theorem sC (S : Snd cal ck) (G : Good X Γ C W cal (spB X.K C)) : ∀ {cond : Option CE} {ifs : List Expr}, ckC ck Γ cond ifs = true → PTs X ifs (tM X.K C RB W (evC cal cond))
  | none, [], _ => by
    refine ⟨fun pins s σ H Q I q => pts_nil.run pins s σ H Q I ?_⟩
    obtain ⟨e, g, re, p⟩ := q
    exact p true g H re (Stp.refl _ _) rfl
  | none, _ :: _, h => by cases h
  | some c, [], h => by cases h
  | some c, [e], h => pts_one (S.T G h)
  | some c, _ :: _ :: _, h => by cases h
theorem sComp {f : Nat} {vs : List Nat} {tg : Tg} {it : CI} {cond : Option CE} {elt : CE} (S : Snd cal ck) (G : Good X Γ C W cal (spB X.K C)) (h : kComp ck Γ vs tg it cond elt e = true) : DE X C W e (ev cal (.comp f vs tg it cond elt)) := by
  obtain ⟨e0, t, i, ifs, scope, pos, rfl, c⟩ := kComp_of h
  refine (pe_lc (g := tG X.K tg) (tt := tM X.K C RB Wf (evC cal cond)) (te := tM X.K C (RepS X.K) Wf (ev cal elt)) G.calm G.nd (sI S G c.it_) (blk_ok G c.blk) (fun s H A cl fp => sG (G.blk s H scope cl A fp) c.tg_) (fun s H A cl fp => sC S (G.blk s H scope cl A fp) c.cond_)
    (fun s H A cl fp => S.E (G.blk s H scope cl A fp) c.elt_) (nset_fold c.ns)).imp fun σ H Q q => ?_
  rw [c.own]
  exact lc_imp c.sub q
theorem ckI_seq {tg i : Expr} {a : CE} (h : ckI ck Γ tg (.seq a) i = true) : ck false Γ i a = true := by
  unfold ckI at h
  exact h
theorem sCompC {f : Nat} {vs : List Nat} {tg : Tg} {a : CE} {cond : Option CE} {elt : CE} (S : Snd cal ck) (G : Good X Γ C W cal (spB X.K C)) (h : kComp ck Γ vs tg (.seq a) cond elt e = true) : DE X C W e (ev cal (.compC f vs tg a cond elt)) := by
  obtain ⟨e0, t, i, ifs, scope, pos, rfl, c⟩ := kComp_of h
  refine (pe_lc (g := tG X.K tg) (tt := tM X.K C RB Wf (evC cal cond)) (te := tM X.K C (RepS X.K) Wf (ev cal elt)) G.calm G.nd (di_liv (S.E G (ckI_seq c.it_))) (blk_ok G c.blk) (fun s H A cl fp => sG (G.blk s H scope cl A fp) c.tg_) (fun s H A cl fp => sC S (G.blk s H scope cl A fp) c.cond_)
    (fun s H A cl fp => S.E (G.blk s H scope cl A fp) c.elt_) (nset_fold c.ns)).imp fun σ H Q q => ?_
  rw [c.own]
  exact lc_impC c.sub q
theorem lam_room {k : Nat} {A : Around} (r : RoomG (k + 1) A) (env : Env) : RoomG k (A.in1.in1.deeper env) :=
  ⟨⟨r.room.hd, by have := r.room.dp; show A.depth + 1 + 3 * k + 5 < _; omega, by have := r.room.un; show A.units + 1 + 1 + 3 + 16 * k + 200 < _; omega⟩, r.gd⟩
theorem Good.lamb {fn0 : List (Nat × Str)} {scope : Scope} {i : Nat} {x : Str} (G : Good X Γ C W cal (spB X.K C)) (L0 : Lam0 X fn0 cal (spB X.K C false)) (L : LamP X.N X.env.scope scope i x) (s s' : Shared) (H : Hp) (f c' : Addr) :
    @Good xb ⟨[]⟩ (LamX.lamCx X X.A.in1.in1 X.stack s' (fzH H s.heap) (fun _ _ _ => False) scope f c') ⟨Γ.N, scope, Γ.glb, fn0, none, []⟩ C Wf cal (@spB xb ⟨[]⟩ X.K C) :=
  @Good.mk xb ⟨[]⟩ _ _ _ _ _ _ G.hN G.nd rfl (fun x => .inl rfl) (fun x h => h.elim .inr fun h => absurd rfl (L.own _ (PySem.mem_of_lookup h)).1) G.con G.blt
    (fun f x h => by
      obtain ⟨a, fd, k, ps, e1, e2, e3, e4, e5⟩ := L0.fun_ f x h
      exact ⟨a, fd, k, ps, e1, e2, e3, e4, lam_room e5 _⟩)
    (by
      have := L0.room.un
      show X.A.units + 1 + 1 + 3 + 65 < cLine
      omega)
    G.gd takes0 (fun _ z => by cases z) (fun _ z => nomatch z)
theorem bind_one {y : Str} {ap : Pos} {lb : Expr} {scope : Scope} (q : Str) (cl : List (Str × Addr)) (pm cv ctv w : Value) : bindArgs (PySem.W.kla_fn "<lambda>" q ⟨[], [⟨y, none, ap⟩], none, [], [], none, []⟩ lb scope cl pm cv ctv) ⟨[w], []⟩ = pure [(y, w)] := by
  have el : List.lookup y [(y, w)] = some w := by simp [List.lookup_cons]
  have e0 : seqItems? Value.none = pure none := rfl
  simp [bindArgs, e0]
theorem sSrtK {rg : Bool} {fl i : Nat} {x body : CE} (S : Snd cal ck) (G : Good X Γ C W cal (spB X.K C)) (h : kSrtK ck Γ rg i x body e = true) : DE X C W e (ev cal (.srtK rg fl i x body)) := by
  unfold kSrtK at h
  split at h
  · rename_i n p1 a kw y ap lb scope lpos kp pos
    simp only [Bool.and_eq_true, decide_eq_true_eq] at h
    obtain ⟨⟨⟨⟨⟨rfl, rfl⟩, h3⟩, h4⟩, h5⟩, h6⟩ := h
    cases hl : Γ.l0 with
    | none => rw [hl] at h5; cases h5
    | some fn0 =>
      rw [hl] at h5
      have L0 := G.lam fn0 hl
      obtain ⟨c, P, hc, TB, hmT, hu⟩ := L0.code
      have l := lamP_by h4
      have L : LamP X.N X.env.scope scope i y := ⟨l.kind, l.co, l.gen, l.own, l.par, by rw [G.hN]; exact l.ix, fun y hy e => by
        rcases l.free y hy e with q | q
        · rcases G.kin y.1 with k | ⟨k1, k2⟩
          · exact .inl (k.trans q)
          · rw [k1] at q; cases q
        · rcases G.kin y.1 with k | ⟨k1, k2⟩
          · exact .inr (k.trans q)
          · exact .inl k2⟩
      have hun : X.A.units + 66 < cLine := by
        have := L0.room.un
        omega
      have hm : X.mg "sorted" = none := G.blt _ (by decide +kernel)
      have hm2 : X.mg "range" = none := G.blt _ (by decide +kernel)
      have hb : ∀ (s s' : Shared) (H : Hp) (f c' : Addr), PE (LamX.lamCx X X.A.in1.in1 X.stack s' (fzH H s.heap) (fun _ _ _ => False) scope f c') lb (@tM xb ⟨[]⟩ _ _ X.K C (RepS X.K) Wf (ev cal body)) := fun s s' H f c' =>
        @Snd.E xb ⟨[]⟩ cal ck _ _ C Wf lb body S (G.lamb L0 L s s' H f c') h5
      cases rg with
      | false =>
        rw [Bool.and_eq_true] at h6
        exact de_srtL G.calm (G.glo h3) hm h6.1 (S.E G h6.2) L G.nd hc TB hmT hu rfl L0.room hun bind_one hb
      | true =>
        simp only at h6
        split at h6
        · simp only [Bool.and_eq_true, decide_eq_true_eq] at h6
          obtain ⟨⟨⟨rfl, g2⟩, g3⟩, g4⟩ := h6
          exact de_srtR G.calm (G.glo h3) hm (G.glo g2) hm2 g3 (S.E G g4) L G.nd hc TB hmT hu rfl L0.room hun bind_one hb
        · cases h6
  · cases h
theorem sIsx {xs : List Nat} {n : Nat} {x : CE} (S : Snd cal ck) (G : Good X Γ C W cal (spB X.K C)) (h : kIsx ck Γ xs n x e = true) : DE X C W e (ev cal (.isx xs n x)) := by
  unfold kIsx at h
  split at h
  · simp only [Bool.and_eq_true, Bool.or_eq_true, decide_eq_true_eq] at h
    obtain ⟨⟨⟨⟨⟨⟨rfl, h1⟩, h2⟩, h3⟩, rfl⟩, h4⟩, h5⟩ := h
    rcases h5 with ⟨rfl, rfl⟩ | ⟨⟨h5, rfl⟩, h6⟩
    · exact de_isxV G.xc (G.glo h1) (bi_none G (.isi 0)) (G.glo h2) (G.blt _ (by decide +kernel)) h3 (S.E G h4)
    · exact de_isx G.xc h5 h6 (G.glo h1) (bi_none G (.isi 0)) (G.glo h2) h3 (S.E G h4)
  · cases h
theorem sIsxT {xs cs : List Nat} {x : CE} (S : Snd cal ck) (G : Good X Γ C W cal (spB X.K C)) (h : kIsxT ck Γ xs cs x e = true) : DE X C W e (ev cal (.isxT xs cs x)) := by
  unfold kIsxT at h
  split at h
  · simp only [Bool.and_eq_true, decide_eq_true_eq] at h
    obtain ⟨⟨⟨⟨⟨⟨rfl, h1⟩, h2⟩, rfl⟩, h4⟩, h5⟩, h6⟩ := h
    exact de_isxT (fun y hy => G.glo hy) G.xc h5 h6 (G.glo h1) (bi_none G (.isi 0)) h2 (S.E G h4)
  · cases h
theorem oneB_of {a : Expr} (h : oneB e = some a) : ∃ op p, e = .BoolOp op [a] p := by
  unfold oneB at h
  split at h
  · cases h; exact ⟨_, _, rfl⟩
  · cases h
theorem notBool {e : Expr} {P : Prop} (h : ∀ op es p, e ≠ .BoolOp op es p) : ∀ op es p, e = .BoolOp op es p → P := fun op es p z => (h op es p z).elim
theorem sBodyE (S : Snd cal ck) (G : Good X Γ C W cal (spB X.K C)) (h : bodyE ck Γ c e = true) : DE X C W e (ev cal c) := by
  cases c
  case var => exact sVar G h
  case lit => exact sLit G h
  case bin => exact sBin S G h
  case neg => exact sNeg S G h
  case cmp => exact (sCmp S G h).1
  case chain => exact (sChain S G h).1
  case and2 => exact sAnd S G h
  case or2 => exact sOr S G h
  case not1 => exact sNot S G h
  case ite => exact sIte S G h
  case tup => exact sTup S G h
  case lst => exact sLst S G h
  case dct => exact sDct S G h
  case din => exact (sDin S G h).1
  case isx => exact sIsx S G h
  case isxT => exact sIsxT S G h
  case xrow => cases h
  case dget => exact (sIdx S G h).2
  case dgt2 => exact sDgt2 S G h
  case idx => exact (sIdx S G h).1
  case slc => exact sSlc S G h
  case inRng => exact sInRng S G h
  case rev => exact sRev S G h
  case lrng => exact sLrng S G h
  case lrng2 => exact sLrng2 S G h
  case addR => exact sAddR S G h
  case call => exact sCall S G h
  case frz => exact de_frz (S.E G h)
  case bi => exact sBi S G h
  case mt => exact sMt S G h
  case comp => exact sComp S G h
  case srtK => exact sSrtK S G h
  case compC => exact sCompC S G h
theorem plainNB (h : plainT e = true) : ∀ op es p, e ≠ .BoolOp op es p := fun _ _ _ z => by subst z; cases h
theorem sBodyT (S : Snd cal ck) (G : Good X Γ C W cal (spB X.K C)) (h : bodyT ck Γ c e = true) : DT X C W e (bnd (ev cal c) truM) ∧ ∀ op es p, e = .BoolOp op es p → PW X e (tM X.K C RB W (bnd (ev cal c) truM)) := by
  have rest : ∀ {c}, (plainT e && ck false Γ e c) = true → DT X C W e (bnd (ev cal c) truM) ∧ ∀ op es p, e = .BoolOp op es p → PW X e (tM X.K C RB W (bnd (ev cal c) truM)) := fun {c} h => by
    rw [Bool.and_eq_true] at h
    exact ⟨dt_val h.1 (S.E G h.2), notBool (plainNB h.1)⟩
  cases c <;> first | exact rest h | skip
  case and2 => exact ⟨(tAndT S G h).pt, fun _ _ _ _ => tAndT S G h⟩
  case or2 => exact ⟨(tOrT S G h).pt, fun _ _ _ _ => tOrT S G h⟩
  case not1 => exact ⟨(tNotT S G h).1, notBool (tNotT S G h).2⟩
  case cmp => exact ⟨(sCmp S G h).2.1, notBool (sCmp S G h).2.2.2⟩
  case chain => exact ⟨(sChain S G h).2.1, notBool (sChain S G h).2.2⟩
  case din => exact ⟨(sDin S G h).2.1, notBool (sDin S G h).2.2⟩
theorem chk_ok : ∀ n : Nat, Snd cal (chkE n)
  | 0 => fun m X Γ C W e c G h => by cases h
  | n + 1 => fun m X Γ C W e c G h => by
    have S : Snd cal (chkE n) := chk_ok n
    unfold chkE at h
    split at h
    · rename_i a ha
      obtain ⟨op, p, rfl⟩ := oneB_of ha
      refine ⟨fun z => ?_, fun z => ?_⟩
      · subst z; exact pe_one (S.E G h)
      · subst z
        have q : PW X (.BoolOp op [a] p) (tM X.K C RB W (bnd (ev cal c) truM)) := by
          cases op with
          | And => exact pw_and1 (S.T G h)
          | Or => exact pw_or1 (S.T G h)
        exact ⟨q.pt, fun _ _ _ _ => q⟩
    · cases m with
      | false => exact ⟨fun _ => sBodyE S G h, fun z => by cases z⟩
      | true => exact ⟨fun z => (by cases z), fun _ => sBodyT S G h⟩
end
end DL
/-! DL, part q: the check of statements, and that it is sound. -/
namespace DL
open PySem L2
variable [xb : Xb] [Tb]
abbrev Cks := Gam → Stmt → CS → Bool
def starB : Expr → Bool
  | .Starred .. => true
  | _ => false
def swNm (env : Env) (ts : List Expr) : List Str := ts.filterMap fun
  | .Name id pos => if env.kindOf id == some .local && pos.line == (ts.head?.map (·.pos.line)).getD 0 then some id else none
  | _ => none
def swNames (sc : Scope) (ts : List Expr) : List Str := ts.filterMap fun
  | .Name id pos => if sc.names.lookup id == some .local && pos.line == (ts.head?.map (·.pos.line)).getD 0 then some id else none
  | _ => none
def swN (sc : Scope) (ts vs : List Expr) : Nat :=
  if (!(ts.length == 2 || ts.length == 3) || vs.length != ts.length) = true then 0
  else if (vs.any starB) = true then 0
  else if ((swNames sc ts).length != ts.length || (swNames sc ts).eraseDups.length != (swNames sc ts).length) = true then 0
  else if (vs.all (foldedForSure 8)) = true then 0
  else if (vs.all (constantsAlone 8)) = true then 2 else 1
def noSw (sc : Scope) (ts : List Expr) : Expr → Bool
  | .Tuple vs _ _ => decide (swN sc ts vs = 0)
  | _ => true
def swOf (sc : Scope) (x : Str) (p : Pos) : Expr → Bool
  | .ListComp _ _ s vp => (sc.names.lookup x == some .local) && p.line == vp.line && !(s.names.any fun (n, k) => n == x && (k == .local || k == .cell))
  | _ => false
def isFz : CS → Bool
  | .frzv _ => true
  | _ => false
def isLc : Expr → Bool
  | .ListComp .. => true
  | _ => false
section
variable (ck : Ck) (cs : Cks) (Γ : Gam)
def ckSs : List CS → List Stmt → Bool
  | [], [] => true
  | [], _ => false
  | c :: l, ss => match isFz c with
    | true => ckSs l ss
    | false => match ss with
      | s :: r => cs Γ s c && ckSs l r
      | [] => false
def kSetv (i : Nat) (c : CE) : Stmt → Bool
  | .Assign [.Name x p] e _ => decide (Γ.N[i]? = some x) && locB Γ x && ck false Γ e c && (nlc e || (isLc e && !swOf Γ.sc x p e))
  | _ => false
def kSetLc (i : Nat) (vs : List Nat) (tg : Tg) (it : CI) (cond : Option CE) (elt : CE) : Stmt → Bool
  | .Assign [.Name x p] e _ => decide (Γ.N[i]? = some x) && decide (Γ.sc.names.lookup x = some .local) && swOf Γ.sc x p e && kComp ck Γ vs tg it cond elt e
  | _ => false
def kSetT (l : List Tg) (c : CE) : Stmt → Bool
  | .Assign [.Tuple ts k p] e _ => ckG Γ (.t l) (.Tuple ts k p) && noSw Γ.sc ts e && ck false Γ e c
  | _ => false
def kPar (i j : Nat) (a b : CE) : Stmt → Bool
  | .Assign [.Tuple [.Name x px, .Name y py] _ _] (.Tuple [ea, eb] _ _) _ => decide (Γ.N[i]? = some x) && decide (Γ.N[j]? = some y) && decide (i ≠ j) && decide (Γ.sc.names.lookup x = some .local) && decide (Γ.sc.names.lookup y = some .local)
      && decide (swN Γ.sc [.Name x px, .Name y py] [ea, eb] = 1) && decide (swNames Γ.sc [.Name x px, .Name y py] = [x, y]) && nst ea && nst eb && ck false Γ ea a && ck false Γ eb b
  | _ => false
def kPar3 (i j l : Nat) (a b c : CE) : Stmt → Bool
  | .Assign [.Tuple [.Name x px, .Name y py, .Name z pz] _ _] (.Tuple [ea, eb, ec] _ _) _ => decide (Γ.N[i]? = some x) && decide (Γ.N[j]? = some y) && decide (Γ.N[l]? = some z) && decide (i ≠ j) && decide (i ≠ l) && decide (j ≠ l)
      && decide (Γ.sc.names.lookup x = some .local) && decide (Γ.sc.names.lookup y = some .local) && decide (Γ.sc.names.lookup z = some .local)
      && decide (swN Γ.sc [.Name x px, .Name y py, .Name z pz] [ea, eb, ec] = 1) && decide (swNames Γ.sc [.Name x px, .Name y py, .Name z pz] = [x, y, z]) && nst ea && nst eb && nst ec && ck false Γ ea a && ck false Γ eb b && ck false Γ ec c
  | _ => false
def kSub (o i e : CE) : Stmt → Bool
  | .Assign [.Subscript eo ei _] ee _ => nslice ei && ck false Γ eo o && ck false Γ ei i && ck false Γ ee e
  | _ => false
def kExpr (c : CE) : Stmt → Bool
  | .Expr e _ => nlc e && ck false Γ e c
  | _ => false
def kAug (i : Nat) (k : BinK) (c : CE) : Stmt → Bool
  | .AugAssign (.Name x _) op e _ => decide (Γ.N[i]? = some x) && locB Γ x && decide (op = opK k) && ck false Γ e c
  | _ => false
def kRtn (c : CE) : Stmt → Bool
  | .Return (some e) _ => ck false Γ e c
  | _ => false
def kRtnN : Stmt → Bool
  | .Return none _ => true
  | _ => false
/-- a statement that is never reached -/
def kNev : Stmt → Bool
  | .Raise .. => true
  | _ => false
def kPas : Stmt → Bool
  | .Pass _ => true
  | .Expr (.Constant (.str _) _ _) _ => true
  | _ => false
def kBrk : Stmt → Bool
  | .Break _ => true
  | _ => false
def kCnt : Stmt → Bool
  | .Continue _ => true
  | _ => false
def kIfS (c : CE) (a b : List CS) : Stmt → Bool
  | .If t p q _ => ck true Γ t c && ckSs cs Γ a p && ckSs cs Γ b q
  | _ => false
def kFor (t : Tg) (it : CI) (b : List CS) : Stmt → Bool
  | .For tg iter p [] _ => nset iter && ckI ck Γ tg it iter && ckG Γ t tg && ckSs cs Γ b p
  | _ => false
def kWhl (c : CE) (b : List CS) : Stmt → Bool
  | .While t p [] _ => ck true Γ t c && ckSs cs Γ b p
  | _ => false
def kSet (i : Nat) : CE → Stmt → Bool
  | .comp f vs tg it cond elt, s => kSetv ck Γ i (.comp f vs tg it cond elt) s || kSetLc ck Γ i vs tg it cond elt s
  | .compC f vs tg a cond elt, s => kSetv ck Γ i (.compC f vs tg a cond elt) s || kSetLc ck Γ i vs tg (.seq a) cond elt s
  | c, s => kSetv ck Γ i c s
def kRse (c : Nat) : Stmt → Bool
  | .Raise (some (.Call (.Name x _) [] [] _)) none _ => decide (c ∈ Γ.xs) && decide (2 ≤ c) && decide (x = xNm c) && glB Γ x
  | .Raise (some (.Call (.Name x _) [.Constant (.str _) _ _] [] _)) none _ => decide (c ∈ Γ.xs) && decide (2 ≤ c) && decide (x = xNm c) && glB Γ x
  | _ => false
def kCst (d : D) : Expr → Bool
  | .Constant (.int i) _ _ => same (.int i) d
  | .Constant (.bool b) _ _ => same (.bl b) d
  | .Constant .none _ _ => same .non d
  | .Constant (.str s) _ _ => same (.str s.cps.toList) d
  | _ => false
/-- what an except clause does -/
def kSui : CS → Stmt → Bool
  | .nev, _ => true
  | .rtn (.lit d), .Return (some e) _ => kCst d e
  | .rtnN, .Return none _ => true
  | .setv i (.lit d), .Assign [.Name x _] e _ => decide (Γ.N[i]? = some x) && locB Γ x && kCst d e
  | .setv i (.var k), .Assign [.Name x _] (.Name y _) _ => decide (Γ.N[i]? = some x) && locB Γ x && decide (Γ.N[k]? = some y) && visB Γ y && nmOk y
  | _, _ => false
def kTry (xs : List Nat) (c : Nat) (i : Option Nat) (b : List CS) (h : CS) : Stmt → Bool
  | .Try body [.ExceptHandler (some (.Name x _)) n [st] _] [] [] _ => decide (xs = Γ.xs) && decide (c ∈ Γ.xs) && decide (x = xNm c) && glB Γ x && (match i, n with
      | none, none => true
      | some i, some y => decide (Γ.N[i]? = some y) && decide (Γ.sc.names.lookup y = some .local)
      | _, _ => false) && ckSs cs Γ b body && kSui Γ h st
  | _ => false
def bodyS : CS → Stmt → Bool
  | .setv i c, s => kSet ck Γ i c s
  | .setT l c, s => kSetT ck Γ l c s
  | .par i j a b, s => kPar ck Γ i j a b s
  | .par3 i j l a b c, s => kPar3 ck Γ i j l a b c s
  | .sub o i e, s => kSub ck Γ o i e s
  | .dput o i e, s => kSub ck Γ o i e s
  | .expr c, s => kExpr ck Γ c s
  | .aug i k c, s => kAug ck Γ i k c s
  | .rtn c, s => kRtn ck Γ c s
  | .rtnN, s => kRtnN s
  | .ite c a b, s => kIfS ck cs Γ c a b s
  | .fors t it b, s => kFor ck cs Γ t it b s
  | .forC t a b, s => kFor ck cs Γ t (.seq a) b s
  | .whl _ c b, s => kWhl ck cs Γ c b s
  | .frzv _, _ => false
  | .pas, s => kPas s
  | .nev, s => kNev s
  | .brk, s => kBrk s
  | .cnt, s => kCnt s
  | .rse c, s => kRse Γ c s
  | .tryA xs c i b h, s => kTry cs Γ xs c i b h s
end
def chkS : Nat → Cks
  | 0, _, _, _ => false
  | n + 1, Γ, s, c => bodyS (chkE (n + 1)) (chkS n) Γ c s
/-! ### soundness -/
structure GoodS (X : Cx) (Γ : Gam) (C : Nat → Addr) (W : WX) (cal : Nat → Fn) : Prop where
  g : Good X Γ C W cal (spB X.K C)
  sc : X.env.scope = Γ.sc
  kf : Γ.sc.kind = .function
  pas : PassesOwn (model X.prog X.w) X.A X.env X.xe
  stk : X.stack = X.env :: X.outer
  frm : X.env.frame = some X.env.locals
  hC : C = Xb.C
def SndS (cal : Nat → Fn) (cs : Cks) : Prop := ∀ (X : Cx) (Γ : Gam) (C : Nat → Addr) (W : WX) (st : Stmt) (s : CS), GoodS X Γ C W cal → cs Γ st s = true → DS X C W st (ex cal s)
section
variable {cal : Nat → Fn} {ck : Ck} {cs : Cks} {X : Cx} {Γ : Gam} {C : Nat → Addr} {W : WX} {st : Stmt}
theorem GoodS.bk (G : GoodS X Γ C W cal) : X.env.blockKind = .function := by
  unfold Env.blockKind
  rw [G.sc, G.kf]
  rfl
theorem GoodS.kindOf (G : GoodS X Γ C W cal) (x : Str) : X.env.kindOf x = Γ.sc.names.lookup x := by
  unfold Env.kindOf
  rw [G.sc]
theorem sw_eq (G : GoodS X Γ C W cal) {x : Str} {p : Pos} {l : Nat} {e : Expr} (h : isLc e = true) : swapsWith e (some (.Name x p)) l X.env = pure (swOf Γ.sc x p e) := by
  cases e <;> first | (cases h; done) | skip
  case ListComp elt gs s vp =>
    unfold swapsWith swOf
    simp only [G.kindOf, G.bk]
    rfl
theorem sole_no {t : Expr} {e : Expr} {l : Nat} {env : Env} (h : ∀ x p, t ≠ .Name x p) : swapsWithSole [t] e l env = pure false := by
  show swapsWith e (some t) l env = pure false
  cases e <;> first | rfl | skip
  all_goals
    cases t <;> first | rfl | exact absurd rfl (h _ _)
theorem with_no {t : Expr} {e : Expr} {l : Nat} {env : Env} (h : ∀ x p, t ≠ .Name x p) : swapsWith e (some t) l env = pure false := sole_no h
theorem sto_sub {o i e : Expr} {p : Pos} {env : Env} : swappedStores [.Subscript o i p] e env = pure none := by
  cases e <;> rfl
theorem sto_eq (G : GoodS X Γ C W cal) {ts vs : List Expr} {k k2 : Nat} {p p2 : Pos} (n : Nat) (hn : swN Γ.sc ts vs = n) : (n = 0 → swappedStores [.Tuple ts k p] (.Tuple vs k2 p2) X.env = pure none) ∧ (n = 1 → swappedStores [.Tuple ts k p] (.Tuple vs k2 p2) X.env = pure (some (swNames Γ.sc ts))) := by
  have key : swappedStores [.Tuple ts k p] (.Tuple vs k2 p2) X.env = (if (!(ts.length == 2 || ts.length == 3) || vs.length != ts.length || X.env.blockKind != .function) = true then pure none
      else if (vs.any starB) = true then pure none
      else if ((swNm X.env ts).length != ts.length || (swNm X.env ts).eraseDups.length != (swNm X.env ts).length) = true then pure none
      else if (vs.all (foldedForSure 8)) = true then pure none
      else if (vs.all (constantsAlone 8)) = true then (unsupported "assign.tuple-of-constant-expressions:order-of-the-stores" >>= fun (_ : PUnit) => pure (some (swNm X.env ts))) else pure (some (swNm X.env ts))) := rfl
  have h0 : (X.env.blockKind != ScopeKind.function) = false := by rw [G.bk]; rfl
  have e1 : swNm X.env ts = swNames Γ.sc ts := by
    unfold swNames swNm
    simp only [G.kindOf]
  rw [key, h0, Bool.or_false, e1]
  unfold swN at hn
  by_cases c1 : (!(ts.length == 2 || ts.length == 3) || vs.length != ts.length) = true
  · rw [if_pos c1] at hn ⊢
    exact ⟨fun _ => rfl, fun z => by omega⟩
  rw [if_neg c1] at hn ⊢
  by_cases c2 : (vs.any starB) = true
  · rw [if_pos c2] at hn ⊢
    exact ⟨fun _ => rfl, fun z => by omega⟩
  rw [if_neg c2] at hn ⊢
  by_cases c3 : ((swNames Γ.sc ts).length != ts.length || (swNames Γ.sc ts).eraseDups.length != (swNames Γ.sc ts).length) = true
  · rw [if_pos c3] at hn ⊢
    exact ⟨fun _ => rfl, fun z => by omega⟩
  rw [if_neg c3] at hn ⊢
  by_cases c4 : vs.all (foldedForSure 8) = true
  · rw [if_pos c4] at hn ⊢
    exact ⟨fun _ => rfl, fun z => by omega⟩
  rw [if_neg c4] at hn ⊢
  by_cases c5 : vs.all (constantsAlone 8) = true
  · rw [if_pos c5] at hn ⊢
    exact ⟨fun z => by omega, fun z => by omega⟩
  rw [if_neg c5] at hn ⊢
  exact ⟨fun z => by omega, fun _ => rfl⟩
theorem no_eq (G : GoodS X Γ C W cal) {ts : List Expr} {e : Expr} {k : Nat} {p : Pos} (h : noSw Γ.sc ts e = true) : swappedStores [.Tuple ts k p] e X.env = pure none := by
  cases e <;> first | rfl | skip
  case Tuple vs k2 p2 => exact (sto_eq G 0 (of_decide_eq_true h)).1 rfl
theorem sSs (S : SndS cal cs) (G : GoodS X Γ C W cal) : ∀ {l : List CS} {p : List Stmt}, ckSs cs Γ l p = true → DSs X C W p (exs cal l)
  | [], [], _ => dss_nil
  | [], _ :: _, h => by cases h
  | c :: l, ss, h => by
    unfold ckSs at h
    cases hf : isFz c with
    | true =>
      rw [hf] at h
      cases c <;> first | (cases hf; done) | skip
      case frzv i => exact dss_frz (sSs S G h)
    | false =>
      rw [hf] at h
      cases ss with
      | nil => cases h
      | cons s r =>
        have h : (cs Γ s c && ckSs cs Γ l r) = true := h
        rw [Bool.and_eq_true] at h
        exact dss_cons (S X Γ C W s c G h.1) (sSs S G h.2)
theorem GoodS.at (G : GoodS X Γ C W cal) {i : Nat} {x : Str} (h : Γ.N[i]? = some x) : X.N[i]? = some x := by rw [G.g.hN]; exact h
theorem GoodS.loc (G : GoodS X Γ C W cal) {x : Str} (h : Γ.sc.names.lookup x = some .local) : X.env.scope.names.lookup x = some .local := by rw [G.sc]; exact h
theorem sSetv {i : Nat} {c : CE} (S : Snd cal ck) (G : GoodS X Γ C W cal) (h : kSetv ck Γ i c st = true) : DS X C W st (ex cal (.setv i c)) := by
  unfold kSetv at h
  split at h
  · rename_i x p e pos
    simp only [Bool.and_eq_true, Bool.or_eq_true, decide_eq_true_eq] at h
    obtain ⟨⟨⟨h1, h2⟩, h3⟩, h4⟩ := h
    obtain ⟨k1, k2⟩ := G.g.loc h2
    refine ds_set G.g.nd (G.at h1) k1 k2 ?_ (S.E G.g h3)
    rcases h4 with h4 | ⟨h4, h5⟩
    · exact swaps_no h4
    · rw [sw_eq G h4]
      cases hq : swOf Γ.sc x p e with
      | true => rw [hq] at h5; cases h5
      | false => rfl
  · cases h
theorem sSetLc {f i : Nat} {vs : List Nat} {tg : Tg} {it : CI} {cond : Option CE} {elt : CE} (S : Snd cal ck) (G : GoodS X Γ C W cal) (h : kSetLc ck Γ i vs tg it cond elt st = true) : DS X C W st (ex cal (.setv i (.comp f vs tg it cond elt))) := by
  unfold kSetLc at h
  split at h
  · rename_i x p e pos
    simp only [Bool.and_eq_true, decide_eq_true_eq] at h
    obtain ⟨⟨⟨h1, h2⟩, h3⟩, h4⟩ := h
    obtain ⟨e0, t, i2, ifs, scope, pos2, rfl, c⟩ := kComp_of h4
    have hsw : swapsWith (.ListComp e0 [⟨t, i2, ifs, 0⟩] scope pos2) (some (.Name x p)) pos.line X.env = pure true := by
      rw [sw_eq G rfl, h3]
    refine (ps_setLc (g := tG X.K tg) (tt := tM X.K C RB Wf (evC cal cond)) (te := tM X.K C (RepS X.K) Wf (ev cal elt)) G.g.calm G.g.nd (G.at h1) (G.loc h2) hsw (sI S G.g c.it_) (blk_ok G.g c.blk) (fun s H A cl fp => sG (G.g.blk s H scope cl A fp) c.tg_) (fun s H A cl fp => sC S (G.g.blk s H scope cl A fp) c.cond_)
      (fun s H A cl fp => S.E (G.g.blk s H scope cl A fp) c.elt_) (nset_fold c.ns)).imp fun D σ H q => ?_
    rw [c.own]
    exact lc_imp c.sub (asg_of q)
  · cases h
theorem sSetLcC {f i : Nat} {vs : List Nat} {tg : Tg} {a : CE} {cond : Option CE} {elt : CE} (S : Snd cal ck) (G : GoodS X Γ C W cal) (h : kSetLc ck Γ i vs tg (.seq a) cond elt st = true) : DS X C W st (ex cal (.setv i (.compC f vs tg a cond elt))) := by
  unfold kSetLc at h
  split at h
  · rename_i x p e pos
    simp only [Bool.and_eq_true, decide_eq_true_eq] at h
    obtain ⟨⟨⟨h1, h2⟩, h3⟩, h4⟩ := h
    obtain ⟨e0, t, i2, ifs, scope, pos2, rfl, c⟩ := kComp_of h4
    have hsw : swapsWith (.ListComp e0 [⟨t, i2, ifs, 0⟩] scope pos2) (some (.Name x p)) pos.line X.env = pure true := by
      rw [sw_eq G rfl, h3]
    refine (ps_setLc (g := tG X.K tg) (tt := tM X.K C RB Wf (evC cal cond)) (te := tM X.K C (RepS X.K) Wf (ev cal elt)) G.g.calm G.g.nd (G.at h1) (G.loc h2) hsw (di_liv (S.E G.g (ckI_seq c.it_))) (blk_ok G.g c.blk) (fun s H A cl fp => sG (G.g.blk s H scope cl A fp) c.tg_) (fun s H A cl fp => sC S (G.g.blk s H scope cl A fp) c.cond_)
      (fun s H A cl fp => S.E (G.g.blk s H scope cl A fp) c.elt_) (nset_fold c.ns)).imp fun D σ H q => ?_
    rw [c.own]
    exact lc_impC c.sub (asg_of q)
  · cases h
theorem sSetT {l : List Tg} {c : CE} (S : Snd cal ck) (G : GoodS X Γ C W cal) (h : kSetT ck Γ l c st = true) : DS X C W st (ex cal (.setT l c)) := by
  unfold kSetT at h
  split at h
  · simp only [Bool.and_eq_true] at h
    exact ds_setT (sG G.g h.1.1) (sole_no fun _ _ z => by cases z) (no_eq G h.1.2) rfl (S.E G.g h.2)
  · cases h
theorem sPar {i j : Nat} {a b : CE} (S : Snd cal ck) (G : GoodS X Γ C W cal) (h : kPar ck Γ i j a b st = true) : DS X C W st (ex cal (.par i j a b)) := by
  unfold kPar at h
  split at h
  · simp only [Bool.and_eq_true, decide_eq_true_eq] at h
    obtain ⟨⟨⟨⟨⟨⟨⟨⟨⟨⟨h1, h2⟩, h3⟩, h4⟩, h5⟩, h6⟩, h7⟩, h8⟩, h9⟩, h10⟩, h11⟩ := h
    exact ds_par G.g.calm G.g.nd (G.at h1) (G.at h2) h3 (G.loc h4) (G.loc h5) (by rw [(sto_eq G 1 h6).2 rfl, h7]) (S.E G.g h10) (S.E G.g h11) h8 h9
  · cases h
theorem sPar3 {i j l : Nat} {a b c : CE} (S : Snd cal ck) (G : GoodS X Γ C W cal) (h : kPar3 ck Γ i j l a b c st = true) : DS X C W st (ex cal (.par3 i j l a b c)) := by
  unfold kPar3 at h
  split at h
  · simp only [Bool.and_eq_true, decide_eq_true_eq] at h
    obtain ⟨⟨⟨⟨⟨⟨⟨⟨⟨⟨⟨⟨⟨⟨⟨⟨h1, h2⟩, h3⟩, h4⟩, h5⟩, h6⟩, h7⟩, h8⟩, h9⟩, h10⟩, h11⟩, h12⟩, h13⟩, h14⟩, h15⟩, h16⟩, h17⟩ := h
    exact ds_par3 G.g.calm G.g.nd (G.at h1) (G.at h2) (G.at h3) h4 h5 h6 (G.loc h7) (G.loc h8) (G.loc h9) (by rw [(sto_eq G 1 h10).2 rfl, h11]) (S.E G.g h15) (S.E G.g h16) (S.E G.g h17) h12 h13 h14
  · cases h
theorem sub_asg {o i : Expr} {p : Pos} {env : Env} (h : nslice i = true) : ∀ v, assign (.Subscript o i p) env v = (do
      let ov ← holding [v] (eval o env)
      let iv ← holding [v, ov] (eval i env)
      standAt p
      holding [v, ov, iv] (setItem ov iv v)
      release [v, ov, iv] []) := by
  intro v
  cases i <;> first | (cases h; done) | rfl
theorem sSub {o i e : CE} (S : Snd cal ck) (G : GoodS X Γ C W cal) (h : kSub ck Γ o i e st = true) : DS X C W st (ex cal (.sub o i e)) ∧ DS X C W st (ex cal (.dput o i e)) := by
  unfold kSub at h
  split at h
  · simp only [Bool.and_eq_true] at h
    obtain ⟨⟨⟨h1, h2⟩, h3⟩, h4⟩ := h
    exact ⟨ds_sub (sole_no fun _ _ z => by cases z) (S.E G.g h2) (S.E G.g h3) (S.E G.g h4) (sub_asg h1) sto_sub rfl, ds_dput (units1 G.g).1 (with_no fun _ _ z => by cases z) (S.E G.g h2) (S.E G.g h3) (S.E G.g h4)⟩
  · cases h
theorem sExpr {c : CE} (S : Snd cal ck) (G : GoodS X Γ C W cal) (h : kExpr ck Γ c st = true) : DS X C W st (ex cal (.expr c)) := by
  unfold kExpr at h
  split at h
  · rw [Bool.and_eq_true] at h
    exact ds_expr h.1 (S.E G.g h.2)
  · cases h
theorem sAug {i : Nat} {k : BinK} {c : CE} (S : Snd cal ck) (G : GoodS X Γ C W cal) (h : kAug ck Γ i k c st = true) : DS X C W st (ex cal (.aug i k c)) := by
  unfold kAug at h
  split at h
  · simp only [Bool.and_eq_true, decide_eq_true_eq] at h
    obtain ⟨⟨⟨h1, h2⟩, rfl⟩, h4⟩ := h
    obtain ⟨k1, k2⟩ := G.g.loc h2
    exact ds_aug G.g.nd (G.at h1) k1 k2 (S.E G.g h4)
  · cases h
theorem sRtn {c : CE} (S : Snd cal ck) (G : GoodS X Γ C W cal) (h : kRtn ck Γ c st = true) : DS X C W st (ex cal (.rtn c)) := by
  unfold kRtn at h
  split at h
  · exact ds_rtn (S.E G.g h)
  · cases h
theorem sRtnN (h : kRtnN st = true) : DS X C W st (ex cal .rtnN) := by
  unfold kRtnN at h
  split at h
  · exact ds_rtnN
  · cases h
theorem sPas (h : kPas st = true) : DS X C W st (ex cal .pas) := by
  unfold kPas at h
  split at h
  · exact ds_pas
  · exact ds_doc
  · cases h
theorem sBrk (h : kBrk st = true) : DS X C W st (ex cal .brk) := by
  unfold kBrk at h
  split at h
  · exact ds_brk
  · cases h
theorem sCnt (h : kCnt st = true) : DS X C W st (ex cal .cnt) := by
  unfold kCnt at h
  split at h
  · exact ds_cnt
  · cases h
theorem sIfS {c : CE} {a b : List CS} (S : Snd cal ck) (Z : SndS cal cs) (G : GoodS X Γ C W cal) (h : kIfS ck cs Γ c a b st = true) : DS X C W st (ex cal (.ite c a b)) := by
  unfold kIfS at h
  split at h
  · simp only [Bool.and_eq_true] at h
    exact ds_ite (S.T G.g h.1.1) (sSs Z G h.1.2) (sSs Z G h.2)
  · cases h
theorem sFor {t : Tg} {it : CI} {b : List CS} (S : Snd cal ck) (Z : SndS cal cs) (G : GoodS X Γ C W cal) (h : kFor ck cs Γ t it b st = true) : DS X C W st (ex cal (.fors t it b)) := by
  unfold kFor at h
  split at h
  · simp only [Bool.and_eq_true] at h
    exact ds_for G.pas G.g.calm (nset_fold h.1.1.1) (sI S G.g h.1.1.2) (sG G.g h.1.2) (sSs Z G h.2)
  · cases h
theorem sForC {t : Tg} {a : CE} {b : List CS} (S : Snd cal ck) (Z : SndS cal cs) (G : GoodS X Γ C W cal) (h : kFor ck cs Γ t (.seq a) b st = true) : DS X C W st (ex cal (.forC t a b)) := by
  unfold kFor at h
  split at h
  · simp only [Bool.and_eq_true] at h
    exact ds_forC G.pas G.g.calm (nset_fold h.1.1.1) (di_liv (S.E G.g (ckI_seq h.1.1.2))) (sG G.g h.1.2) (sSs Z G h.2)
  · cases h
theorem sWhl {n : Nat} {c : CE} {b : List CS} (S : Snd cal ck) (Z : SndS cal cs) (G : GoodS X Γ C W cal) (h : kWhl ck cs Γ c b st = true) : DS X C W st (ex cal (.whl n c b)) := by
  unfold kWhl at h
  split at h
  · simp only [Bool.and_eq_true] at h
    exact ds_whl G.pas (S.T G.g h.1) (sSs Z G h.2)
  · cases h
theorem sSet {i : Nat} {c : CE} (S : Snd cal ck) (G : GoodS X Γ C W cal) (h : kSet ck Γ i c st = true) : DS X C W st (ex cal (.setv i c)) := by
  cases c <;> first | exact sSetv S G h | skip
  case comp f vs tg it cond elt =>
    have h : (kSetv ck Γ i (.comp f vs tg it cond elt) st || kSetLc ck Γ i vs tg it cond elt st) = true := h
    rcases Bool.or_eq_true_iff.mp h with h | h
    · exact sSetv S G h
    · exact sSetLc S G h
  case compC f vs tg a cond elt =>
    have h : (kSetv ck Γ i (.compC f vs tg a cond elt) st || kSetLc ck Γ i vs tg (.seq a) cond elt st) = true := h
    rcases Bool.or_eq_true_iff.mp h with h | h
    · exact sSetv S G h
    · exact sSetLcC S G h
theorem sRse {c : Nat} (G : GoodS X Γ C W cal) (h : kRse Γ c st = true) : DS X C W st (ex cal (.rse c)) := by
  have hx := G.g.xc
  rw [← G.hC] at hx
  unfold kRse at h
  split at h
  · simp only [Bool.and_eq_true, decide_eq_true_eq] at h
    obtain ⟨⟨⟨h1, h2⟩, rfl⟩, h4⟩ := h
    exact ds_rse0 (hx _ h1) h2 G.g.calm G.g.tk (G.g.glo h4)
  · simp only [Bool.and_eq_true, decide_eq_true_eq] at h
    obtain ⟨⟨⟨h1, h2⟩, rfl⟩, h4⟩ := h
    exact ds_rse1 (hx _ h1) h2 G.g.calm G.g.tk (G.g.glo h4)
  · cases h
theorem dss_one {m : M Fl} (h : DS X C W st m) : PSs X [st] (tS X.K C W m) := (dss_cons h dss_nil).imp fun D σ H q => by
  obtain ⟨e, g, re, p⟩ := q
  refine ⟨e, g, re, ?_⟩
  unfold bnd
  cases hm : m e with
  | stuck => rw [hm] at p; exact p.elim
  | exc x e' => rw [hm] at p; exact p
  | ok fl e' =>
    rw [hm] at p
    cases fl <;> exact p
theorem sCst {d : D} {e : Expr} (h : kCst d e = true) : DE X C W e (ret (.val d)) ∧ nlc e = true := by
  unfold kCst at h
  split at h
  · obtain rfl := same_eq h; exact ⟨de_lit pe_int fun _ => .int _, rfl⟩
  · obtain rfl := same_eq h; exact ⟨de_lit pe_bl fun _ => .bl _, rfl⟩
  · obtain rfl := same_eq h; exact ⟨de_lit pe_non fun _ => .non, rfl⟩
  · rename_i s _ _
    obtain rfl := same_eq h
    exact ⟨de_lit pe_str fun _ => by
      have := Dr.str (K := X.K) (G := ‹_›) s.cps.toList
      rw [str_eta] at this; exact this, rfl⟩
  · cases h
theorem sSui {s : CS} (G : GoodS X Γ C W cal) (h : kSui Γ s st = true) (a : Addr) (pn : List (Addr × Obj)) : PSs (X.suite a pn) [st] (tS X.K C Wf (ex cal s)) := by
  unfold kSui at h
  split at h
  · exact dss_one (X := X.suite a pn) ds_nev
  · exact dss_one (X := X.suite a pn) (ds_rtn (sCst h).1)
  · exact dss_one (X := X.suite a pn) ds_rtnN
  · simp only [Bool.and_eq_true, decide_eq_true_eq] at h
    obtain ⟨⟨h1, h2⟩, h3⟩ := h
    obtain ⟨k1, k2⟩ := G.g.loc h2
    obtain ⟨k3, k4⟩ := sCst (X := X.suite a pn) (C := C) (W := Wf) h3
    exact dss_one (X := X.suite a pn) (ds_set (X := X.suite a pn) G.g.nd (G.at h1) k1 k2 (swaps_no k4) k3)
  · simp only [Bool.and_eq_true, decide_eq_true_eq] at h
    obtain ⟨⟨⟨⟨h1, h2⟩, h3⟩, h4⟩, h5⟩ := h
    obtain ⟨k1, k2⟩ := G.g.loc h2
    obtain ⟨k3, k4⟩ := nm_ok h5
    exact dss_one (X := X.suite a pn) (ds_set (X := X.suite a pn) G.g.nd (G.at h1) k1 k2 (swaps_no rfl) (de_var (X := X.suite a pn) (G.at h3) (G.g.vis h4) k3 k4))
  · cases h
theorem GoodS.tr (G : GoodS X Γ C W cal) {W' : WX} {pn : List (Addr × Obj)} {xe : Value → Shared → Prop} (tk : Takes (X.tr pn xe) W') (hp : PassesOwn (model X.prog X.w) X.A X.env xe) : GoodS (X.tr pn xe) Γ C W' cal where
  g := {
    hN := G.g.hN
    nd := G.g.nd
    calm := G.g.calm
    kin := G.g.kin
    fnl := G.g.fnl
    con := G.g.con
    blt := G.g.blt
    fun_ := G.g.fun_
    units := G.g.units
    gd := G.g.gd
    tk := tk
    lam := fun fn0 h => ⟨(G.g.lam fn0 h).code, (G.g.lam fn0 h).room, (G.g.lam fn0 h).fun_⟩
    xc := G.g.xc }
  sc := G.sc
  kf := G.kf
  pas := hp
  stk := G.stk
  frm := G.frm
  hC := G.hC
theorem sTry {xs : List Nat} {c : Nat} {i : Option Nat} {b : List CS} {s : CS} (Z : SndS cal cs) (G : GoodS X Γ C W cal) (h : kTry cs Γ xs c i b s st = true) : DS X C W st (ex cal (.tryA xs c i b s)) := by
  have hx := G.g.xc
  rw [← G.hC] at hx
  unfold kTry at h
  split at h
  · simp only [Bool.and_eq_true, decide_eq_true_eq] at h
    obtain ⟨⟨⟨⟨⟨⟨rfl, h2⟩, rfl⟩, h4⟩, h5⟩, h6⟩, h7⟩ := h
    have T : ∀ m ∈ Γ.xs, PySem.W.exmOne X.K (.ref (C m)) (.ref (C c)) = some (catches c m) := fun m hm => (hx m hm).exm c h2
    have hc : Names X (xNm c) (.ref (C c)) := ⟨G.g.glo h4, xNm_ok c, .inl (hx c h2).mg_⟩
    have hb : ∀ (W : WX) (pn : List (Addr × Obj)) (xe : Value → Shared → Prop), Takes (X.tr pn xe) W → PassesOwn (model X.prog X.w) X.A X.env xe → DSs (X.tr pn xe) C W _ (exs cal b) := fun W pn xe tk hp => sSs Z (G.tr tk hp) h6
    split at h5
    · exact ds_tryN G.hC T G.stk G.frm hc G.g.tk hb (sSui G h7)
    · simp only [Bool.and_eq_true, decide_eq_true_eq] at h5
      exact ds_tryV G.hC T G.stk G.frm G.g.nd (G.at h5.1) (by rw [G.kindOf]; exact h5.2) hc G.g.tk hb (sSui G h7)
    · cases h5
  · cases h
theorem chkS_ok : ∀ n : Nat, SndS cal (chkS n)
  | 0 => fun X Γ C W st s G h => by cases h
  | n + 1 => fun X Γ C W st s G h => by
    have Z : SndS cal (chkS n) := chkS_ok n
    have S : Snd cal (chkE (n + 1)) := chk_ok (n + 1)
    unfold chkS at h
    cases s
    case setv => exact sSet S G h
    case setT => exact sSetT S G h
    case par => exact sPar S G h
    case par3 => exact sPar3 S G h
    case sub => exact (sSub S G h).1
    case dput => exact (sSub S G h).2
    case expr => exact sExpr S G h
    case aug => exact sAug S G h
    case rtn => exact sRtn S G h
    case rtnN => exact sRtnN h
    case ite => exact sIfS S Z G h
    case fors => exact sFor S Z G h
    case forC => exact sForC S Z G h
    case whl => exact sWhl S Z G h
    case frzv => cases h
    case pas => exact sPas h
    case nev => exact ds_nev
    case brk => exact sBrk h
    case cnt => exact sCnt h
    case rse => exact sRse G h
    case tryA => exact sTry Z G h
end
end DL
/-! DL, part r: functions; a program's functions all at once. -/
namespace DL
open PySem L2
variable [xb : Xb] [Tb]
theorem start_rel {K : PySem.W.Frag} {g : Gh} {H : Hp} {vs : List V} {args : List Sl} {S : List Ce} {N : List Str} (rs : RepSs K g vs args) (st : Sto K S H g) : Rel K ⟨args ++ List.replicate (N.length - args.length) .und, S⟩ (L2.start N vs) H g := by
  have hl := rs.length
  refine ⟨?_, fun i s q => ?_, st⟩
  · unfold L2.start
    simp [hl]
  · have q : (args ++ List.replicate (N.length - args.length) Sl.und)[i]? = some s := q
    by_cases hi : i < args.length
    · rw [List.getElem?_append_left hi] at q
      have : ∀ {vs : List V} {args : List Sl} {i : Nat} {s : Sl}, RepSs K g vs args → args[i]? = some s → ∃ v, vs[i]? = some v ∧ RepS K g v s := by
        intro vs args i s rs
        induction rs generalizing i with
        | nil => intro h; simp at h
        | cons r rs ih =>
          intro h
          cases i with
          | zero => simp at h; subst h; exact ⟨_, rfl, r⟩
          | succ i => exact ih (by simpa using h)
      obtain ⟨v, h1, h2⟩ := this rs q
      refine .inr ⟨v, ?_, h2⟩
      unfold L2.start
      rw [List.getElem?_append_left (by rw [List.length_map, hl]; exact hi), List.getElem?_map, h1]; rfl
    · rw [List.getElem?_append_right (by omega)] at q
      have := List.mem_of_getElem? q
      exact .inl (List.eq_of_mem_replicate this)
section
variable {K : PySem.W.Frag} {C : Nat → Addr} {g g' : Gh} {H H' : Hp} {S cs : List Ce} {e' : En} {σ' : St}
theorem exit_sto (st0 : Sto K S H g) (re : Rel K e' σ' H' g') (st : Stp g H g' H') (h : exitC S.length e'.cs = some cs) :
    cs = e'.cs.take S.length ∧ g'.adr.take S.length = g.adr ∧ Sto K cs H' ⟨g'.G, g.adr⟩ ∧ Stp g H ⟨g'.G, g.adr⟩ H' := by
  unfold exitC at h
  split at h
  · rename_i hp
    cases h
    obtain ⟨l, el⟩ := st.le.ad
    have hl : g.adr.length = S.length := st0.len
    have e1 : g'.adr.take S.length = g.adr := by rw [el, ← hl]; simp
    have hle : S.length ≤ e'.cs.length := by
      have := re.sto.len
      rw [el, List.length_append] at this
      omega
    refine ⟨rfl, e1, ⟨re.sto.gh, ?_, st0.nod, fun a ha => re.sto.thr a (st.le.mem ha), fun k a c h1 h2 => ?_, re.sto.tab, re.sto.gtb⟩, ⟨⟨st.le.le, [], by simp⟩, st.keep, fun a ha => .inl ha, st.gnew⟩⟩
    · show g.adr.length = (e'.cs.take S.length).length
      rw [List.length_take, hl]; omega
    · have h2' : e'.cs[k]? = some c := by
        rw [List.getElem?_take] at h2
        split at h2
        · exact h2
        · cases h2
      exact CeAt.pure (g := g') (List.all_eq_true.mp hp _ (List.mem_of_getElem? h2)) rfl (re.sto.cel k a c (st.le.get h1) h2')
  · cases h
/-- out of a body -/
theorem exit_of {W : WX} {Q : VK} {E : XK} {o : Out Fl} (st0 : Sto K S H g) (hW : ∀ cls d σ H, E cls d H → W cls d σ H)
    (h : match exitF S.length o with
      | .ok r S' => ∀ v g' H', Sto K S' H' g' → Stp g H g' H' → RepS K g' v r → Q v H'
      | .exc x S' => ∀ cls d g' H', Sto K S' H' g' → Stp g H g' H' → XRel C x cls d g'.G → E cls d H'
      | .stuck => False) : PostS K C W { nx := fun _ H' => Q .non H', rt := Q } g H o := by
  cases o with
  | stuck => exact h
  | exc x e' =>
    intro cls d σ' g' H' re st rx
    unfold exitF at h
    simp only at h
    cases hc : exitC S.length e'.cs with
    | none => rw [hc] at h; exact h.elim
    | some cs =>
      rw [hc] at h
      obtain ⟨_, _, h1, h2⟩ := exit_sto st0 re st hc
      exact hW _ _ _ _ (h cls d _ H' h1 h2 rx)
  | ok fl e' =>
    intro σ' g' H' re st
    unfold exitF at h
    cases fl with
    | brk => exact h.elim
    | cnt => exact h.elim
    | nxt =>
      simp only at h
      cases hc : exitC S.length e'.cs with
      | none => rw [hc] at h; exact h.elim
      | some cs =>
        rw [hc] at h
        obtain ⟨_, _, h1, h2⟩ := exit_sto st0 re st hc
        exact h .non _ H' h1 h2 Dr.non
    | rtn s =>
      intro v rv
      cases s with
      | und => exact h.elim
      | xc _ _ => exact h.elim
      | val d =>
        simp only at h
        cases hc : exitC S.length e'.cs with
        | none => rw [hc] at h; exact h.elim
        | some cs =>
          rw [hc] at h
          obtain ⟨_, _, h1, h2⟩ := exit_sto st0 re st hc
          exact h v _ H' h1 h2 rv
      | cel j =>
        simp only at h
        cases hc : exitC S.length e'.cs with
        | none => rw [hc] at h; exact h.elim
        | some cs =>
          rw [hc] at h
          obtain ⟨e0, e1, h1, h2⟩ := exit_sto st0 re st hc
          obtain ⟨a, ha, rfl⟩ := rv
          simp only at h
          by_cases hj : j < S.length
          · rw [if_pos hj] at h
            refine h (.ref a) _ H' h1 h2 ⟨a, ?_, rfl⟩
            show g.adr[j]? = some a
            rw [← e1, List.getElem?_take, if_pos hj]; exact ha
          · rw [if_neg hj] at h
            cases hcj : e'.cs[j]? with
            | none => rw [hcj] at h; exact h.elim
            | some c =>
              rw [hcj] at h
              simp only at h
              by_cases hp : pureC c = true
              · rw [if_pos hp] at h
                have hl : g.adr.length = S.length := st0.len
                have hna : a ∉ g.adr := fun z => by
                  rw [← e1] at z
                  obtain ⟨i, hi⟩ := List.getElem?_of_mem z
                  rw [List.getElem?_take] at hi
                  split at hi
                  · have := nodup_at re.sto.nod hi ha
                    omega
                  · cases hi
                refine h (.ref a) ⟨g'.G, g.adr ++ [a]⟩ H' ⟨h1.gh, ?_, ?_, fun b hb => ?_, fun k b c' k1 k2 => ?_, h1.tab, h1.gtb⟩ ⟨⟨st.le.le, [a], rfl⟩, st.keep, fun b hb => ?_, st.gnew⟩ ⟨a, ?_, rfl⟩
                · show (g.adr ++ [a]).length = (cs ++ [c]).length
                  rw [List.length_append, List.length_append, h1.len.symm]; rfl
                · show (g.adr ++ [a]).Nodup
                  rw [List.nodup_append]
                  exact ⟨st0.nod, by simp, fun x hx y hy z => by
                    have : y = a := by simpa using hy
                    subst this; subst z; exact hna hx⟩
                · rcases List.mem_append.mp hb with z | z
                  · exact h1.thr b z
                  · have : b = a := by simpa using z
                    subst this
                    exact re.sto.thr b (List.mem_of_getElem? ha)
                · have k1 : (g.adr ++ [a])[k]? = some b := k1
                  have k2 : (cs ++ [c])[k]? = some c' := k2
                  have hlc : g.adr.length = cs.length := h1.len
                  by_cases hk : k < g.adr.length
                  · rw [List.getElem?_append_left hk] at k1
                    rw [List.getElem?_append_left (by omega)] at k2
                    have pc : pureC c' = true := by
                      unfold exitC at hc
                      split at hc
                      · rename_i hp'
                        cases hc
                        exact List.all_eq_true.mp hp' _ (List.mem_of_getElem? k2)
                      · cases hc
                    exact CeAt.pure (g := ⟨g'.G, g.adr⟩) pc rfl (h1.cel k b c' k1 k2)
                  · rw [List.getElem?_append_right (by omega)] at k1
                    rw [List.getElem?_append_right (by omega)] at k2
                    have hk0 : k - g.adr.length = 0 := by
                      have := (List.getElem?_eq_some_iff.mp k1).1
                      simpa using this
                    rw [hk0] at k1
                    have hk1 : k - cs.length = 0 := by omega
                    rw [hk1] at k2
                    simp at k1 k2
                    subst k1; subst k2
                    exact CeAt.pure (g := g') hp rfl (re.sto.cel j _ _ ha hcj)
                · have hb : b ∈ g.adr ++ [a] := hb
                  rcases List.mem_append.mp hb with z | z
                  · exact .inl z
                  · have : b = a := by simpa using z
                    subst this
                    exact st.anew b (List.mem_of_getElem? ha)
                · show (g.adr ++ [a])[S.length]? = some a
                  rw [← hl]; simp
              · rw [if_neg hp] at h; exact h.elim
end
/-- a def of the program -/
structure Ent where
  x : Str
  qual : Str
  st : Stmt
  a : Addr
  fd : FuncData
  N : List Str
  ps : List Str
  cd : CDef
  l0 : Option (List (Nat × Str)) := none
/-- its lambdas' qualified name -/
def Ent.lq (E : Ent) : Str := (E.qual ++ ".<locals>.") ++ "<lambda>"
structure EntOk (K : PySem.W.Frag) (mg : Str → Option Value) (glb : List (Str × D)) (fns : List (Nat × Str)) (xs : List Nat) (E : Ent) : Prop where
  fn : Fun K E.x E.qual E.st E.a E.fd
  scp : FnScope E.N E.ps (defScope E.st)
  bnd : Binds K E.fd E.ps []
  mg_ : mg E.x = some (.ref E.a)
  n : E.cd.n = E.N.length
  np : E.cd.np = E.ps.length
  chk : ckSs (chkS 60) ⟨E.N, defScope E.st, glb, fns, E.l0, xs⟩ E.cd.body (defBody E.st) = true
theorem lookup_mem {α : Type} : ∀ {l : List (Nat × α)} {f : Nat} {E : α}, l.lookup f = some E → (f, E) ∈ l
  | [], _, _, h => by cases h
  | (n, e) :: r, f, E, h => by
    rw [List.lookup_cons] at h
    split at h
    · rename_i hx
      cases h
      rw [eq_of_beq hx]; exact List.mem_cons_self
    · exact List.mem_cons_of_mem _ (lookup_mem h)
theorem lookup_fns : ∀ {l : List (Nat × Ent)} {f : Nat} {x : Str}, (l.map fun p => (p.1, p.2.x)).lookup f = some x → ∃ E, l.lookup f = some E ∧ E.x = x
  | [], _, _, h => by cases h
  | (n, e) :: r, f, x, h => by
    rw [List.map_cons, List.lookup_cons] at h
    rw [List.lookup_cons]
    cases hq : f == n with
    | true => rw [hq] at h; cases h; exact ⟨_, rfl, rfl⟩
    | false => rw [hq] at h; exact lookup_fns h
section
variable {P : Program} {w : World} {K : PySem.W.Frag} {mg : Str → Option Value} {base : Heap} {xs : List Nat} {es : List (Nat × Ent)} {glb : List (Str × D)} {Pr : Nat → CDef}
/-- what a def that makes lambdas leans on -/
structure LamOk (K : PySem.W.Frag) (mg : Str → Option Value) (base : Heap) (E : Ent) : Prop where
  at_ : ∃ c P, PySem.W.tabIn K E.x = some (c, P) ∧ LamX.TabB base mg c P ∧ (P, E.lq) ∈ Tb.T ∧ ∀ p ∈ Tb.T, p.1 = P → p.2 = E.lq
theorem all_ok (hP : ∀ f E, es.lookup f = some E → Pr f = E.cd) (hE : ∀ E ∈ es, EntOk K mg glb (es.map fun p => (p.1, p.2.x)) xs E.2) (hc : ∀ x d, glb.lookup x = some d → ∃ u v, mg x = some u ∧ RelV v u ∧ ∀ G, Dr K G v d) (hb : ∀ x ∈ bNames, mg x = none)
    (hX : ∀ n ∈ xs, XcOk K mg Xb.C xs n) (hK : K.In base) (hns : base.Ns mainGlobals mg) (hL : ∀ E ∈ es, ∀ fn0, E.2.l0 = some fn0 → LamOk K mg base E.2)
    (h0 : ∀ E ∈ es, ∀ fn0, E.2.l0 = some fn0 → ∀ f x, fn0.lookup f = some x → ∃ a fd ps, mg x = some (.ref a) ∧ PySem.W.keepIn K (.ref a) = true ∧ Binds K fd ps [] ∧ ∀ k, FnG P w K mg base (L2.CX P w) (2 * k + 2) a fd ps (@spF xb ⟨[]⟩ K Xb.C (calF Pr k f))) :
    ∀ (k f : Nat) (E : Ent), es.lookup f = some E → FnG P w K mg base (L2.CX P w) (2 * k + 2) E.a E.fd E.ps (spF K Xb.C (calF Pr k f))
  | 0, f, E, h => ⟨fun vs H Q E' sp => by
      obtain ⟨g, args, S, _, _, sp⟩ := sp
      exact sp.elim, fun A outer s H args us vs Q E' _ _ _ _ sp => by
      obtain ⟨g, args, S, _, _, sp⟩ := sp
      exact sp.elim⟩
  | k + 1, f, E, h => by
    have hmem := lookup_mem h
    have eo : EntOk K mg glb (es.map fun p => (p.1, p.2.x)) xs E := hE _ hmem
    have hpr : Pr f = E.cd := hP f E h
    obtain ⟨oc, od, kV, doc, pm, an, cdv, ct, osl, hfd, lk, hcd⟩ := eo.fn.ex
    have key : FnG P w K mg base (L2.CX P w) (2 * k + 3 + 1) E.a E.fd E.ps (spF K Xb.C (calF Pr (k + 1) f)) := by
      rw [hfd] at lk ⊢
      refine fnG_of lk hcd eo.scp (fun vs H Q E' sp => ?_) fun A outer s H vs Q E' room sp => ?_
      · obtain ⟨g, args, S, rs, st, sp⟩ := sp
        unfold calF at sp
        rw [hpr] at sp
        by_cases hl : args.length = E.cd.np
        · rw [rs.length, hl, eo.np]
        · rw [if_neg hl] at sp; exact sp.elim
      · obtain ⟨g, args, S, rs, st, sp⟩ := sp
        unfold calF at sp
        rw [hpr] at sp
        by_cases hl : args.length = E.cd.np
        · rw [if_pos hl] at sp
          have G : GoodS (cxOf (L2.CX P w) P w K mg base E.N E.qual (defScope E.st) E.a cdv A outer s H E') ⟨E.N, defScope E.st, glb, es.map fun p => (p.1, p.2.x), E.l0, xs⟩ Xb.C (fun cls d _ H => E' cls d H) (calF Pr k) :=
            { g := {
                hN := rfl
                nd := eo.scp.nd
                calm := rfl
                kin := fun x => .inl rfl
                fnl := fun x _ => .inl rfl
                con := hc
                blt := hb
                fun_ := fun i x hx => by
                  obtain ⟨F, hi, rfl⟩ := lookup_fns hx
                  have fo : EntOk K mg glb (es.map fun p => (p.1, p.2.x)) xs F := hE _ (lookup_mem hi)
                  exact ⟨F.a, F.fd, 2 * k + 2, F.ps, fo.mg_, fo.fn.kp, fo.bnd, all_ok hP hE hc hb hX hK hns hL h0 k i F hi, room.mono (by omega)⟩
                units := by
                  have := room.room.un
                  show (A.deeper _).units + 65 < cLine
                  omega
                gd := room.gd
                tk := takes_of rfl rfl rfl rfl
                lam := fun fn0 hl0 => by
                  obtain ⟨c, P', ht, TB, hm, hu⟩ := (hL _ hmem fn0 hl0).at_
                  refine ⟨⟨c, P', ?_, TB, hm, hu⟩, room.room.mono (by omega), fun i x hx => ?_⟩
                  · have := PySem.W.law_code hK hns ht eo.mg_ (hK _ _ lk) rfl
                    exact this
                  · obtain ⟨a, fd, ps, e1, e2, e3, e4⟩ := h0 _ hmem fn0 hl0 i x hx
                    exact ⟨a, fd, 2 * k + 2, ps, e1, e2, e3, e4 k, room⟩
                xc := hX }
              sc := rfl
              kf := eo.scp.kind
              pas := passes_of rfl
              stk := rfl
              frm := rfl
              hC := rfl }
          refine ⟨_, sSs (chkS_ok 60) G eo.chk, ?_⟩
          have re := start_rel (N := E.N) rs st
          rw [← eo.n] at re
          exact ⟨_, g, re, exit_of st (fun _ _ _ _ h => h) sp⟩
        · rw [if_neg hl] at sp; exact sp.elim
    exact key
end
end DL
/-! DL, part 2: the end of a row, for a law whose defs show things. -/
namespace DL
open PySem PySem.Spec PyProof.Rows L2 LamX
/-- an abstract heap of the script and the tables alone -/
structure Start (K : PySem.W.Frag) (P : Program) (w : World) (h : Heap) (cs : List (Addr × Addr)) (a : Addr) (H : Hp) : Prop where
  tb : ∀ p ∈ cs, H p.2 = some (.tbl #[])
  sh : ∀ b, H b = none ∨ b ∈ cs.map (·.2) ∨ ∃ o xs, H b = some (.frz o (.lst xs))
  ok : HOk P w H h
  few : ∀ b, H b ≠ none → b = a ∨ b ∈ cs.map (·.2)
  out : H a ≠ none → K.lookup a = none
section
variable {P : Program} {w : World} {K : PySem.W.Frag} {mg mb : Str → Option Value} {k : Nat} {fa a : Addr} {cs : List (Addr × Addr)} {fd : FuncData} {x : Str} {sp : Sp} {s : Shared} {vs : List Value} {ns : List Int} {H : Hp}
/-- what stands there and is no list, no table, is not tracked -/
theorem Start.free (S : Start K P w s.heap cs a H) (ha : s.heap.get? a = some { cls := .type "list", data := .seq vs.toArray }) (hT : ∀ p ∈ cs, s.heap.get? p.2 = some { cls := .none, data := .fields #[] }) {b : Addr} {o : Obj} (e : s.heap.get? b = some o)
    (h1 : ∀ v n, o.data ≠ .seq v n) (h2 : o.data ≠ .fields #[]) : H b = none := by
  cases q : H b with
  | none => rfl
  | some u =>
    exfalso
    rcases S.few b (by rw [q]; simp) with z | z
    · subst z
      rw [ha] at e
      cases e
      exact h1 _ _ rfl
    · obtain ⟨p, hp, rfl⟩ := List.mem_map.mp z
      have t := hT p hp
      rw [show s.heap.get? p.2 = some o from e] at t
      cases t
      exact h2 rfl
theorem Start.dict (S : Start K P w s.heap cs a H) (ha : s.heap.get? a = some { cls := .type "list", data := .seq vs.toArray }) (hT : ∀ p ∈ cs, s.heap.get? p.2 = some { cls := .none, data := .fields #[] }) {b : Addr} {o : Obj} {es : Array DictEntry} {ep : Nat} (e : s.heap.get? b = some o) (d : o.data = .dict es ep) : (hidT s.heap H).get? b = some o :=
  hidT_get e (S.free ha hT e (fun v n z => by rw [d] at z; cases z) fun z => by rw [d] at z; cases z)
theorem Start.nsp (S : Start K P w s.heap cs a H) (ha : s.heap.get? a = some { cls := .type "list", data := .seq vs.toArray }) (hT : ∀ p ∈ cs, s.heap.get? p.2 = some { cls := .none, data := .fields #[] }) {b : Addr} {m : Str → Option Value} (n : s.heap.Ns b m) : (hidT s.heap H).Ns b m := by
  obtain ⟨o, es, ep, e, d, r⟩ := n
  exact ⟨o, es, ep, S.dict ha hT e d, d, r⟩
theorem Start.kin (S : Start K P w s.heap cs a H) (KX : K.In s.heap) (nT : ∀ p ∈ cs, K.lookup p.2 = none) : K.In (hidT s.heap H) := fun b o e => hidT_get (KX b o e) (by
  cases q : H b with
  | none => rfl
  | some u =>
    exfalso
    rcases S.few b (by rw [q]; simp) with z | z
    · subst z
      rw [S.out (by rw [q]; simp)] at e
      cases e
    · obtain ⟨p, hp, rfl⟩ := List.mem_map.mp z
      rw [show K.lookup p.2 = none from nT p hp] at e
      cases e)
theorem Start.tab (S : Start K P w s.heap cs a H) (ha : s.heap.get? a = some { cls := .type "list", data := .seq vs.toArray }) (hT : ∀ p ∈ cs, s.heap.get? p.2 = some { cls := .none, data := .fields #[] }) (hns : s.heap.Ns mainGlobals mg) (C : ∀ p ∈ cs, PySem.W.CodeHd s.heap p.1 p.2)
    (hbm : ∃ (bm : Addr) (ob : Obj), mg "__builtins__" = some (.ref bm) ∧ bm ≠ builtinsNs ∧ s.heap.get? bm = some ob ∧ ob.cls = .type "module" ∧ ob.dict = some builtinsNs ∧ ob.data = .plain) : ∀ p ∈ cs, TabB (hidT s.heap H) mg p.1 p.2 := fun p hp => by
  have hTp := hT p hp
  have mainD : ∃ o es ep, s.heap.get? mainGlobals = some o ∧ o.data = .dict es ep := by
    obtain ⟨o, es, ep, e, d, _⟩ := hns
    exact ⟨o, es, ep, e, d⟩
  obtain ⟨om, em, epm, e1, d1⟩ := mainD
  refine ⟨?_, ?_, fun z => ?_⟩
  · obtain ⟨o, us, file, tf, flags, tg, inF, text, tt, e, r1, r2, r3, r4, r5, r6, r7, r8, hne⟩ := C p hp
    refine ⟨o, us, file, tf, flags, tg, inF, text, tt, hidT_get e (S.free ha hT e (fun v n z => by rw [r2] at z; cases z) fun z => ?_), r1, r2, r3, r4, r5, r6, r7, r8, hne⟩
    rw [r2] at z
    cases z
    simp at r3
  · obtain ⟨bm, ob, b1, b2, b3, b4, b5, b6⟩ := hbm
    refine ⟨bm, ob, b1, b2, fun q => ?_, fun q => ?_, hidT_get b3 (S.free ha hT b3 (fun v n z => by rw [b6] at z; cases z) fun z => by rw [b6] at z; cases z), b4, b5, b6⟩
    · rw [q, e1] at b3
      cases b3
      rw [d1] at b6
      cases b6
    · rw [q, hTp] at b3
      cases b3
      cases b6
  · rw [z, hTp] at e1
    cases e1
    cases d1
theorem Start.env (S : Start K P w s.heap cs a H) (ha : s.heap.get? a = some { cls := .type "list", data := .seq vs.toArray }) (hT : ∀ p ∈ cs, s.heap.get? p.2 = some { cls := .none, data := .fields #[] }) (KX : K.In s.heap) (nT : ∀ p ∈ cs, K.lookup p.2 = none) (hns : s.heap.Ns mainGlobals mg) (hb : s.heap.Ns builtinsNs mb)
    (hbb : ∀ x : Str, x ≠ "__name__" → mb x = bootBuiltins x) (hlim : s.heap.NoLimit) (hg : s.gens = #[]) : Env0 P w K mg (hidT s.heap H) callerA [] s H := by
  obtain ⟨mc, l1, l2⟩ := hlim
  exact ⟨rfl, ⟨S.kin KX nT, S.nsp ha hT hns, ⟨mb, S.nsp ha hT hb, hbb⟩, mc, S.nsp ha hT l1, l2⟩, fun b o e => of_hidT e, Nat.le_of_eq (hidT_size _ _), trivial, fun b hb => absurd (show b ∈ ([] : List Addr) from hb) (by simp), S.ok, .of_eq hg⟩
/-- the call, from such a heap -/
theorem Start.call {CX : CXT} (S : Start K P w s.heap cs a H) (ha : s.heap.get? a = some { cls := .type "list", data := .seq vs.toArray }) (hT : ∀ p ∈ cs, s.heap.get? p.2 = some { cls := .none, data := .fields #[] }) (KX : K.In s.heap) (nT : ∀ p ∈ cs, K.lookup p.2 = none) (hns : s.heap.Ns mainGlobals mg) (hb : s.heap.Ns builtinsNs mb)
    (hbb : ∀ x : Str, x ≠ "__name__" → mb x = bootBuiltins x) (hlim : s.heap.NoLimit) (hg : s.gens = #[]) (C : ∀ p ∈ cs, PySem.W.CodeHd s.heap p.1 p.2)
    (hbm : ∃ (bm : Addr) (ob : Obj), mg "__builtins__" = some (.ref bm) ∧ bm ≠ builtinsNs ∧ s.heap.get? bm = some ob ∧ ob.cls = .type "module" ∧ ob.dict = some builtinsNs ∧ ob.data = .plain) (hr : Room k callerA)
    (F : ∀ base : Heap, K.In base → base.Ns mainGlobals mg → (∀ p ∈ cs, TabB base mg p.1 p.2) → FnG P w K mg base CX k fa fd [x] sp) (hbind : ∀ (s : Shared) (u : Value), BindsTo s fd ⟨[u], []⟩ [(x, u)]) (hsp : sp [.ref a] H (fun v _ => v = .bl true) fun _ _ _ => False)
    (hCX : ∀ e s', CX [] H s (fun _ _ _ => False) e s' → False) :
    codeAny (model P w) callerA (.call (.ref fa) ⟨[.ref a], []⟩) (fun r s' => r = .ok (.ret (.bool true)) ∧ OldK s.heap s'.heap ∧ s'.os = s.os ∧ AllBare s'.gens) s := by
  refine codeAny_mono ((F _ (S.kin KX nT) (S.nsp ha hT hns) (S.tab ha hT hns C hbm)).run callerA [] s H ⟨[.ref a], []⟩ [.ref a] [.ref a] _ _ ⟨hr, rfl⟩ (S.env ha hT KX nT hns hb hbb hlim hg) (hbind s (.ref a)) (.cons rfl .nil) hsp) fun r s' h => ?_
  match r, h with
  | .error e, h => exact (hCX e s' h).elim
  | .ok .next, h => exact h.elim
  | .ok .brk, h => exact h.elim
  | .ok .cont, h => exact h.elim
  | .ok (.ret u), ⟨v, H', os, bare, un, hok', rv, q⟩ =>
    have q : v = .bl true := q
    subst q
    obtain rfl : u = Value.bool true := rv
    have key : ∀ b o, b ∉ cs.map (·.2) → s.heap.get? b = some o → s'.heap.get? b = some o := fun b o nb e => by
      rcases S.sh b with z | z | ⟨ob, xs, z⟩
      · exact un.keep b o e z (fun y => absurd (show b ∈ ([] : List Addr) from y) (by simp)) (by simp)
      · exact absurd z nb
      · obtain ⟨e1, _⟩ := S.ok b _ z
        obtain ⟨e2, _⟩ := hok' b _ (un.frzs b ob _ z)
        rw [e] at e1
        cases e1
        exact e2
    have grown : ∀ p ∈ cs, ∃ more : Array Value, s'.heap.get? p.2 = some { cls := .none, data := .fields more } := fun p hp => by
      obtain ⟨more, z⟩ := un.tbls p.2 #[] (S.tb p hp)
      exact ⟨_, hok' p.2 _ z⟩
    refine ⟨rfl, ⟨fun b o e => ?_, fun b o e => ?_⟩, os, bare⟩
    · by_cases hb : b ∈ cs.map (·.2)
      · obtain ⟨p, hp, rfl⟩ := List.mem_map.mp hb
        obtain ⟨more, hm⟩ := grown p hp
        rw [show s.heap.get? p.2 = some _ from hT p hp] at e
        cases e
        exact .inr (.inl ⟨((C p hp).tab (hT p hp)).isCodeTable, rfl, #[], more, rfl, by rw [Array.empty_append]; exact hm⟩)
      · exact .inl (key b o hb e)
    · by_cases hb : b ∈ cs.map (·.2)
      · obtain ⟨p, hp, rfl⟩ := List.mem_map.mp hb
        obtain ⟨more, hm⟩ := grown p hp
        exact ⟨_, hm⟩
      · exact ⟨o, key b o hb e⟩
/-- the tables alone, or the script too -/
def tabH (cs : List (Addr × Addr)) : Hp := fun b => if b ∈ cs.map (·.2) then some (.tbl #[]) else none
def lawH (cs : List (Addr × Addr)) (a : Addr) (vs : List Value) (ns : List Int) : Hp := fun b => if b = a then some (.frz { cls := .type "list", data := .seq vs.toArray } (.lst (ns.map V.int))) else tabH cs b
theorem tabH_in {cs : List (Addr × Addr)} {b : Addr} (h : b ∈ cs.map (·.2)) : tabH cs b = some (.tbl #[]) := if_pos h
theorem tabH_out {cs : List (Addr × Addr)} {b : Addr} (h : b ∉ cs.map (·.2)) : tabH cs b = none := if_neg h
theorem no_tab (ha : s.heap.get? a = some { cls := .type "list", data := .seq vs.toArray }) (hT : ∀ p ∈ cs, s.heap.get? p.2 = some { cls := .none, data := .fields #[] }) : a ∉ cs.map (·.2) := fun z => by
  obtain ⟨p, hp, rfl⟩ := List.mem_map.mp z
  have t := hT p hp
  rw [show s.heap.get? p.2 = some _ from ha] at t
  cases t
theorem law_callG {CX : CXT} (KX : K.In s.heap) (hns : s.heap.Ns mainGlobals mg) (hb : s.heap.Ns builtinsNs mb) (hbb : ∀ x : Str, x ≠ "__name__" → mb x = bootBuiltins x) (hlim : s.heap.NoLimit) (hg : s.gens = #[])
    (hT : ∀ p ∈ cs, s.heap.get? p.2 = some { cls := .none, data := .fields #[] }) (nT : ∀ p ∈ cs, K.lookup p.2 = none) (C : ∀ p ∈ cs, PySem.W.CodeHd s.heap p.1 p.2)
    (hbm : ∃ (bm : Addr) (ob : Obj), mg "__builtins__" = some (.ref bm) ∧ bm ≠ builtinsNs ∧ s.heap.get? bm = some ob ∧ ob.cls = .type "module" ∧ ob.dict = some builtinsNs ∧ ob.data = .plain)
    (ha : s.heap.get? a = some { cls := .type "list", data := .seq vs.toArray }) (hi : IntsAre vs ns) (hl : ns.length ≤ sizeLine) (hr : Room k callerA)
    (F : ∀ base : Heap, K.In base → base.Ns mainGlobals mg → (∀ p ∈ cs, TabB base mg p.1 p.2) → FnG P w K mg base CX k fa fd [x] sp) (hbind : ∀ (s : Shared) (u : Value), BindsTo s fd ⟨[u], []⟩ [(x, u)])
    (hsp : ∀ H : Hp, (∀ p ∈ cs, H p.2 = some (.tbl #[])) → SqL K H a (ns.map V.int) → sp [.ref a] H (fun v _ => v = .bl true) fun _ _ _ => False)
    (hCX : ∀ H e s', CX [] H s (fun _ _ _ => False) e s' → False) :
    codeAny (model P w) callerA (.call (.ref fa) ⟨[.ref a], []⟩) (fun r s' => r = .ok (.ret (.bool true)) ∧ OldK s.heap s'.heap ∧ s'.os = s.os ∧ AllBare s'.gens) s := by
  have rv := vals_ints hi
  have aT := no_tab ha hT
  have inT : ∀ p ∈ cs, p.2 ∈ cs.map (·.2) := fun p hp => List.mem_map.mpr ⟨p, hp, rfl⟩
  have tok : ∀ b u, tabH cs b = some u → ObjOk P w (tabH cs) s.heap b u := fun b u z => by
    by_cases h : b ∈ cs.map (·.2)
    · rw [tabH_in h] at z
      cases z
      obtain ⟨p, hp, rfl⟩ := List.mem_map.mp h
      exact hT p hp
    · rw [tabH_out h] at z
      cases z
  cases hk : K.lookup a with
  | some o =>
    have e := KX a o hk
    rw [ha] at e
    cases e
    have S : Start K P w s.heap cs a (tabH cs) := {
      tb := fun p hp => tabH_in (inT p hp)
      sh := fun b => by
        by_cases h : b ∈ cs.map (·.2)
        · exact .inr (.inl h)
        · exact .inl (tabH_out h)
      ok := tok
      few := fun b z => by
        by_cases h : b ∈ cs.map (·.2)
        · exact .inr h
        · exact absurd (tabH_out h) z
      out := fun z => absurd (tabH_out aT) z }
    exact S.call ha hT KX nT hns hb hbb hlim hg C hbm hr F hbind (hsp _ S.tb (.inr ⟨_, vs.toArray, _, hk, rfl, rfl, rfl, by rw [List.size_toArray, hi.length]; exact hl, by simpa using rv⟩)) (hCX _)
  | none =>
    have la : lawH cs a vs ns a = some (.frz { cls := .type "list", data := .seq vs.toArray } (.lst (ns.map V.int))) := if_pos rfl
    have lo : ∀ b, b ≠ a → lawH cs a vs ns b = tabH cs b := fun b h => if_neg h
    have pa : ∀ p ∈ cs, p.2 ≠ a := fun p hp z => aT (z ▸ inT p hp)
    have S : Start K P w s.heap cs a (lawH cs a vs ns) := {
      tb := fun p hp => (lo _ (pa p hp)).trans (tabH_in (inT p hp))
      sh := fun b => by
        by_cases h : b = a
        · subst h; exact .inr (.inr ⟨_, _, la⟩)
        · rw [lo b h]
          by_cases h2 : b ∈ cs.map (·.2)
          · exact .inr (.inl h2)
          · exact .inl (tabH_out h2)
      ok := fun b u z => by
        by_cases h : b = a
        · subst h
          rw [la] at z
          cases z
          exact ⟨ha, by rw [List.length_map]; exact hl, vs, _, rv, ha⟩
        · rw [lo b h] at z
          by_cases h2 : b ∈ cs.map (·.2)
          · rw [tabH_in h2] at z
            cases z
            obtain ⟨p, hp, rfl⟩ := List.mem_map.mp h2
            exact hT p hp
          · rw [tabH_out h2] at z
            cases z
      few := fun b z => by
        by_cases h : b = a
        · exact .inl h
        · rw [lo b h] at z
          by_cases h2 : b ∈ cs.map (·.2)
          · exact .inr h2
          · exact absurd (tabH_out h2) z
      out := fun _ => hk }
    exact S.call ha hT KX nT hns hb hbb hlim hg C hbm hr F hbind (hsp _ S.tb (.inl (.inr ⟨_, la⟩))) (hCX _)
/-- what is known of the law's promise at the head's heap -/
def LawAtG (l : PySem.W.OpenLaw) (w : World) (K : PySem.W.Frag) (CX : CXT) (k n : Nat) (x : Str) (mg : Str → Option Value) (fa : Addr) (h : Heap) : Prop :=
  ∃ (fd : FuncData) (cs : List (Addr × Addr)) (sp : Sp), (∀ p ∈ cs, h.get? p.2 = some { cls := .none, data := .fields #[] }) ∧ (∀ p ∈ cs, K.lookup p.2 = none) ∧ (∀ p ∈ cs, PySem.W.CodeHd h p.1 p.2) ∧ (∀ (s : Shared) (u : Value), BindsTo s fd ⟨[u], []⟩ [(x, u)]) ∧
    (∀ (H : Hp) (a : Addr) (ns : List Int), ns.length ≤ n → (∀ z ∈ ns, Builtin.Int.intBits z ≤ 1048576) → (∀ p ∈ cs, H p.2 = some (.tbl #[])) → SqL K H a (ns.map V.int) → sp [.ref a] H (fun v _ => v = .bl true) fun _ _ _ => False) ∧
    ∀ base : Heap, K.In base → base.Ns mainGlobals mg → (∀ p ∈ cs, TabB base mg p.1 p.2) → FnG l.prog w K mg base CX k fa fd [x] sp
theorem walk_ofG {l : PySem.W.OpenLaw} {n k : Nat} {q : Program} {loose : List Str} {XP : (Str → Option Value) → Heap → Prop} {YP : World → Heap → Prop} {d : DefRec} {K : Params → PySem.W.Frag} {CX : World → CXT} {x : Str}
    (hn : l.most = some n) (hn2 : n ≤ sizeLine) (hdf : d.params.defaults = []) (hr : Room k callerA) (hY : ∀ (w : World) (h : Heap), YP w h → (K w.params).In h)
    (F : ∀ (w : World) (mg : Str → Option Value) (fa : Addr) (h : Heap), YP w h → (K w.params).In h → h.Ns mainGlobals mg → mg d.name = some (.ref fa) → LawAtG l w (K w.params) (CX w) k n x mg fa h)
    (hCX : ∀ (w : World) (H : Hp) (s : Shared) (e : Value) (s' : Shared), CX w [] H s (fun _ _ _ => False) e s' → False) :
    PySem.W.WalkO q loose XP YP l.row.toRowW d [] (fun f vs => PySem.call f vs) :=
  Att.attach_callB hn hdf fun w s₀ s₁ mg mb fa o pm cd doc a vs ns G Y ho hd hcd hmg hobj hints hlen hbits hg => by
    have KX := hY w _ Y
    obtain ⟨fd, cs, sp, hT, nT, C, hb, hsp, hF⟩ := F w mg fa _ Y KX G.T.g hmg
    exact law_callG KX G.T.g G.T.b G.T.builtins G.T.nolimit hg hT nT C G.T.bmain hobj hints (Nat.le_trans hlen hn2) hr hF hb (fun H hH hS => hsp H a ns hlen hbits hH hS) fun H e s' => hCX w H s₁ e s'
end
end DL
/-! DL, part s: the end: the law's def by its plain law. -/
namespace DL
open PySem L2
/-- the tables of the defs of these names -/
def tabT (K : PySem.W.Frag) (xs : List Str) : List (Addr × Str) := xs.filterMap fun x => (PySem.W.tabIn K x).map fun q => (q.2, (x ++ ".<locals>.") ++ "<lambda>")
def tabC (K : PySem.W.Frag) (xs : List Str) : List (Addr × Addr) := xs.filterMap fun x => PySem.W.tabIn K x
@[reducible] def tbOf (K : PySem.W.Frag) (xs : List Str) : Tb := ⟨tabT K xs⟩
def tabsOk (K : PySem.W.Frag) (ts : List Addr) (xs : List Str) : Bool :=
  xs.all fun x => match PySem.W.tabIn K x with
  | some (c, P) => PySem.W.codeHdIn K c P && ts.contains P && (K.lookup P).isNone && xs.all fun y => match PySem.W.tabIn K y with
    | some (_, P') => P != P' || decide (y = x)
    | none => true
  | none => false
theorem tabsOk_at {K : PySem.W.Frag} {ts : List Addr} {xs : List Str} (h : tabsOk K ts xs = true) {x : Str} (hx : x ∈ xs) : ∃ c P, PySem.W.tabIn K x = some (c, P) ∧ PySem.W.codeHdIn K c P = true ∧ P ∈ ts ∧ K.lookup P = none ∧ (P, (x ++ ".<locals>.") ++ "<lambda>") ∈ tabT K xs ∧ ∀ p ∈ tabT K xs, p.1 = P → p.2 = (x ++ ".<locals>.") ++ "<lambda>" := by
  have h1 := List.all_eq_true.mp h x hx
  cases ht : PySem.W.tabIn K x with
  | none => rw [ht] at h1; cases h1
  | some q =>
    obtain ⟨c, P⟩ := q
    rw [ht] at h1
    simp only [Bool.and_eq_true, Option.isNone_iff_eq_none, List.contains_iff_mem] at h1
    obtain ⟨⟨⟨h2, h3⟩, h4⟩, h5⟩ := h1
    refine ⟨c, P, rfl, h2, h3, h4, ?_, fun p hp e => ?_⟩
    · exact List.mem_filterMap.mpr ⟨x, hx, by rw [ht]; rfl⟩
    · obtain ⟨y, hy, e2⟩ := List.mem_filterMap.mp hp
      have h6 := List.all_eq_true.mp h5 y hy
      cases hty : PySem.W.tabIn K y with
      | none => rw [hty] at e2; cases e2
      | some r =>
        rw [hty] at e2 h6
        have e2 : some (r.2, (y ++ ".<locals>.") ++ "<lambda>") = some p := e2
        cases e2
        have h6 : (P != r.2 || decide (y = x)) = true := h6
        simp only [Bool.or_eq_true, bne_iff_ne, ne_eq, decide_eq_true_eq] at h6
        rcases h6 with z | z
        · exact absurd e.symm z
        · rw [z]
def noT (H : Hp) : Hp := fun b => match H b with
  | some (.tbl _) => none
  | o => o
theorem noT_le (H : Hp) : LeH (noT H) H := fun b o e => by
  unfold noT at e
  split at e
  · cases e
  · exact e
theorem noT_at {H : Hp} {b : Addr} {o : HO} (e : H b = some o) (n : notTb o) : noT H b = some o := by
  unfold noT
  rw [e]
  split
  · rename_i ps z; exact absurd (Option.some.inj z) (n ps)
  · rfl
theorem noT_no (H : Hp) (b : Addr) (ps : Array Value) : noT H b ≠ some (.tbl ps) := fun z => by
  unfold noT at z
  split at z
  · cases z
  · rename_i n
    exact n ps z
@[reducible] def xbOf (K : PySem.W.Frag) : Xb := ⟨xAd K⟩
theorem law_walk {l : PySem.W.OpenLaw} {q : Program} {loose : List Str} {XP : (Str → Option Value) → Heap → Prop} {YP : World → Heap → Prop} {d : DefRec} {K : Params → PySem.W.Frag} {x : Str} {ts : List Addr} (xs : List Str) (Pr : Nat → CDef) (k i : Nat)
    (hn : l.most = some 63) (hdf : d.params.defaults = []) (hr : Room (2 * k + 2) callerA) (hY : ∀ (w : World) (h : Heap), YP w h → (K w.params).In h ∧ ∀ P ∈ ts, h.get? P = some { cls := .none, data := .fields #[] }) (hok : ∀ p : Params, tabsOk (K p) ts xs = true)
    (plain : ∀ ns : List Int, ns.length ≤ 63 → ∃ S', calF Pr k i [.val (.frl (ns.map D.int))] [] = .ok (.val (.bl true)) S')
    (F : ∀ (w : World) (mg : Str → Option Value) (fa : Addr) (h : Heap), (K w.params).In h → h.Ns mainGlobals mg → mg d.name = some (.ref fa) →
      ∃ fd : FuncData, (∀ (s : Shared) (u : Value), BindsTo s fd ⟨[u], []⟩ [(x, u)]) ∧ ∀ base : Heap, (K w.params).In base → base.Ns mainGlobals mg →
        (∀ y ∈ xs, ∃ c P, PySem.W.tabIn (K w.params) y = some (c, P) ∧ LamX.TabB base mg c P ∧ (P, (y ++ ".<locals>.") ++ "<lambda>") ∈ tabT (K w.params) xs ∧ ∀ p ∈ tabT (K w.params) xs, p.1 = P → p.2 = (y ++ ".<locals>.") ++ "<lambda>") →
        FnG l.prog w (K w.params) mg base (L2.CX l.prog w) (2 * k + 2) fa fd [x] (@spF (xbOf (K w.params)) (tbOf (K w.params) xs) (K w.params) (xAd (K w.params)) (calF Pr k i))) :
    PySem.W.WalkO q loose XP YP l.row.toRowW d [] (fun f vs => PySem.call f vs) := by
  refine walk_ofG (n := 63) (k := 2 * k + 2) (x := x) (CX := fun w => L2.CX l.prog w) hn (by decide) hdf hr (fun w h Y => (hY w h Y).1) (fun w mg fa h Y KX G hmg => ?_) fun w H s e s' z => ?_
  · obtain ⟨fd, hb, hF⟩ := F w mg fa h KX G hmg
    have hT := (hY w h Y).2
    have at_ : ∀ p ∈ tabC (K w.params) xs, ∃ y ∈ xs, PySem.W.tabIn (K w.params) y = some p := fun p hp => by
      obtain ⟨y, hy, e⟩ := List.mem_filterMap.mp hp
      exact ⟨y, hy, e⟩
    have facts : ∀ p ∈ tabC (K w.params) xs, PySem.W.codeHdIn (K w.params) p.1 p.2 = true ∧ p.2 ∈ ts ∧ (K w.params).lookup p.2 = none := fun p hp => by
      obtain ⟨y, hy, e⟩ := at_ p hp
      obtain ⟨c, P, e1, e2, e3, e4, _⟩ := tabsOk_at (hok w.params) hy
      rw [e] at e1
      cases e1
      exact ⟨e2, e3, e4⟩
    refine ⟨fd, tabC (K w.params) xs, @spF (xbOf (K w.params)) (tbOf (K w.params) xs) (K w.params) (xAd (K w.params)) (calF Pr k i), fun p hp => hT _ (facts p hp).2.1, fun p hp => (facts p hp).2.2, fun p hp => PySem.W.codeHd_of_K KX (facts p hp).1, hb, fun H a ns hl _ hH hS => ?_, fun base hKb hnsb hTB => hF base hKb hnsb fun y hy => ?_⟩
    · obtain ⟨S', hp⟩ := plain ns hl
      have dr : ∀ (G : Hp) (ns : List Int), Drs (K w.params) G (ns.map V.int) (ns.map D.int) := by
        intro G ns
        induction ns with
        | nil => exact .nil
        | cons a r ih => exact .cons (.int a) ih
      have hS' : SqL (K w.params) (noT H) a (ns.map V.int) := by
        rcases hS with (q | ⟨o, q⟩) | q
        · exact .inl (.inl (noT_at q fun ps z => by cases z))
        · exact .inl (.inr ⟨o, noT_at q fun ps z => by cases z⟩)
        · exact .inr q
      have st : @Sto (tbOf (K w.params) xs) (K w.params) [] H ⟨noT H, []⟩ := @Sto.mk (tbOf (K w.params) xs) _ _ _ _ (noT_le H) rfl List.nodup_nil (fun a h => by simp at h) (fun k a c h => by simp at h) (fun p hp => by
        obtain ⟨y, hy, e⟩ := List.mem_filterMap.mp hp
        cases hty : PySem.W.tabIn (K w.params) y with
        | none => rw [hty] at e; cases e
        | some r =>
          rw [hty] at e
          have e : some (r.2, (y ++ ".<locals>.") ++ "<lambda>") = some p := e
          cases e
          exact LamX.TabS.nil (hH r (List.mem_filterMap.mpr ⟨y, hy, hty⟩))) (fun b ps z => by
        exact noT_no H b ps z)
      letI : Xb := xbOf (K w.params)
      refine ⟨⟨noT H, []⟩, [.val (.frl (ns.map D.int))], [], .cons (.frl hS' (dr _ ns)) .nil, st, ?_⟩
      rw [hp]
      intro v g' H' _ _ rv
      change Dr _ _ v (.bl true) at rv
      cases rv
      rfl
    · obtain ⟨c, P, e1, e2, e3, e4, e5, e6⟩ := tabsOk_at (hok w.params) hy
      exact ⟨c, P, e1, hTB (c, P) (List.mem_filterMap.mpr ⟨y, hy, e1⟩), e5, e6⟩
  · exact cx_false z
theorem con_of {K : PySem.W.Frag} {mg : Str → Option Value} : ∀ {glb : List (Str × D)}, (∀ p ∈ glb, ∃ u v, mg p.1 = some u ∧ RelV v u ∧ ∀ G, Dr K G v p.2) → ∀ x d, glb.lookup x = some d → ∃ u v, mg x = some u ∧ RelV v u ∧ ∀ G, Dr K G v d
  | [], _, _, _, h => by cases h
  | (n, e) :: r, hh, x, d, h => by
    rw [List.lookup_cons] at h
    split at h
    · rename_i hx
      cases h
      have := hh (n, e) List.mem_cons_self
      rw [← eq_of_beq hx] at this
      exact this
    · exact con_of (fun p hp => hh p (List.mem_cons_of_mem _ hp)) _ _ h
theorem con_int {K : PySem.W.Frag} {i : Int} {t : Tok} {o : Option Value} (h : o = some (.int i t)) : ∃ u v, o = some u ∧ RelV v u ∧ ∀ G, Dr K G v (.int i) := ⟨_, .int i, h, ⟨t, rfl⟩, fun _ => .int i⟩
theorem con_str {K : PySem.W.Frag} {s : Str} {l : List Nat} {t : Tok} {o : Option Value} (h : o = some (.str s t)) (e : s = ⟨l.toArray⟩) : ∃ u v, o = some u ∧ RelV v u ∧ ∀ G, Dr K G v (.str l) := ⟨_, .str s, h, ⟨t, rfl⟩, fun _ => by rw [e]; exact .str l⟩
theorem prC_of {es : List (Nat × Ent)} {cs : List (Nat × CDef)} (h : (es.map fun p => (p.1, p.2.cd)) = cs) : ∀ f E, es.lookup f = some E → prC cs f = E.cd := by
  subst h
  intro f E h
  have : ∀ l : List (Nat × Ent), l.lookup f = some E → (l.map fun p => (p.1, p.2.cd)).lookup f = some E.cd := by
    intro l
    induction l with
    | nil => intro h; cases h
    | cons p r ih =>
      obtain ⟨n, e⟩ := p
      intro h
      rw [List.lookup_cons] at h
      rw [List.map_cons, List.lookup_cons]
      cases hq : f == n with
      | true => rw [hq] at h; cases h; rfl
      | false => rw [hq] at h; exact ih h
  unfold prC
  rw [this es h]
  rfl
theorem pr_sub [xb : Xb] [Tb] {es : List (Nat × Ent)} {Pr : Nat → CDef} (h : ∀ p ∈ es, Pr p.1 = p.2.cd) : ∀ f E, es.lookup f = some E → Pr f = E.cd := fun f E e => h (f, E) (lookup_mem e)
/-- a tuple of texts -/
inductive Txts : List Value → List (List Nat) → Prop
  | nil : Txts [] []
  | cons {s : Str} {t : Tok} {l : List Nat} {vs : List Value} {ls : List (List Nat)} : s = ⟨l.toArray⟩ → Txts vs ls → Txts (.str s t :: vs) (l :: ls)
theorem con_tup {K : PySem.W.Frag} {a : Addr} {vs : List Value} {ls : List (List Nat)} {od : Option Addr} {n : Nat} {sl : Array (Option Value)} {o : Option Value} (h : o = some (.ref a)) (hl : K.lookup a = some ⟨.type "tuple", od, .seq vs.toArray n, sl⟩) (ht : Txts vs ls) (hs : vs.length ≤ 1000) :
    ∃ u v, o = some u ∧ RelV v u ∧ ∀ G, Dr K G v (.tup (ls.map D.str)) := by
  have key : ∀ {vs : List Value} {ls : List (List Nat)}, Txts vs ls → ∀ G, Vals (ls.map fun l => V.str ⟨l.toArray⟩) vs ∧ Drs K G (ls.map fun l => V.str ⟨l.toArray⟩) (ls.map D.str) := by
    intro vs ls h G
    induction h with
    | nil => exact ⟨.nil, .nil⟩
    | cons e _ ih => exact ⟨.cons ⟨_, by rw [e]⟩ ih.1, .cons (.str _) ih.2⟩
  refine ⟨_, .ref a, h, rfl, fun G => ?_⟩
  obtain ⟨k1, k2⟩ := key ht G
  refine .tup (.inr ⟨_, _, _, hl, rfl, rfl, ?_, by simpa using k1⟩) k2
  show vs.toArray.size ≤ sizeLine
  rw [sizeLine_eq]
  simp
  omega
end DL
/-! DL, part t: plain lemmas for what a core computes. -/
namespace DL
/-! ### by simp -/
section
variable {α β : Type} {cal : Nat → Fn}
theorem ints_map0 (l : List Int) : intsOf (l.map D.int) = some l := by
  induction l with
  | nil => rfl
  | cons b r ih => show (match intsOf (r.map D.int) with | some l => some (b :: l) | none => none) = _; rw [ih]
@[simp] theorem SZ_eq : SZ = 16777216 := id rfl
theorem small_lt {a : Int} (h : -18446744073709551616 < a) (k : a < 18446744073709551616) : small64 a = true := by simp [small64, h, k]
theorem bnd_e (m : M α) (f : α → M β) (e : En) : bnd m f e = match m e with | .ok a e' => f a e' | .exc x e' => .exc x e' | .stuck => .stuck := rfl
/-- a sign that a thing is not to be looked into -/
inductive Tag {γ : Type} (x : γ) : Type
  | mk
/-- what is done behind a first run -/
def obind (o : Out α) (f : α → M β) (_ : Tag f) : Out β := match o with
  | .ok a e => f a e
  | .exc x e => .exc x e
  | .stuck => .stuck
@[simp ↓] theorem bnd_o (m : M α) (f : α → M β) (e : En) : bnd m f e = obind (m e) f .mk := id rfl
@[simp] theorem obind_ok (a : α) (f : α → M β) (e : En) (t : Tag f) : obind (.ok a e) f t = f a e := id rfl
@[simp] theorem obind_exc (x : Xn) (f : α → M β) (e : En) (t : Tag f) : obind (.exc x e) f t = .exc x e := id rfl
@[simp] theorem obind_stuck (f : α → M β) (t : Tag f) : obind .stuck f t = .stuck := id rfl
@[simp] theorem req_t (m : M α) : req true m = m := id rfl
@[simp] theorem req_f (m : M α) : req false m = stk := id rfl
@[simp] theorem getS_e (i : Nat) (e : En) : getS i e = match e.sl[i]? with | some .und => .stuck | some s => .ok s e | none => .stuck := id rfl
@[simp] theorem setS_e (i : Nat) (s : Sl) (e : En) : setS i s e = .ok () ⟨e.sl.set i s, e.cs⟩ := id rfl
@[simp] theorem rdOf_v (d : D) : rdOf (.val d) = ret d := id rfl
@[simp] theorem rdOf_c (k : Nat) (e : En) : rdOf (.cel k) e = match e.cs[k]? with | some (.lst xs) => .ok (.lst xs) e | some (.dct ks vs) => .ok (.dct ks vs) e | _ => .stuck := id rfl
@[simp] theorem dOf_v (d : D) : dOf (.val d) = ret d := id rfl
@[simp] theorem dOfs_nil : dOfs [] = ret [] := id rfl
@[simp] theorem dOfs_cons (s : Sl) (r : List Sl) : dOfs (s :: r) = bnd (dOf s) fun d => bnd (dOfs r) fun l => ret (d :: l) := id rfl
@[simp] theorem rdOfs_nil : rdOfs [] = ret [] := id rfl
@[simp] theorem rdOfs_cons (s : Sl) (r : List Sl) : rdOfs (s :: r) = bnd (rdOf s) fun d => bnd (rdOfs r) fun l => ret (d :: l) := id rfl
@[simp] theorem getC_e (k : Nat) (e : En) : getC k e = match e.cs[k]? with | some c => .ok c e | none => .stuck := id rfl
@[simp] theorem setC_e (k : Nat) (c : Ce) (e : En) : setC k c e = .ok () ⟨e.sl, e.cs.set k c⟩ := id rfl
@[simp] theorem newC_e (c : Ce) (e : En) : newC c e = .ok (.cel e.cs.length) ⟨e.sl, e.cs ++ [c]⟩ := id rfl
@[simp] theorem newL_0 (xs : List D) : newL 0 xs = ret (.val (.lst xs)) := id rfl
@[simp] theorem newL_1 (xs : List D) : newL 1 xs = newC (.lst xs) := id rfl
@[simp] theorem newD_0 (ks vs : List D) : newD 0 ks vs = ret (.val (.dct ks vs)) := id rfl
@[simp] theorem newD_1 (ks vs : List D) : newD 1 ks vs = newC (.dct ks vs) := id rfl
@[simp] theorem newT_e (xs : List D) : newT xs = ret (.val (.tup xs)) := id rfl
@[simp ↓] theorem ev_var (i : Nat) : ev cal (.var i) = getS i := id rfl
@[simp ↓] theorem ev_lit (d : D) : ev cal (.lit d) = ret (.val d) := id rfl
@[simp ↓] theorem ev_bin (f : Nat) (k : BinK) (a b : CE) : ev cal (.bin f k a b) = bnd (ev cal a) fun s => bnd (ev cal b) fun t => bnd (rdOf s) fun x => bnd (rdOf t) fun y => binD f k x y := id rfl
@[simp ↓] theorem ev_neg (a : CE) : ev cal (.neg a) = bnd (ev cal a) fun s => bnd (intM s) fun i => ret (.val (.int (-i))) := id rfl
@[simp ↓] theorem ev_cmp (k : CmpK) (a b : CE) : ev cal (.cmp k a b) = bnd (ev cal a) fun s => bnd (ev cal b) fun t => cmpM k s t := id rfl
@[simp ↓] theorem ev_chain (k k' : CmpK) (a b c : CE) : ev cal (.chain k k' a b c) = bnd (ev cal a) fun s => bnd (ev cal b) fun t => bnd (cmpM k s t) fun r => chainM r (bnd (ev cal c) fun u => cmpM k' t u) := id rfl
@[simp ↓] theorem ev_and (a b : CE) : ev cal (.and2 a b) = bnd (ev cal a) fun s => andM s (ev cal b) := id rfl
@[simp ↓] theorem ev_or (a b : CE) : ev cal (.or2 a b) = bnd (ev cal a) fun s => orM s (ev cal b) := id rfl
@[simp ↓] theorem ev_not (a : CE) : ev cal (.not1 a) = bnd (ev cal a) notM := id rfl
@[simp ↓] theorem ev_ite (c a b : CE) : ev cal (.ite c a b) = bnd (bnd (ev cal c) truM) fun t => iteM t (ev cal a) (ev cal b) := id rfl
@[simp ↓] theorem ev_tup (es : List CE) : ev cal (.tup es) = bnd (evL cal es) fun ss => bnd (dOfs ss) fun ds => req (decide (ds.length ≤ SZ)) (newT ds) := id rfl
@[simp ↓] theorem ev_lst (f : Nat) (es : List CE) : ev cal (.lst f es) = bnd (evL cal es) fun ss => lstM f ss := id rfl
@[simp] theorem lstM_0 (ss : List Sl) : lstM 0 ss = bnd (dOfs ss) fun ds => req (decide (ds.length ≤ SZ)) (newL 0 ds) := id rfl
@[simp] theorem lstM_1 (ss : List Sl) : lstM 1 ss = bnd (dOfs ss) fun ds => req (decide (ds.length ≤ SZ)) (newL 1 ds) := id rfl
@[simp ↓] theorem ev_dct (f : Nat) (ks : List D) (vs : List CE) : ev cal (.dct f ks vs) = bnd (evL cal vs) fun ss => bnd (dOfs ss) fun ds => req (keysOk ks && decide (ks.length = ds.length) && decide (ks.length ≤ 15)) (newD f ks ds) := id rfl
@[simp ↓] theorem ev_din (neg : Bool) (k d : CE) : ev cal (.din neg k d) = bnd (ev cal k) fun t => bnd (ev cal d) fun s => lookM s t (dinM neg) := id rfl
@[simp ↓] theorem ev_dget (d k : CE) : ev cal (.dget d k) = bnd (ev cal d) fun s => bnd (ev cal k) fun t => lookM s t optS := id rfl
@[simp ↓] theorem ev_idx (a i : CE) : ev cal (.idx a i) = bnd (ev cal a) fun s => bnd (ev cal i) fun t => idxM s t := id rfl
@[simp ↓] theorem ev_slc (f : Nat) (a : CE) (lo hi : Option CE) : ev cal (.slc f a lo hi) = bnd (ev cal a) fun s => bnd (evO cal lo) fun l => bnd (evO cal hi) fun h => sliceM f s l h := id rfl
@[simp ↓] theorem ev_inRng (a n : CE) : ev cal (.inRng a n) = bnd (ev cal a) fun s => bnd (ev cal n) fun t => bnd (intM s) fun i => bnd (intM t) fun j => ret (.val (.bl (decide (0 ≤ i ∧ i < j)))) := id rfl
@[simp ↓] theorem ev_rev (f : Nat) (a : CE) : ev cal (.rev f a) = bnd (ev cal a) fun s => bnd (rdOf s) (revM f) := id rfl
@[simp] theorem revM_l (f : Nat) (xs : List D) : revM f (.lst xs) = newL f xs.reverse := id rfl
@[simp] theorem revM_f (f : Nat) (xs : List D) : revM f (.frl xs) = newL f xs.reverse := id rfl
@[simp ↓] theorem ev_call (f : Nat) (es : List CE) : ev cal (.call f es) = bnd (evL cal es) fun ss => callM (cal f) ss := id rfl
@[simp ↓] theorem ev_frz (a : CE) : ev cal (.frz a) = bnd (ev cal a) fun s => bnd (dOf s) fun d => ret (.val d) := id rfl
@[simp ↓] theorem ev_addR (a b : CE) : ev cal (.addR a b) = bnd (ev cal a) fun s => bnd (ev cal b) fun t => addRM s t := id rfl
@[simp ↓] theorem ev_lrng2 (f : Nat) (a b : CE) : ev cal (.lrng2 f a b) = bnd (ev cal a) fun s => bnd (ev cal b) fun t => bnd (intM s) fun i => bnd (intM t) fun j => req (decide (0 ≤ i) && decide (i ≤ SZ) && (decide (0 ≤ j) && decide (j ≤ SZ))) (newL f (rangeL i (j - i).toNat)) := id rfl
@[simp ↓] theorem ev_lrng (f : Nat) (a : CE) : ev cal (.lrng f a) = bnd (ev cal a) fun s => bnd (intM s) fun n => req (decide (0 ≤ n) && decide (n ≤ SZ)) (newL f (rangeL 0 n.toNat)) := id rfl
@[simp ↓] theorem ev_bi (b : Bi) (f : Nat) (es : List CE) : ev cal (.bi b f es) = bnd (evL cal es) fun ss => bnd (rdOfs ss) fun ds => biD f b ds := id rfl
@[simp ↓] theorem ev_mt (m : Mt) (f : Nat) (o : CE) (es : List CE) : ev cal (.mt m f o es) = bnd (ev cal o) fun s => bnd (tyM m s) fun _ => bnd (evL cal es) fun ss => mtM f m s ss := id rfl
@[simp ↓] theorem evL_nil : evL cal [] = ret [] := id rfl
@[simp ↓] theorem evL_cons (e : CE) (r : List CE) : evL cal (e :: r) = bnd (ev cal e) fun s => bnd (evL cal r) fun l => ret (s :: l) := id rfl
@[simp ↓] theorem evO_none : evO cal none = ret none := id rfl
@[simp ↓] theorem evO_some (e : CE) : evO cal (some e) = bnd (ev cal e) fun s => bnd (intM s) fun i => ret (some i) := id rfl
@[simp ↓] theorem ex_setv (i : Nat) (e : CE) : ex cal (.setv i e) = bnd (ev cal e) fun s => bnd (setS i s) fun _ => ret .nxt := id rfl
@[simp ↓] theorem ex_setT (l : List Tg) (e : CE) : ex cal (.setT l e) = bnd (ev cal e) fun s => bnd (valM s) fun d => bnd (bindT (.t l) d) fun _ => ret .nxt := id rfl
@[simp ↓] theorem ex_par (i j : Nat) (a b : CE) : ex cal (.par i j a b) = bnd (ev cal a) fun s => bnd (ev cal b) fun t => bnd (setS i s) fun _ => bnd (setS j t) fun _ => ret .nxt := id rfl
@[simp ↓] theorem ex_par3 (i j l : Nat) (a b c : CE) : ex cal (.par3 i j l a b c) = bnd (ev cal a) fun s => bnd (ev cal b) fun t => bnd (ev cal c) fun u => bnd (setS i s) fun _ => bnd (setS j t) fun _ => bnd (setS l u) fun _ => ret .nxt := id rfl
@[simp ↓] theorem ex_sub (o i e : CE) : ex cal (.sub o i e) = bnd (ev cal e) fun s => bnd (ev cal o) fun p => bnd (ev cal i) fun t => bnd (putM p t s) fun _ => ret .nxt := id rfl
@[simp ↓] theorem ex_dput (o i e : CE) : ex cal (.dput o i e) = bnd (ev cal e) fun s => bnd (ev cal o) fun p => bnd (ev cal i) fun t => bnd (putM2 p t s) fun _ => ret .nxt := id rfl
@[simp ↓] theorem ex_expr (e : CE) : ex cal (.expr e) = bnd (ev cal e) fun _ => ret .nxt := id rfl
@[simp ↓] theorem ex_aug (i : Nat) (k : BinK) (e : CE) : ex cal (.aug i k e) = bnd (getS i) fun s => bnd (ev cal e) fun t => bnd (rdOf s) fun x => bnd (rdOf t) fun y => bnd (augD k x y) fun r => bnd (setS i r) fun _ => ret .nxt := id rfl
@[simp ↓] theorem ex_rtn (e : CE) : ex cal (.rtn e) = bnd (ev cal e) fun s => ret (.rtn s) := id rfl
@[simp ↓] theorem ex_rtnN : ex cal .rtnN = ret (.rtn (.val .non)) := id rfl
@[simp ↓] theorem ex_ite (c : CE) (a b : List CS) : ex cal (.ite c a b) = bnd (bnd (ev cal c) truM) fun t => iteM t (exs cal a) (exs cal b) := id rfl
@[simp ↓] theorem ex_pas : ex cal .pas = ret .nxt := id rfl
@[simp ↓] theorem ex_brk : ex cal .brk = ret .brk := id rfl
@[simp ↓] theorem ex_cnt : ex cal .cnt = ret .cnt := id rfl
@[simp ↓] theorem ex_rse (c : Nat) : ex cal (.rse c) = fun e => .exc ⟨c, none⟩ e := id rfl
@[simp ↓] theorem ex_try (xs : List Nat) (c : Nat) (i : Option Nat) (b : List CS) (h : CS) : ex cal (.tryA xs c i b h) = tryM xs c (exs cal b) (tryK i (ex cal h)) := id rfl
@[simp ↓] theorem ev_isx (xs : List Nat) (c : Nat) (a : CE) : ev cal (.isx xs c a) = bnd (ev cal a) (isxM xs c) := id rfl
@[simp ↓] theorem ev_isxT (xs cs : List Nat) (a : CE) : ev cal (.isxT xs cs a) = bnd (ev cal a) (isxTM xs cs) := id rfl
@[simp] theorem isxTM_x (xs cs : List Nat) (n : Nat) (r : Option Int) : isxTM xs cs (.xc n r) = req (xs.contains n) (ret (.val (.bl (cs.any fun c => subX c n)))) := id rfl
@[simp] theorem isxM_x (xs : List Nat) (c n : Nat) (r : Option Int) : isxM xs c (.xc n r) = req (xs.contains n) (ret (.val (.bl (subX c n)))) := id rfl
theorem try_ok {xs : List Nat} {c : Nat} {m : M Fl} {k : Xn → M Fl} {e e' : En} {fl : Fl} (h : m e = .ok fl e') : tryM xs c m k e = .ok fl e' := by unfold tryM; rw [h]
theorem try_exc {xs : List Nat} {c : Nat} {m : M Fl} {k : Xn → M Fl} {e e' : En} {x : Xn} {R : Out Fl} (h : m e = .exc x e') (h1 : xs.contains x.nm = true) (h2 : catches c x.nm = true) (h3 : k x e' = R) : tryM xs c m k e = R := by
  have p : ∀ b1 b2, xs.contains x.nm = b1 → catches c x.nm = b2 → tryM xs c m k e = (match b1, b2 with
    | true, true => (k x e' : Out Fl)
    | true, false => .exc x e'
    | false, _ => .stuck) := fun b1 b2 q1 q2 => by subst q1; subst q2; unfold tryM; rw [h]; all_goals rfl
  exact (p true true h1 h2).trans h3
theorem exs_exc {s : CS} {r : List CS} {e e' : En} {x : Xn} (h : ex cal s e = .exc x e') : exs cal (s :: r) e = .exc x e' := by
  show bnd (ex cal s) _ e = _
  unfold bnd
  rw [h]
@[simp ↓] theorem exs_nil : exs cal [] = ret .nxt := id rfl
@[simp ↓] theorem exs_cs (s : CS) (r : List CS) : exs cal (s :: r) = bnd (ex cal s) fun fl => seqK fl (exs cal r) := id rfl
@[simp ↓] theorem seqK_n (k : M Fl) : seqK .nxt k = k := id rfl
@[simp ↓] theorem seqK_r (s : Sl) (k : M Fl) : seqK (.rtn s) k = ret (.rtn s) := id rfl
@[simp ↓] theorem seqK_b (k : M Fl) : seqK .brk k = ret .brk := id rfl
@[simp ↓] theorem seqK_c (k : M Fl) : seqK .cnt k = ret .cnt := id rfl
@[simp ↓] theorem iteM_t (a b : M α) : iteM true a b = a := id rfl
@[simp ↓] theorem iteM_f (a b : M α) : iteM false a b = b := id rfl
@[simp] theorem truM_b (b : Bool) : truM (.val (.bl b)) = ret b := id rfl
@[simp] theorem notM_b (b : Bool) : notM (.val (.bl b)) = ret (.val (.bl (!b))) := id rfl
@[simp ↓] theorem andM_t (k : M Sl) : andM (.val (.bl true)) k = k := id rfl
@[simp ↓] theorem andM_f (k : M Sl) : andM (.val (.bl false)) k = ret (.val (.bl false)) := id rfl
@[simp ↓] theorem orM_t (k : M Sl) : orM (.val (.bl true)) k = ret (.val (.bl true)) := id rfl
@[simp ↓] theorem orM_f (k : M Sl) : orM (.val (.bl false)) k = k := id rfl
@[simp ↓] theorem chainM_t (k : M Sl) : chainM (.val (.bl true)) k = k := id rfl
@[simp ↓] theorem chainM_f (k : M Sl) : chainM (.val (.bl false)) k = ret (.val (.bl false)) := id rfl
def selB {α : Type} (b : Bool) (x y : α) : α := match b with
  | true => x
  | false => y
@[simp] theorem selB_t (x y : α) : selB true x y = x := id rfl
@[simp] theorem selB_f (x y : α) : selB false x y = y := id rfl
@[simp] theorem selB_and (b c : Bool) (e : En) : selB b (Out.ok (Sl.val (.bl c)) e) (Out.ok (Sl.val (.bl false)) e) = Out.ok (Sl.val (.bl (b && c))) e := by cases b <;> rfl
@[simp] theorem selB_or (b c : Bool) (e : En) : selB b (Out.ok (Sl.val (.bl true)) e) (Out.ok (Sl.val (.bl c)) e) = Out.ok (Sl.val (.bl (b || c))) e := by cases b <;> rfl
@[simp ↓] theorem andM_b (b : Bool) (k : M Sl) (e : En) : andM (.val (.bl b)) k e = selB b (k e) (.ok (.val (.bl false)) e) := by cases b <;> rfl
@[simp ↓] theorem orM_b (b : Bool) (k : M Sl) (e : En) : orM (.val (.bl b)) k e = selB b (.ok (.val (.bl true)) e) (k e) := by cases b <;> rfl
@[simp ↓] theorem chainM_b (b : Bool) (k : M Sl) (e : En) : chainM (.val (.bl b)) k e = selB b (k e) (.ok (.val (.bl false)) e) := by cases b <;> rfl
@[simp] theorem intM_i (i : Int) : intM (.val (.int i)) = ret i := id rfl
@[simp] theorem add_i (f : Nat) (a b : Int) : binD f .add (.int a) (.int b) = ret (.val (.int (a + b))) := id rfl
@[simp] theorem sub_i (f : Nat) (a b : Int) : binD f .sub (.int a) (.int b) = ret (.val (.int (a - b))) := id rfl
@[simp] theorem mul_i (f : Nat) (a b : Int) : binD f .mul (.int a) (.int b) = req (small64 a || small64 b) (ret (.val (.int (a * b)))) := id rfl
@[simp] theorem fdiv_i (f : Nat) (a b : Int) : binD f .fdiv (.int a) (.int b) = req (decide (0 < b) && decide (b < 1073741824)) (ret (.val (.int (a / b)))) := id rfl
@[simp] theorem mod_i (f : Nat) (a b : Int) : binD f .mod (.int a) (.int b) = req (decide (0 < b)) (ret (.val (.int (a % b)))) := id rfl
@[simp] theorem pow_i (f : Nat) (a b : Int) : binD f .pow (.int a) (.int b) = req (decide (0 ≤ b) && decide (b ≤ 1000000) && decide (a.natAbs < 18446744073709551616)) (ret (.val (.int (a ^ b.toNat)))) := id rfl
@[simp] theorem add_s (f : Nat) (a b : List Nat) : binD f .add (.str a) (.str b) = req (decide (a.length + b.length ≤ SZ)) (ret (.val (.str (a ++ b)))) := id rfl
@[simp] theorem add_l (f : Nat) (a b : List D) : binD f .add (.lst a) (.lst b) = req (decide (a.length + b.length ≤ SZ)) (newL f (a ++ b)) := id rfl
@[simp] theorem add_t (f : Nat) (a b : List D) : binD f .add (.tup a) (.tup b) = req (decide (a.length + b.length ≤ SZ)) (ret (.val (.tup (a ++ b)))) := id rfl
@[simp] theorem atP_nat (xs : List α) (i : Nat) : atP xs (i : Int) = xs[i]? := by
  unfold atP ixP
  rw [if_pos (by omega)]
  by_cases h : i < xs.length
  · rw [if_pos (by omega)]; rfl
  · rw [if_neg (by omega), List.getElem?_eq_none (by omega)]
@[simp] theorem atP_ofNat (xs : List α) (i : Nat) : atP xs (no_index (OfNat.ofNat i) : Int) = xs[i]? := atP_nat xs i
@[simp] theorem optS_s (d : D) : optS (some d) = ret (.val d) := id rfl
@[simp] theorem optS_n : optS none = stk := id rfl
@[simp] theorem tyM_ac (k : Nat) (e : En) : tyM .append (.cel k) e = match e.cs[k]? with | some (.lst _) => .ok () e | some (.rls _) => .ok () e | _ => .stuck := id rfl
theorem append_v {f k : Nat} {d : D} {e : En} {xs : List D} (h : e.cs[k]? = some (.lst xs)) (hl : xs.length < 16777216) : mtM f .append (.cel k) [.val d] e = .ok (.val .non) ⟨e.sl, e.cs.set k (.lst (xs ++ [d]))⟩ := by
  simp [mtM, h, hl]
theorem append_last (f : Nat) (d : D) (sl : List Sl) (cs : List Ce) (xs : List D) (h : xs.length < 16777216) : mtM f .append (.cel cs.length) [.val d] ⟨sl, cs ++ [.lst xs]⟩ = .ok (.val .non) ⟨sl, cs ++ [.lst (xs ++ [d])]⟩ := by
  rw [append_v (xs := xs) (by simp) h]
  simp
@[simp] theorem append_e (f k : Nat) (d : D) (e : En) : mtM f .append (.cel k) [.val d] e = match e.cs[k]? with | some (.lst xs) => (if xs.length < 16777216 then .ok (.val .non) ⟨e.sl, e.cs.set k (.lst (xs ++ [d]))⟩ else .stuck) | _ => .stuck := by
  show bnd (getC k) _ e = _
  cases h : e.cs[k]? with
  | none => simp [h]
  | some c =>
    cases c <;> simp [h]
    case lst xs =>
      by_cases hl : xs.length < 16777216
      · simp [hl]
      · simp [hl]
@[simp] theorem extend_e (f k : Nat) (ys : List D) (e : En) : mtM f .extend (.cel k) [.val (.lst ys)] e = match e.cs[k]? with | some (.lst xs) => (if xs.length + ys.length ≤ 16777216 then .ok (.val .non) ⟨e.sl, e.cs.set k (.lst (xs ++ ys))⟩ else .stuck) | _ => .stuck := by
  simp only [mtM, rdOf_v, bnd_e]
  cases h : e.cs[k]? with
  | none => simp [h]
  | some c =>
    cases c <;> simp [h]
    case lst xs =>
      by_cases hl : xs.length + ys.length ≤ 16777216
      · simp [hl]
      · simp [hl]
@[simp] theorem popL_e (f k : Nat) (e : En) : mtM f .popL (.cel k) [] e = match e.cs[k]? with | some (.lst xs) => (match xs[xs.length - 1]? with | some d => .ok (.val d) ⟨e.sl, e.cs.set k (.lst xs.dropLast)⟩ | none => .stuck) | _ => .stuck := by
  show bnd (getC k) _ e = _
  cases h : e.cs[k]? with
  | none => simp [h]
  | some c =>
    cases c <;> simp [h]
    case lst xs => cases xs[xs.length - 1]? <;> simp
@[simp] theorem clear_e (f k : Nat) (e : En) : mtM f .clearL (.cel k) [] e = match e.cs[k]? with | some (.lst _) => .ok (.val .non) ⟨e.sl, e.cs.set k (.lst [])⟩ | _ => .stuck := by
  show bnd (getC k) _ e = _
  cases h : e.cs[k]? with
  | none => simp [h]
  | some c => cases c <;> simp [h]
@[simp] theorem tyM_ex (k : Nat) (e : En) : tyM .extend (.cel k) e = match e.cs[k]? with | some (.lst _) => .ok () e | some (.rls _) => .ok () e | _ => .stuck := id rfl
@[simp] theorem tyM_pl (k : Nat) (e : En) : tyM .popL (.cel k) e = match e.cs[k]? with | some (.lst _) => .ok () e | some (.rls _) => .ok () e | _ => .stuck := id rfl
@[simp] theorem tyM_pa (k : Nat) (e : En) : tyM .popAt (.cel k) e = match e.cs[k]? with | some (.lst _) => .ok () e | some (.rls _) => .ok () e | _ => .stuck := id rfl
@[simp] theorem tyM_cl (k : Nat) (e : En) : tyM .clearL (.cel k) e = match e.cs[k]? with | some (.lst _) => .ok () e | some (.rls _) => .ok () e | _ => .stuck := id rfl
@[simp] theorem minL_i (f : Nat) (a : Int) (l : List Int) : biD f .minL [.lst (D.int a :: l.map D.int)] = ret (.val (.int (minI (a :: l)))) := by
  show (match intsOf (D.int a :: l.map D.int) with | some (a :: l) => ret (.val (.int (minI (a :: l)))) | some [] => stk | none => req (srtOk (D.int a :: l.map D.int)) (ret (.val (minT (D.int a :: l.map D.int)))) : M Sl) = _
  have : intsOf (D.int a :: l.map D.int) = some (a :: l) := by
    have := ints_map0 (a :: l)
    simpa using this
  rw [this]
@[simp] theorem maxL_i (f : Nat) (a : Int) (l : List Int) : biD f .maxL [.lst (D.int a :: l.map D.int)] = ret (.val (.int (maxI (a :: l)))) := by
  show (match intsOf (D.int a :: l.map D.int) with | some (a :: l) => ret (.val (.int (maxI (a :: l)))) | _ => stk : M Sl) = _
  have : intsOf (D.int a :: l.map D.int) = some (a :: l) := by
    have := ints_map0 (a :: l)
    simpa using this
  rw [this]
@[simp] theorem tyM_js (z : List Nat) (e : En) : tyM .join (.val (.str z)) e = .ok () e := id rfl
@[simp] theorem tyM_rp (z : List Nat) (e : En) : tyM .rpart (.val (.str z)) e = .ok () e := id rfl
@[simp] theorem rpart_e (f : Nat) (z : List Nat) (c : Nat) : mtM f .rpart (.val (.str z)) [.val (.str [c])] = req (decide (z.length ≤ SZ)) (ret (.val (rpartS c z))) := id rfl
@[simp] theorem tyM_sp (z : List Nat) (e : En) : tyM .split (.val (.str z)) e = .ok () e := id rfl
@[simp] theorem join_e (f : Nat) (z : List Nat) (xs : List D) : mtM f .join (.val (.str z)) [.val (.lst xs)] = match strsOf xs with | some l => req (decide ((joinS z l).length + z.length ≤ SZ)) (ret (.val (.str (joinS z l)))) | none => stk := id rfl
@[simp] theorem join_c (f k : Nat) (z : List Nat) (e : En) : mtM f .join (.val (.str z)) [.cel k] e = match e.cs[k]? with
    | some (.lst xs) => (match strsOf xs with | some l => req (decide ((joinS z l).length + z.length ≤ SZ)) (ret (.val (.str (joinS z l)))) | none => stk : M Sl) e
    | _ => .stuck := by
  simp only [mtM, bnd_e]
  rw [rdOf_c]
  cases e.cs[k]? with
  | none => rfl
  | some c => cases c <;> rfl
@[simp] theorem len_l (f : Nat) (xs : List D) : biD f .len [.lst xs] = ret (.val (.int xs.length)) := id rfl
@[simp] theorem len_f (f : Nat) (xs : List D) : biD f .len [.frl xs] = ret (.val (.int xs.length)) := id rfl
@[simp] theorem len_t (f : Nat) (xs : List D) : biD f .len [.tup xs] = ret (.val (.int xs.length)) := id rfl
@[simp] theorem listOf_l (f : Nat) (xs : List D) : biD f .listOf [.lst xs] = newL f xs := id rfl
@[simp] theorem listOf_f (f : Nat) (xs : List D) : biD f .listOf [.frl xs] = newL f xs := id rfl
@[simp] theorem listOf_t (f : Nat) (xs : List D) : biD f .listOf [.tup xs] = newL f xs := id rfl
@[simp] theorem tupleOf_l (f : Nat) (xs : List D) : biD f .tupleOf [.lst xs] = ret (.val (.tup xs)) := id rfl
@[simp] theorem tupleOf_t (f : Nat) (xs : List D) : biD f .tupleOf [.tup xs] = ret (.val (.tup xs)) := id rfl
@[simp] theorem revM_t (f : Nat) (xs : List D) : revM f (.tup xs) = req (decide (0 < xs.length)) (ret (.val (.tup xs.reverse))) := id rfl
@[simp] theorem max2_i (f : Nat) (a b : Int) : biD f .max2 [.int a, .int b] = ret (.val (.int (max a b))) := id rfl
@[simp] theorem min2_i (f : Nat) (a b : Int) : biD f .min2 [.int a, .int b] = ret (.val (.int (min a b))) := id rfl
@[simp] theorem max3_i (f : Nat) (a b c : Int) : biD f .max3 [.int a, .int b, .int c] = ret (.val (.int (max (max a b) c))) := id rfl
@[simp] theorem str1_s (f : Nat) (a : List Nat) : biD f .str1 [.str a] = ret (.val (.str a)) := id rfl
@[simp] theorem str1_i (f : Nat) (a : Int) : biD f .str1 [.int a] = req (decide (a.natAbs.log2 < 1920)) (ret (.val (.str (strI a)))) := id rfl
@[simp] theorem dictOf_d (f : Nat) (ks vs : List D) : biD f .dictOf [.dct ks vs] = newD f ks vs := id rfl
@[simp] theorem abs_i (f : Nat) (a : Int) : biD f .abs [.int a] = ret (.val (.int (a.natAbs : Int))) := id rfl
@[simp] theorem int_b (f : Nat) (b : Bool) : biD f .int1 [.bl b] = ret (.val (.int (if b then 1 else 0))) := id rfl
@[simp] theorem int_i (f : Nat) (a : Int) : biD f .int1 [.int a] = ret (.val (.int a)) := id rfl
@[simp] theorem isi_e (f T : Nat) (d : D) : biD f (.isi T) [d] = ret (.val (.bl (isiD T d))) := id rfl
@[simp] theorem valM_v (d : D) : valM (.val d) = ret d := id rfl
@[simp] theorem bindT_v (i : Nat) (d : D) : bindT (.v i) d = setS i (.val d) := id rfl
@[simp] theorem bindT_t (l : List Tg) (xs : List D) : bindT (.t l) (.tup xs) = bindTs l xs := id rfl
@[simp] theorem bindT_l (l : List Tg) (xs : List D) : bindT (.t l) (.lst xs) = bindTs l xs := id rfl
@[simp] theorem bindTs_nil : bindTs [] [] = ret () := id rfl
@[simp] theorem bindTs_cons (t : Tg) (l : List Tg) (x : D) (xs : List D) : bindTs (t :: l) (x :: xs) = bnd (bindT t x) fun _ => bindTs l xs := id rfl
@[simp] theorem cmpI_lt (a b : Int) : cmpM .lt (.val (.int a)) (.val (.int b)) = ret (.val (.bl (decide (a < b)))) := id rfl
@[simp] theorem cmpI_le (a b : Int) : cmpM .le (.val (.int a)) (.val (.int b)) = ret (.val (.bl (decide (a ≤ b)))) := id rfl
@[simp] theorem cmpI_gt (a b : Int) : cmpM .gt (.val (.int a)) (.val (.int b)) = ret (.val (.bl (decide (b < a)))) := id rfl
@[simp] theorem cmpI_ge (a b : Int) : cmpM .ge (.val (.int a)) (.val (.int b)) = ret (.val (.bl (decide (b ≤ a)))) := id rfl
@[simp] theorem cmp_eqI (a b : Int) : cmpM .eq (.val (.int a)) (.val (.int b)) = ret (.val (.bl (a == b))) := by
  simp [cmpM, cmpD, rdOf, dep, eqD]; rfl
@[simp] theorem cmp_neI (a b : Int) : cmpM .ne (.val (.int a)) (.val (.int b)) = ret (.val (.bl (!(a == b)))) := by
  simp [cmpM, cmpD, rdOf, dep, eqD]; rfl
@[simp] theorem cmp_eqB (a b : Bool) : cmpM .eq (.val (.bl a)) (.val (.bl b)) = ret (.val (.bl (a == b))) := by
  simp [cmpM, cmpD, rdOf, dep, eqD]; rfl
@[simp] theorem cmp_neB (a b : Bool) : cmpM .ne (.val (.bl a)) (.val (.bl b)) = ret (.val (.bl (!(a == b)))) := by
  simp [cmpM, cmpD, rdOf, dep, eqD]; rfl
@[simp] theorem cmp_eqS (a b : List Nat) : cmpM .eq (.val (.str a)) (.val (.str b)) = ret (.val (.bl (a == b))) := by
  simp [cmpM, cmpD, rdOf]; rfl
@[simp] theorem cmp_neS (a b : List Nat) : cmpM .ne (.val (.str a)) (.val (.str b)) = ret (.val (.bl (!(a == b)))) := by
  simp [cmpM, cmpD, rdOf]; rfl
theorem cmpM_of {op : CmpK} {x y : D} {b : Bool} (h1 : op ≠ .isN) (h2 : op ≠ .notN) (h : cmpD op x y = some b) : cmpM op (.val x) (.val y) = ret (.val (.bl b)) := by
  have : cmpM op (.val x) (.val y) = bnd (rdOf (.val x)) fun x => bnd (rdOf (.val y)) fun y => match cmpD op x y with | some b => ret (.val (.bl b)) | none => stk := by
    cases op <;> first | rfl | exact absurd rfl h1 | exact absurd rfl h2
  rw [this]
  show (match cmpD op x y with | some b => ret (.val (.bl b)) | none => stk : M Sl) = _
  rw [h]
theorem cmp_rd {op : CmpK} {s t : Sl} {x y : D} {b : Bool} {e : En} (h1 : op ≠ .isN) (h2 : op ≠ .notN) (hs : rdOf s e = .ok x e) (ht : rdOf t e = .ok y e) (h : cmpD op x y = some b) : cmpM op s t e = .ok (.val (.bl b)) e := by
  have : cmpM op s t = bnd (rdOf s) fun x => bnd (rdOf t) fun y => match cmpD op x y with | some b => ret (.val (.bl b)) | none => stk := by
    cases op <;> first | rfl | exact absurd rfl h1 | exact absurd rfl h2
  rw [this]
  simp [hs, ht, h]
theorem inT_of {x : D} {ys : List D} (h : (flatD x && ys.all flatD) = true) : cmpD .inn x (.tup ys) = some (inDs x ys) ∧ cmpD .nin x (.tup ys) = some (!inDs x ys) ∧ cmpD .inn x (.lst ys) = some (inDs x ys) ∧ cmpD .nin x (.lst ys) = some (!inDs x ys) := by
  refine ⟨?_, ?_, ?_, ?_⟩ <;> (unfold cmpD; split <;> simp_all)
theorem cmp_inT {x : D} {ys : List D} (h : (flatD x && ys.all flatD) = true) : cmpM .inn (.val x) (.val (.tup ys)) = ret (.val (.bl (inDs x ys))) := cmpM_of (by simp) (by simp) (inT_of h).1
theorem cmp_ninT {x : D} {ys : List D} (h : (flatD x && ys.all flatD) = true) : cmpM .nin (.val x) (.val (.tup ys)) = ret (.val (.bl (!inDs x ys))) := cmpM_of (by simp) (by simp) (inT_of h).2.1
theorem cmp_inL {x : D} {ys : List D} (h : (flatD x && ys.all flatD) = true) : cmpM .inn (.val x) (.val (.lst ys)) = ret (.val (.bl (inDs x ys))) := cmpM_of (by simp) (by simp) (inT_of h).2.2.1
theorem cmp_ninL {x : D} {ys : List D} (h : (flatD x && ys.all flatD) = true) : cmpM .nin (.val x) (.val (.lst ys)) = ret (.val (.bl (!inDs x ys))) := cmpM_of (by simp) (by simp) (inT_of h).2.2.2
theorem cmp_lt3 (a b c d e f : Int) : cmpM .lt (.val (.tup [.int a, .int b, .int c])) (.val (.tup [.int d, .int e, .int f])) = ret (.val (.bl (ltI [a, b, c] [d, e, f]))) := cmpM_of (by simp) (by simp) rfl
theorem inL_deep {x : D} {ys : List D} (h : dep x ≤ 63 ∧ dep (.lst ys) ≤ 64) : cmpD .inn x (.lst ys) = some (inDs x ys) ∧ cmpD .nin x (.lst ys) = some (!inDs x ys) := by
  have e1 : cmpD .inn x (.lst ys) = if flatD x && ys.all flatD then some (inDs x ys) else if dep x ≤ 63 ∧ dep (.lst ys) ≤ 64 then some (inDs x ys) else none := by cases x <;> rfl
  have e2 : cmpD .nin x (.lst ys) = if flatD x && ys.all flatD then some (!inDs x ys) else if dep x ≤ 63 ∧ dep (.lst ys) ≤ 64 then some (!inDs x ys) else none := by cases x <;> rfl
  rw [e1, e2, if_pos h, if_pos h]
  constructor <;> split <;> rfl
theorem cmp_inD {x : D} {ys : List D} (h : dep x ≤ 63 ∧ dep (.lst ys) ≤ 64) : cmpM .inn (.val x) (.val (.lst ys)) = ret (.val (.bl (inDs x ys))) := cmpM_of (by simp) (by simp) (inL_deep h).1
theorem cmp_ninD {x : D} {ys : List D} (h : dep x ≤ 63 ∧ dep (.lst ys) ≤ 64) : cmpM .nin (.val x) (.val (.lst ys)) = ret (.val (.bl (!inDs x ys))) := cmpM_of (by simp) (by simp) (inL_deep h).2
@[simp] theorem cmp_inS (c : Nat) (s : List Nat) : cmpM .inn (.val (.str [c])) (.val (.str s)) = ret (.val (.bl (s.contains c))) := id rfl
@[simp] theorem cmp_ninS (c : Nat) (s : List Nat) : cmpM .nin (.val (.str [c])) (.val (.str s)) = ret (.val (.bl (!s.contains c))) := id rfl
theorem len_s {f : Nat} {s : List Nat} (h : s.length ≤ 16777216) : biD f .len [.str s] = ret (.val (.int s.length)) := by
  show (match (if s.length ≤ SZ then some s.length else none) with | some n => ret (.val (.int (n : Nat))) | none => stk : M Sl) = _
  rw [if_pos h]
theorem eqD_of {x y : D} (hx : dep x ≤ 64) (hy : dep y ≤ 64) : cmpD .eq x y = some (eqD x y) ∧ cmpD .ne x y = some (!eqD x y) := by
  refine ⟨?_, ?_⟩ <;> (unfold cmpD; split <;> simp_all [eqD, dep])
theorem cmp_eqD {x y : D} (hx : dep x ≤ 64) (hy : dep y ≤ 64) : cmpM .eq (.val x) (.val y) = ret (.val (.bl (eqD x y))) := cmpM_of (by simp) (by simp) (eqD_of hx hy).1
theorem cmp_neD {x y : D} (hx : dep x ≤ 64) (hy : dep y ≤ 64) : cmpM .ne (.val x) (.val y) = ret (.val (.bl (!eqD x y))) := cmpM_of (by simp) (by simp) (eqD_of hx hy).2
@[simp] theorem isi2_s (s : List Nat) : isiD 2 (.str s) = true := id rfl
@[simp] theorem isi1_b (s : Bool) : isiD 1 (.bl s) = true := id rfl
@[simp] theorem cmp_is (s : Sl) : cmpM .isN s (.val .non) = ret (.val (.bl (isNonS s))) := id rfl
@[simp] theorem cmp_isn (s : Sl) : cmpM .notN s (.val .non) = ret (.val (.bl (!isNonS s))) := id rfl
@[simp ↓] theorem rng1_e (a : CE) : evI cal (.rng1 a) = bnd (ev cal a) fun s => bnd (intM s) fun n => req (rngOk n) (ret (rangeL 0 n.toNat)) := id rfl
@[simp ↓] theorem rng2_e (a b : CE) : evI cal (.rng2 a b) = bnd (ev cal a) fun s => bnd (ev cal b) fun t => bnd (intM s) fun i => bnd (intM t) fun j => req (rngOk i && rngOk j) (ret (rangeL i (j - i).toNat)) := id rfl
@[simp ↓] theorem rng3_e (a b : CE) (c : Int) : evI cal (.rng3 a b c) = bnd (ev cal a) fun s => bnd (ev cal b) fun t => bnd (intM s) fun i => bnd (intM t) fun j => req (rngOk i && rngOk j && decide (c = -1)) (ret (rangeC i c (i - j).toNat)) := id rfl
@[simp ↓] theorem seq_e (a : CE) : evI cal (.seq a) = bnd (ev cal a) fun s => bnd (dOf s) seqM := id rfl
@[simp] theorem seqM_l (xs : List D) : seqM (.lst xs) = ret xs := id rfl
@[simp] theorem seqM_f (xs : List D) : seqM (.frl xs) = ret xs := id rfl
@[simp] theorem seqM_t (xs : List D) : seqM (.tup xs) = ret xs := id rfl
@[simp] theorem seqM_s (z : List Nat) : seqM (.str z) = ret (z.map fun c => .str [c]) := id rfl
@[simp] theorem celIds_nil : celIds [] = [] := id rfl
@[simp] theorem celIds_v (d : D) (r : List Sl) : celIds (.val d :: r) = celIds r := id rfl
@[simp] theorem celIds_c (k : Nat) (r : List Sl) : celIds (.cel k :: r) = k :: (celIds r).filter (· != k) := id rfl
@[simp] theorem renS_v (ks : List Nat) (d : D) : renS ks (.val d) = .val d := id rfl
@[simp] theorem renS_c (ks : List Nat) (k : Nat) : renS ks (.cel k) = .cel (idxIn k ks) := id rfl
@[simp] theorem idxIn_cons (k x : Nat) (r : List Nat) : idxIn k (x :: r) = if x = k then 0 else idxIn k r + 1 := id rfl
@[simp] theorem backS_v (ks : List Nat) (n : Nat) (d : D) : backS ks n (.val d) = .val d := id rfl
@[simp] theorem backS_c (ks : List Nat) (n j : Nat) : backS ks n (.cel j) = match ks[j]? with | some k => .cel k | none => .cel (n + (j - ks.length)) := id rfl
@[simp] theorem putB_nil (cs' cs : List Ce) : putB [] cs' cs = cs := by cases cs' <;> rfl
@[simp] theorem putB_cons (k : Nat) (ks : List Nat) (c : Ce) (cs' cs : List Ce) : putB (k :: ks) (c :: cs') cs = (putB ks cs' cs).set k c := id rfl
@[simp] theorem pure_l (xs : List D) : pureC (.lst xs) = true := id rfl
@[simp] theorem pure_d (xs ys : List D) : pureC (.dct xs ys) = true := id rfl
@[simp] theorem pure_g : pureC .gone = true := id rfl
theorem callM_e (fn : Fn) (args : List Sl) (e : En) : callM fn args e = match (celIds args).all fun k => pureC (e.cs.getD k .gone) with | true => callB fn args (celIds args) e | false => .stuck := rfl
theorem callB_e (fn : Fn) (args : List Sl) (ks : List Nat) (e : En) : callB fn args ks e = match fn (args.map (renS ks)) (ks.map fun k => e.cs.getD k .gone) with
    | .ok r cs' => match cs'.all pureC with
      | true => .ok (backS ks e.cs.length r) ⟨e.sl, putB ks cs' e.cs ++ cs'.drop ks.length⟩
      | false => .stuck
    | .exc x cs' => match cs'.all pureC with
      | true => .exc x ⟨e.sl, putB ks cs' e.cs ++ cs'.drop ks.length⟩
      | false => .stuck
    | .stuck => .stuck := rfl
@[simp] theorem idx_l (xs : List D) (j : Int) (e : En) : idxM (.val (.lst xs)) (.val (.int j)) e = optS (atP xs j) e := id rfl
@[simp] theorem idx_f (xs : List D) (j : Int) (e : En) : idxM (.val (.frl xs)) (.val (.int j)) e = optS (atP xs j) e := id rfl
@[simp] theorem idx_t (xs : List D) (j : Int) (e : En) : idxM (.val (.tup xs)) (.val (.int j)) e = optS (atP xs j) e := id rfl
@[simp] theorem idx_s (z : List Nat) (j : Int) (e : En) : idxM (.val (.str z)) (.val (.int j)) e = match decide (z.length ≤ SZ), atP z j with | true, some c => .ok (.val (.str [c])) e | _, _ => .stuck := id rfl
@[simp] theorem idx_c (k : Nat) (j : Int) (e : En) : idxM (.cel k) (.val (.int j)) e = match e.cs[k]? with
    | some (.rls ids) => match atP ids j with
      | some c => .ok (.cel c) e
      | none => .stuck
    | some (.lst xs) => optS (atP xs j) e
    | _ => .stuck := id rfl
@[simp] theorem exitF_n (m : Nat) (e : En) : exitF m (.ok .nxt e) = match exitC m e.cs with | some cs => .ok (.val .non) cs | none => .stuck := id rfl
@[simp] theorem exitF_v (m : Nat) (d : D) (e : En) : exitF m (.ok (.rtn (.val d)) e) = match exitC m e.cs with | some cs => .ok (.val d) cs | none => .stuck := id rfl
@[simp] theorem exitF_c (m j : Nat) (e : En) : exitF m (.ok (.rtn (.cel j)) e) = match exitC m e.cs with
    | some cs => if j < m then .ok (.cel j) cs else match e.cs[j]? with
      | some c => if pureC c then .ok (.cel m) (cs ++ [c]) else .stuck
      | none => .stuck
    | none => .stuck := id rfl
@[simp] theorem exitC_e (m : Nat) (cs : List Ce) : exitC m cs = if (cs.take m).all pureC then some (cs.take m) else none := id rfl
theorem calF_e (P : Nat → CDef) (k f : Nat) (args : List Sl) (S : List Ce) : calF P (k + 1) f args S = if args.length = (P f).np then exitF S.length (exs (calF P k) (P f).body ⟨args ++ List.replicate ((P f).n - args.length) .und, S⟩) else .stuck := rfl
@[simp] theorem putM_c (k : Nat) (j : Int) (d : D) : putM (.cel k) (.val (.int j)) (.val d) = bnd (getC k) fun c => match c with
    | .lst xs => match ixP xs.length j with
      | some n => setC k (.lst (xs.set n d))
      | none => stk
    | _ => stk := by
  funext e
  simp only [putM, bnd, rdOf, dOf]
  cases getC k e with
  | ok c e' => cases c <;> rfl
  | exc x e' => rfl
  | stuck => rfl
end
theorem bnd_at {α β : Type} {m : M α} {f : α → M β} {e e' : En} {a : α} (h : m e = .ok a e') : bnd m f e = f a e' := by
  unfold bnd; rw [h]
/-- statement by statement -/
theorem exs_nxt {cal : Nat → Fn} {s : CS} {r : List CS} {e e' : En} (h : ex cal s e = .ok .nxt e') : exs cal (s :: r) e = exs cal r e' := by
  show bnd (ex cal s) _ e = _
  rw [bnd_at h]; rfl
theorem exs_rtn {cal : Nat → Fn} {s : CS} {r : List CS} {e e' : En} {v : Sl} (h : ex cal s e = .ok (.rtn v) e') : exs cal (s :: r) e = .ok (.rtn v) e' := by
  show bnd (ex cal s) _ e = _
  rw [bnd_at h]; rfl
theorem exs_cons {cal : Nat → Fn} {s : CS} {r : List CS} {e : En} : exs cal (s :: r) e = bnd (ex cal s) (fun fl => seqK fl (exs cal r)) e := rfl
theorem forD_step {tg : Tg} {body : M Fl} {d : D} {r : List D} {e e' : En} {fl : Fl} (h : bnd (bindT tg d) (fun _ => body) e = .ok fl e') : forD tg body (d :: r) e = forK fl (forD tg body r) e' := by
  show bnd (bindT tg d) (fun _ => bnd body fun fl => forK fl (forD tg body r)) e = _
  unfold bnd at h ⊢
  cases hb : bindT tg d e with
  | stuck => rw [hb] at h; cases h
  | exc x e' => rw [hb] at h; cases h
  | ok u e' =>
    rw [hb] at h
    simp only at h ⊢
    rw [h]
theorem forD_cons (tg : Tg) (body : M Fl) (d : D) (r : List D) : forD tg body (d :: r) = bnd (bindT tg d) fun _ => bnd body fun fl => forK fl (forD tg body r) := rfl
@[simp] theorem forD_nil (tg : Tg) (body : M Fl) : forD tg body [] = ret .nxt := id rfl
@[simp ↓] theorem forK_n (k : M Fl) : forK .nxt k = k := id rfl
@[simp ↓] theorem forK_c (k : M Fl) : forK .cnt k = k := id rfl
@[simp ↓] theorem forK_b (k : M Fl) : forK .brk k = ret .nxt := id rfl
@[simp ↓] theorem forK_r (s : Sl) (k : M Fl) : forK (.rtn s) k = ret (.rtn s) := id rfl
/-- a loop without an early end -/
theorem forD_inv {tg : Tg} {body : M Fl} (I : List D → En → Prop) (step : ∀ d r e, I (d :: r) e → ∃ e', bnd (bindT tg d) (fun _ => body) e = .ok .nxt e' ∧ I r e') : ∀ xs e, I xs e → ∃ e', forD tg body xs e = .ok .nxt e' ∧ I [] e'
  | [], e, h => ⟨e, rfl, h⟩
  | d :: r, e, h => by
    obtain ⟨e1, h1, h2⟩ := step d r e h
    obtain ⟨e2, h3, h4⟩ := forD_inv I step r e1 h2
    refine ⟨e2, ?_, h4⟩
    unfold forD
    unfold bnd at h1 ⊢
    cases hb : bindT tg d e with
    | stuck => rw [hb] at h1; cases h1
    | exc x e' => rw [hb] at h1; cases h1
    | ok u e' =>
      rw [hb] at h1
      simp only at h1 ⊢
      rw [h1]
      exact h3
/-- .. over a range, by the turn -/
theorem forD_range {tg : Tg} {body : M Fl} {lo : Int} {n : Nat} (I : Nat → En → Prop) (step : ∀ i e, i < n → I i e → ∃ e', bnd (bindT tg (.int (lo + i))) (fun _ => body) e = .ok .nxt e' ∧ I (i + 1) e') : ∀ e, I 0 e → ∃ e', forD tg body (rangeL lo n) e = .ok .nxt e' ∧ I n e' := by
  intro e h
  have hlen : (rangeL lo n).length = n := by simp [rangeL]
  obtain ⟨e', h1, i, h2, h3, h4⟩ := forD_inv (tg := tg) (body := body) (fun r e => ∃ i, r = (rangeL lo n).drop i ∧ i ≤ n ∧ I i e) (fun d r e => by
    rintro ⟨i, hr, hi, hI⟩
    have hi' : i < n := by
      by_cases c : i < n
      · exact c
      · have : i = n := by omega
        subst this
        rw [show (rangeL lo i).drop i = [] from List.drop_of_length_le (by rw [hlen]; omega)] at hr
        cases hr
    rw [List.drop_eq_getElem_cons (by rw [hlen]; exact hi')] at hr
    injection hr with hd hr
    have hd : d = .int (lo + i) := by rw [hd]; simp [rangeL]
    subst hd
    obtain ⟨e', q1, q2⟩ := step i e hi' hI
    exact ⟨e', q1, i + 1, hr, hi', q2⟩) (rangeL lo n) e ⟨0, rfl, Nat.zero_le _, h⟩
  have : i = n := by
    have := congrArg List.length h2
    rw [List.length_drop, hlen, List.length_nil] at this
    omega
  subst this
  exact ⟨e', h1, h4⟩
/-- a loop that may end early -/
theorem forD_any {tg : Tg} {body : M Fl} (I : List D → En → Prop) (Q : Sl → En → Prop) (B : En → Prop)
    (step : ∀ d r e, I (d :: r) e → ∃ fl e', bnd (bindT tg d) (fun _ => body) e = .ok fl e' ∧ match fl with | .nxt => I r e' | .cnt => I r e' | .brk => B e' | .rtn s => Q s e') :
    ∀ xs e, I xs e → ∃ fl e', forD tg body xs e = .ok fl e' ∧ match fl with | .nxt => I [] e' ∨ B e' | .rtn s => Q s e' | _ => False
  | [], e, h => ⟨.nxt, e, rfl, .inl h⟩
  | d :: r, e, h => by
    obtain ⟨fl, e1, h1, h2⟩ := step d r e h
    have go : forD tg body (d :: r) e = forK fl (forD tg body r) e1 := by
      show bnd (bindT tg d) (fun _ => bnd body fun fl => forK fl (forD tg body r)) e = _
      unfold bnd at h1 ⊢
      cases hb : bindT tg d e with
      | stuck => rw [hb] at h1; cases h1
      | exc x e' => rw [hb] at h1; cases h1
      | ok u e' =>
        rw [hb] at h1
        simp only at h1 ⊢
        rw [h1]
    cases fl with
    | nxt =>
      obtain ⟨fl2, e2, h3, h4⟩ := forD_any I Q B step r e1 h2
      exact ⟨fl2, e2, by rw [go]; exact h3, h4⟩
    | cnt =>
      obtain ⟨fl2, e2, h3, h4⟩ := forD_any I Q B step r e1 h2
      exact ⟨fl2, e2, by rw [go]; exact h3, h4⟩
    | brk => exact ⟨.nxt, e1, by rw [go]; rfl, .inr h2⟩
    | rtn s => exact ⟨.rtn s, e1, by rw [go]; rfl, h2⟩
/-- a comprehension without a test: each item's value has P -/
theorem compG_all {β : Type} {vs : List Nat} {tg : Tg} {elt : M β} (I : En → Prop) (P : D → β → Prop) :
    ∀ (xs : List D) (acc : List β) (e : En), (∀ d ∈ xs, ∀ e, I e → ∃ y e', bnd (wipS vs) (fun _ => bnd (bindT tg d) fun _ => elt) e = .ok y e' ∧ I e' ∧ P d y) → acc.length + xs.length ≤ 16777216 → I e →
      ∃ ys e', compG vs tg (ret true) elt xs acc e = .ok (acc ++ ys) e' ∧ I e' ∧ ys.length = xs.length ∧ ∀ i (h : i < xs.length) (h' : i < ys.length), P xs[i] ys[i]
  | [], acc, e, _, _, h => ⟨[], e, by simp [compG], h, rfl, fun i h => by simp at h⟩
  | d :: r, acc, e, step, hl, h => by
    obtain ⟨y, e1, h1, h2, h3⟩ := step d List.mem_cons_self e h
    simp only [List.length_cons] at hl
    obtain ⟨ys, e2, h4, h5, h6, h7⟩ := compG_all I P r (acc ++ [y]) e1 (fun d hd => step d (List.mem_cons_of_mem _ hd)) (by simp; omega) h2
    refine ⟨y :: ys, e2, ?_, h5, by simp [h6], fun i hi hi' => ?_⟩
    · unfold compG
      unfold bnd at h1
      unfold bnd
      simp only [wipS] at h1 ⊢
      cases hb : bindT tg d ⟨setAll vs e.sl, e.cs⟩ with
      | stuck => rw [hb] at h1; cases h1
      | exc x e' => rw [hb] at h1; cases h1
      | ok u e' =>
        rw [hb] at h1
        simp only at h1 ⊢
        rw [h1]
        simp only
        have : decide (acc.length < SZ) = true := decide_eq_true (show acc.length < 16777216 by omega)
        unfold req
        rw [this]
        simp only
        rw [h4]
        simp
    · cases i with
      | zero => exact h3
      | succ i => exact h7 i (by simpa using hi) (by simpa using hi')
/-- .. each item's value is f of it -/
theorem compG_map {β : Type} {vs : List Nat} {tg : Tg} {elt : M β} (I : En → Prop) (f : D → β) (xs : List D) (acc : List β) (e : En)
    (step : ∀ d ∈ xs, ∀ e, I e → ∃ e', bnd (wipS vs) (fun _ => bnd (bindT tg d) fun _ => elt) e = .ok (f d) e' ∧ I e') (hl : acc.length + xs.length ≤ 16777216) (h : I e) :
    ∃ e', compG vs tg (ret true) elt xs acc e = .ok (acc ++ xs.map f) e' ∧ I e' := by
  obtain ⟨ys, e', h1, h2, h3, h4⟩ := compG_all I (fun d y => y = f d) xs acc e (fun d hd e he => by
    obtain ⟨e', q1, q2⟩ := step d hd e he
    exact ⟨_, e', q1, q2, rfl⟩) hl h
  refine ⟨e', ?_, h2⟩
  rw [h1]
  congr 2
  refine List.ext_getElem (by simp [h3]) fun i hi hi' => ?_
  rw [List.getElem_map]
  exact h4 i (by simpa using hi') hi
/-- a comprehension of data: each item's value has P -/
theorem comp_all {cal : Nat → Fn} {vs : List Nat} {tg : Tg} {it : CI} {elt : CE} {xs : List D} {e e1 : En} (I : En → Prop) (P : D → D → Prop) (hi : evI cal it e = .ok xs e1)
    (step : ∀ d ∈ xs, ∀ e, I e → ∃ y e', bnd (wipS vs) (fun _ => bnd (bindT tg d) fun _ => bnd (ev cal elt) dOf) e = .ok y e' ∧ I e' ∧ P d y) (hl : xs.length ≤ 16777216) (h : I e1) :
    ∃ ys e2, ev cal (.comp 0 vs tg it none elt) e = .ok (.val (.lst ys)) ⟨e1.sl, e2.cs⟩ ∧ I e2 ∧ ys.length = xs.length ∧ ∀ i (h : i < xs.length) (h' : i < ys.length), P xs[i] ys[i] := by
  obtain ⟨ys, e2, h1, h2, h3, h4⟩ := compG_all I P xs [] e1 step (by rw [List.length_nil]; omega) h
  refine ⟨ys, e2, ?_, h2, h3, h4⟩
  show bnd (evI cal it) (fun xs => bnd (blockM (compG vs tg (ret true) (bnd (ev cal elt) dOf) xs [])) fun l => newL 0 l) e = _
  rw [bnd_at hi]
  have : blockM (compG vs tg (ret true) (bnd (ev cal elt) dOf) xs []) e1 = .ok ys ⟨e1.sl, e2.cs⟩ := by
    unfold blockM; rw [h1]; rfl
  rw [bnd_at this]
  rfl
theorem comp_map {cal : Nat → Fn} {vs : List Nat} {tg : Tg} {it : CI} {elt : CE} {xs : List D} {e e1 : En} (I : En → Prop) (f : D → D) (hi : evI cal it e = .ok xs e1)
    (step : ∀ d ∈ xs, ∀ e, I e → ∃ e', bnd (wipS vs) (fun _ => bnd (bindT tg d) fun _ => bnd (ev cal elt) dOf) e = .ok (f d) e' ∧ I e') (hl : xs.length ≤ 16777216) (h : I e1) :
    ∃ e2, ev cal (.comp 0 vs tg it none elt) e = .ok (.val (.lst (xs.map f))) ⟨e1.sl, e2.cs⟩ ∧ I e2 := by
  obtain ⟨ys, e2, h1, h2, h3, h4⟩ := comp_all I (fun d y => y = f d) hi (fun d hd e he => by
    obtain ⟨e', q1, q2⟩ := step d hd e he
    exact ⟨_, e', q1, q2, rfl⟩) hl h
  have : ys = xs.map f := by
    refine List.ext_getElem (by simp [h3]) fun i hi hi' => ?_
    rw [List.getElem_map]
    exact h4 i (by simpa using hi') hi
  exact ⟨e2, by rw [h1, this], h2⟩
@[simp] theorem wipS_e (vs : List Nat) (e : En) : wipS vs e = .ok () ⟨setAll vs e.sl, e.cs⟩ := id rfl
@[simp] theorem setAll_nil (l : List Sl) : setAll [] l = l := id rfl
@[simp] theorem setAll_cons (v : Nat) (r : List Nat) (l : List Sl) : setAll (v :: r) l = (setAll r l).set v .und := id rfl
@[simp] theorem bls_map (l : List Bool) : blsOf (l.map D.bl) = some l := by
  induction l with
  | nil => rfl
  | cons b r ih => show (match blsOf (r.map D.bl) with | some l => some (b :: l) | none => none) = _; rw [ih]
@[simp] theorem ints_map (l : List Int) : intsOf (l.map D.int) = some l := by
  induction l with
  | nil => rfl
  | cons b r ih => show (match intsOf (r.map D.int) with | some l => some (b :: l) | none => none) = _; rw [ih]
@[simp] theorem strs_map (l : List (List Nat)) : strsOf (l.map D.str) = some l := by
  induction l with
  | nil => rfl
  | cons b r ih => show (match strsOf (r.map D.str) with | some l => some (b :: l) | none => none) = _; rw [ih]
@[simp] theorem all_b (f : Nat) (l : List Bool) : biD f .all [.lst (l.map D.bl)] = ret (.val (.bl (l.all id))) := by
  show (match blsOf (l.map D.bl) with | some l => ret (.val (.bl (l.all id))) | none => stk : M Sl) = _
  rw [bls_map]
@[simp] theorem any_b (f : Nat) (l : List Bool) : biD f .any [.lst (l.map D.bl)] = ret (.val (.bl (l.any id))) := by
  show (match blsOf (l.map D.bl) with | some l => ret (.val (.bl (l.any id))) | none => stk : M Sl) = _
  rw [bls_map]
@[simp] theorem sum_i (f : Nat) (l : List Int) : biD f .sum [.lst (l.map D.int)] = ret (.val (.int l.sum)) := by
  show (match intsOf (l.map D.int) with | some l => ret (.val (.int l.sum)) | none => stk : M Sl) = _
  rw [ints_map]
theorem atP_in {xs : List D} {j : Int} (h0 : 0 ≤ j) (h1 : j < xs.length) : ∃ d, atP xs j = some d ∧ d ∈ xs := by
  obtain ⟨n, rfl⟩ := Int.eq_ofNat_of_zero_le h0
  have hn : n < xs.length := by omega
  exact ⟨xs[n], by rw [atP_nat, List.getElem?_eq_getElem hn], List.getElem_mem hn⟩
theorem atP_inN {xs : List Nat} {j : Int} (h0 : 0 ≤ j) (h1 : j < xs.length) : ∃ d, atP xs j = some d ∧ d ∈ xs := by
  obtain ⟨n, rfl⟩ := Int.eq_ofNat_of_zero_le h0
  have hn : n < xs.length := by omega
  exact ⟨xs[n], by rw [atP_nat, List.getElem?_eq_getElem hn], List.getElem_mem hn⟩
@[simp] theorem slice_s (f : Nat) (z : List Nat) (lo hi : Option Int) : sliceM f (.val (.str z)) lo hi = req (decide (z.length ≤ SZ)) (ret (.val (.str (cutL z lo hi)))) := id rfl
@[simp] theorem slice_l0 (z : List D) (lo hi : Option Int) : sliceM 0 (.val (.lst z)) lo hi = ret (.val (.lst (cutL z lo hi))) := id rfl
@[simp] theorem slice_c0 (k : Nat) (lo hi : Option Int) (e : En) : sliceM 0 (.cel k) lo hi e = match e.cs[k]? with
    | some (.lst xs) => .ok (.val (.lst (cutL xs lo hi))) e
    | _ => .stuck := by
  simp only [sliceM, bnd_e]
  rw [rdOf_c]
  cases e.cs[k]? with
  | none => rfl
  | some c => cases c <;> rfl
@[simp] theorem slice_t (f : Nat) (z : List D) (lo hi : Option Int) : sliceM f (.val (.tup z)) lo hi = ret (.val (.tup (cutL z lo hi))) := id rfl
theorem cut_len {α : Type} (z : List α) (lo hi : Option Int) : (cutL z lo hi).length ≤ z.length := by
  unfold cutL
  simp
  omega
theorem joinS_ones : ∀ cs : List Nat, joinS [] (cs.map fun c => [c]) = cs
  | [] => rfl
  | [c] => rfl
  | c :: d :: r => by
    have := joinS_ones (d :: r)
    show [c] ++ [] ++ joinS [] ([d] :: r.map fun c => [c]) = _
    rw [show ([d] :: r.map fun c => [c]) = (d :: r).map (fun c => [c]) from rfl, this]
    rfl
theorem join_ones {f : Nat} {ys : List Nat} (h : ys.length ≤ 16777216) : mtM f .join (.val (.str [])) [.val (.lst (ys.map fun c => D.str [c]))] = ret (.val (.str ys)) := by
  rw [join_e, show (ys.map fun c => D.str [c]) = (ys.map fun c => [c]).map D.str by simp, strs_map]
  simp [joinS_ones, h]
theorem celIds_vals : ∀ vs : List D, celIds (vs.map Sl.val) = []
  | [] => rfl
  | _ :: r => celIds_vals r
/-- a call with one mutable thing -/
theorem callM_one {fn : Fn} {j : Nat} {c c' : Ce} {sl : List Sl} {cs : List Ce} {r : D} {vs : List D} (h : fn (.cel 0 :: vs.map Sl.val) [c] = .ok (.val r) [c']) (hj : cs[j]? = some c) (p : pureC c = true) (p' : pureC c' = true) :
    callM fn (.cel j :: vs.map Sl.val) ⟨sl, cs⟩ = .ok (.val r) ⟨sl, cs.set j c'⟩ := by
  have e1 : celIds (.cel j :: vs.map Sl.val) = [j] := by
    rw [celIds_c]
    rw [celIds_vals]; rfl
  have e2 : (Sl.cel j :: vs.map Sl.val).map (renS [j]) = .cel 0 :: vs.map Sl.val := by
    rw [List.map_cons, List.map_map]
    congr 1
    · show Sl.cel (idxIn j [j]) = _
      simp
  have e3 : cs.getD j .gone = c := by rw [List.getD_eq_getElem?_getD, hj]; rfl
  rw [callM_e, e1]
  have e4 : ([j].all fun k => pureC (cs.getD k .gone)) = true := by simp [e3, p, -List.getD_eq_getElem?_getD]
  show (match ([j].all fun k => pureC (cs.getD k .gone)) with | true => callB fn (.cel j :: vs.map Sl.val) [j] ⟨sl, cs⟩ | false => .stuck) = _
  rw [e4]
  show callB fn (.cel j :: vs.map Sl.val) [j] ⟨sl, cs⟩ = _
  rw [callB_e, e2]
  show (match fn (.cel 0 :: vs.map Sl.val) [cs.getD j .gone] with | .ok r cs' => _ | .exc x cs' => _ | .stuck => _) = _
  rw [e3, h]
  simp [p']
/-- .. the last one -/
theorem callM_last {fn : Fn} {c c' : Ce} {sl : List Sl} {cs : List Ce} {r : D} {vs : List D} (h : fn (.cel 0 :: vs.map Sl.val) [c] = .ok (.val r) [c']) (p : pureC c = true) (p' : pureC c' = true) :
    callM fn (.cel cs.length :: vs.map Sl.val) ⟨sl, cs ++ [c]⟩ = .ok (.val r) ⟨sl, cs ++ [c']⟩ := by
  rw [callM_one h (by simp) p p']
  simp
/-- a call with data alone -/
theorem callM_v {fn : Fn} {vs : List D} {r : D} {e : En} (h : fn (vs.map Sl.val) [] = .ok (.val r) []) : callM fn (vs.map Sl.val) e = .ok (.val r) e := by
  have e2 : (vs.map Sl.val).map (renS []) = vs.map Sl.val := by
    rw [List.map_map]
    rfl
  rw [callM_e, celIds_vals]
  show callB fn (vs.map Sl.val) [] e = _
  rw [callB_e, e2]
  show (match fn (vs.map Sl.val) [] with | .ok r cs' => _ | .exc x cs' => _ | .stuck => _) = _
  rw [h]
  simp
/-- .. a new thing comes of it -/
theorem callM_vc {fn : Fn} {vs : List D} {c : Ce} {sl : List Sl} {cs : List Ce} (h : fn (vs.map Sl.val) [] = .ok (.cel 0) [c]) (p : pureC c = true) : callM fn (vs.map Sl.val) ⟨sl, cs⟩ = .ok (.cel cs.length) ⟨sl, cs ++ [c]⟩ := by
  have e2 : (vs.map Sl.val).map (renS []) = vs.map Sl.val := by
    rw [List.map_map]
    rfl
  rw [callM_e, celIds_vals]
  show callB fn (vs.map Sl.val) [] ⟨sl, cs⟩ = _
  rw [callB_e, e2]
  show (match fn (vs.map Sl.val) [] with | .ok r cs' => _ | .exc x cs' => _ | .stuck => _) = _
  rw [h]
  simp [p]
def isV : Sl → Bool
  | .val _ => true
  | _ => false
theorem vals_of : ∀ {args : List Sl}, args.all isV = true → ∃ vs : List D, args = vs.map Sl.val
  | [], _ => ⟨[], rfl⟩
  | .val d :: r, h => by
    obtain ⟨vs, e⟩ := vals_of (args := r) (by simpa [isV] using h)
    exact ⟨d :: vs, by rw [e]; rfl⟩
  | .und :: r, h => by simp [isV] at h
  | .cel k :: r, h => by simp [isV] at h
/-- a def of data alone -/
abbrev Pu (fn : Fn) (args : List Sl) (r : D) : Prop := ∀ e, callM fn args e = .ok (.val r) e
theorem Pu.of {fn : Fn} {args : List Sl} {r : D} (h : fn args [] = .ok (.val r) []) (hv : args.all isV = true := by rfl) : Pu fn args r := fun e => by
  obtain ⟨vs, rfl⟩ := vals_of hv
  exact callM_v h
theorem range_mem {lo : Int} {n : Nat} {d : D} (h : d ∈ rangeL lo n) : ∃ i : Nat, i < n ∧ d = .int (lo + i) := by
  unfold rangeL at h
  obtain ⟨i, hi, rfl⟩ := List.mem_map.mp h
  exact ⟨i, List.mem_range.mp hi, rfl⟩
end DL
namespace DL
def b_l_pen : List CS :=
  [.rtn (.dct 1 [(.str [99, 101, 108, 108, 115]), (.str [97, 116]), (.str [108, 101, 102, 116])] [(.bi .listOf 0 [(.slc 0 (.var 0) none (some (.lit (.int 63))))]), (.lit (.int 0)), (.lit (.int 0))])]
/- 42 _law_pen: 0=_law_script -/
abbrev c_l_pen : CDef := ⟨1, 1, b_l_pen⟩
class K_l_pen (P : Nat → CDef) : Prop where
  e_l_pen : P 42 = c_l_pen
def b_l_draw2 : List CS :=
  [.ite (.cmp .gt (.dget (.var 0) (.lit (.str [108, 101, 102, 116]))) (.lit (.int 0)))
   [.setv 5 (.bin 0 .mod (.dget (.var 0) (.lit (.str [108, 101, 102, 116]))) (.var 1)),
    .dput (.var 0) (.lit (.str [108, 101, 102, 116])) (.bin 0 .fdiv (.dget (.var 0) (.lit (.str [108, 101, 102, 116]))) (.var 1)),
    .rtn (.var 5)]
   [],
  .setv 2 (.dget (.var 0) (.lit (.str [97, 116]))),
  .dput (.var 0) (.lit (.str [97, 116])) (.bin 0 .add (.var 2) (.lit (.int 1))),
  .setv 3 (.bin 0 .add (.bin 0 .mul (.var 2) (.lit (.int 7))) (.lit (.int 3))),
  .ite (.cmp .ne (.dget (.var 0) (.lit (.str [99, 101, 108, 108, 115]))) (.lst 0 []))
   [.setv 3 (.idx (.dget (.var 0) (.lit (.str [99, 101, 108, 108, 115]))) (.bin 0 .mod (.var 2) (.bi .len 0 [(.dget (.var 0) (.lit (.str [99, 101, 108, 108, 115])))])))]
   [],
  .ite (.and2 (.cmp .lt (.var 2) (.bi .len 0 [(.dget (.var 0) (.lit (.str [99, 101, 108, 108, 115])))])) (.cmp .ge (.bi .abs 0 [(.var 3)]) (.bin 0 .pow (.lit (.int 10)) (.lit (.int 18)))))
   [.dput (.var 0) (.lit (.str [108, 101, 102, 116])) (.bin 0 .fdiv (.bi .abs 0 [(.var 3)]) (.var 1)),
    .rtn (.bin 0 .mod (.bi .abs 0 [(.var 3)]) (.var 1))]
   [],
  .setv 4 (.bin 0 .mod (.bin 0 .add (.bin 0 .add (.bin 0 .mod (.var 3) (.lit (.int 2147483629))) (.bin 0 .mul (.bin 0 .mul (.bin 0 .add (.var 2) (.lit (.int 1))) (.bin 0 .add (.var 2) (.lit (.int 2)))) (.lit (.int 48271)))) (.lit (.int 11))) (.lit (.int 2147483647))),
  .setv 4 (.bin 0 .mod (.bin 0 .pow (.var 4) (.lit (.int 5))) (.lit (.int 2147483587))),
  .setv 4 (.bin 0 .mod (.bin 0 .pow (.bin 0 .add (.var 4) (.bin 0 .mul (.bin 0 .add (.var 2) (.lit (.int 5))) (.lit (.int 69621)))) (.lit (.int 3))) (.lit (.int 2147483579))),
  .rtn (.bin 0 .mod (.bin 0 .fdiv (.var 4) (.lit (.int 16))) (.var 1))]
def s0_l_draw2 : CS := .ite (.cmp .gt (.dget (.var 0) (.lit (.str [108, 101, 102, 116]))) (.lit (.int 0)))
   [.setv 5 (.bin 0 .mod (.dget (.var 0) (.lit (.str [108, 101, 102, 116]))) (.var 1)),
    .dput (.var 0) (.lit (.str [108, 101, 102, 116])) (.bin 0 .fdiv (.dget (.var 0) (.lit (.str [108, 101, 102, 116]))) (.var 1)),
    .rtn (.var 5)]
   []
def s1_l_draw2 : CS := .setv 2 (.dget (.var 0) (.lit (.str [97, 116])))
def s2_l_draw2 : CS := .dput (.var 0) (.lit (.str [97, 116])) (.bin 0 .add (.var 2) (.lit (.int 1)))
def s3_l_draw2 : CS := .setv 3 (.bin 0 .add (.bin 0 .mul (.var 2) (.lit (.int 7))) (.lit (.int 3)))
def s4_l_draw2 : CS := .ite (.cmp .ne (.dget (.var 0) (.lit (.str [99, 101, 108, 108, 115]))) (.lst 0 []))
   [.setv 3 (.idx (.dget (.var 0) (.lit (.str [99, 101, 108, 108, 115]))) (.bin 0 .mod (.var 2) (.bi .len 0 [(.dget (.var 0) (.lit (.str [99, 101, 108, 108, 115])))])))]
   []
def s5_l_draw2 : CS := .ite (.and2 (.cmp .lt (.var 2) (.bi .len 0 [(.dget (.var 0) (.lit (.str [99, 101, 108, 108, 115])))])) (.cmp .ge (.bi .abs 0 [(.var 3)]) (.bin 0 .pow (.lit (.int 10)) (.lit (.int 18)))))
   [.dput (.var 0) (.lit (.str [108, 101, 102, 116])) (.bin 0 .fdiv (.bi .abs 0 [(.var 3)]) (.var 1)),
    .rtn (.bin 0 .mod (.bi .abs 0 [(.var 3)]) (.var 1))]
   []
def s6_l_draw2 : CS := .setv 4 (.bin 0 .mod (.bin 0 .add (.bin 0 .add (.bin 0 .mod (.var 3) (.lit (.int 2147483629))) (.bin 0 .mul (.bin 0 .mul (.bin 0 .add (.var 2) (.lit (.int 1))) (.bin 0 .add (.var 2) (.lit (.int 2)))) (.lit (.int 48271)))) (.lit (.int 11))) (.lit (.int 2147483647)))
def s7_l_draw2 : CS := .setv 4 (.bin 0 .mod (.bin 0 .pow (.var 4) (.lit (.int 5))) (.lit (.int 2147483587)))
def s8_l_draw2 : CS := .setv 4 (.bin 0 .mod (.bin 0 .pow (.bin 0 .add (.var 4) (.bin 0 .mul (.bin 0 .add (.var 2) (.lit (.int 5))) (.lit (.int 69621)))) (.lit (.int 3))) (.lit (.int 2147483579)))
def s9_l_draw2 : CS := .rtn (.bin 0 .mod (.bin 0 .fdiv (.var 4) (.lit (.int 16))) (.var 1))
theorem b_l_draw2_eq : b_l_draw2 = [s0_l_draw2, s1_l_draw2, s2_l_draw2, s3_l_draw2, s4_l_draw2, s5_l_draw2, s6_l_draw2, s7_l_draw2, s8_l_draw2, s9_l_draw2] := rfl
/- 43 _law_draw: 0=_law_pen_here 1=_law_many 2=_law_at 3=_law_cell 4=_law_number 5=_law_digit -/
abbrev c_l_draw2 : CDef := ⟨6, 2, b_l_draw2⟩
class K_l_draw2 (P : Nat → CDef) : Prop where
  e_l_draw2 : P 43 = c_l_draw2
end DL
namespace DL
def b_l_share2 : List CS :=
  [.rtn (.idx (.lst 0 [(.lit (.int 1)), (.bin 0 .add (.lit (.int 1)) (.call 43 [(.var 0), (.lit (.int 4))])), (.bin 0 .add (.lit (.int 1)) (.call 43 [(.var 0), (.lit (.int 100))]))]) (.call 43 [(.var 0), (.lit (.int 3))]))]
/- 116 _law_share: 0=_law_pen_here -/
abbrev c_l_share2 : CDef := ⟨1, 1, b_l_share2⟩
class K_l_share2 (P : Nat → CDef) : Prop extends K_l_draw2 P where
  e_l_share2 : P 116 = c_l_share2
def x1_l_depth : CE := (.call 102 [(.var 2)])
def q1_l_depth : CE := (.comp 0 [1, 2] (.t [(.v 1), (.v 2)]) (.seq (.idx (.var 0) (.lit (.int 1)))) none x1_l_depth)
def b_l_depth : List CS :=
  [.ite (.cmp .eq (.idx (.var 0) (.lit (.int 0))) (.lit (.str [112, 97, 110, 101, 108])))
   [.rtn (.lit (.int 0))]
   [],
  .rtn (.bin 0 .add (.lit (.int 1)) (.bi .maxL 0 [q1_l_depth]))]
/- 102 _law_depth: 0=_law_layout_here 1=_law_share_here 2=_law_part -/
abbrev c_l_depth : CDef := ⟨3, 1, b_l_depth⟩
class K_l_depth (P : Nat → CDef) : Prop where
  e_l_depth : P 102 = c_l_depth
def x1_l_room : CE := (.var 6)
def q1_l_room : CE := (.comp 0 [6, 7] (.t [(.v 6), (.v 7)]) (.seq (.idx (.var 0) (.lit (.int 1)))) none x1_l_room)
def b1_l_room : List CS :=
  [.setT [(.v 8), (.v 9)] (.call 117 [(.var 7), (.var 1)]),
  .ite (.cmp .eq (.idx (.var 0) (.lit (.int 0))) (.lit (.str [114, 111, 119, 115])))
   [.par 8 9 (.var 9) (.var 8)]
   [],
  .setv 4 (.bi .max2 0 [(.var 4), (.bin 0 .add (.bin 0 .fdiv (.bin 0 .sub (.bin 0 .add (.bin 0 .mul (.var 8) (.var 3)) (.var 6)) (.lit (.int 1))) (.var 6)) (.lit (.int 1)))]),
  .setv 5 (.bi .max2 0 [(.var 5), (.var 9)])]
def l1_l_room : CS := .fors (.t [(.v 6), (.v 7)]) (.seq (.idx (.var 0) (.lit (.int 1)))) b1_l_room
def b_l_room : List CS :=
  [.ite (.cmp .eq (.idx (.var 0) (.lit (.int 0))) (.lit (.str [112, 97, 110, 101, 108])))
   [.rtn (.tup [(.lit (.int 1)), (.lit (.int 1))])]
   [],
  .setv 2 (.bin 0 .mul (.call 102 [(.var 0)]) (.var 1)),
  .setv 3 (.bi .sum 0 [q1_l_room]),
  .setT [(.v 4), (.v 5)] (.tup [(.lit (.int 1)), (.lit (.int 1))]),
  l1_l_room,
  .setv 4 (.bin 0 .add (.var 4) (.bin 0 .mul (.bin 0 .sub (.bi .len 0 [(.idx (.var 0) (.lit (.int 1)))]) (.lit (.int 1))) (.var 2))),
  .rtn (.idx (.lst 0 [(.tup [(.var 4), (.var 5)]), (.tup [(.var 5), (.var 4)])]) (.bi .int1 0 [(.cmp .eq (.idx (.var 0) (.lit (.int 0))) (.lit (.str [114, 111, 119, 115])))]))]
def s0_l_room : CS := .ite (.cmp .eq (.idx (.var 0) (.lit (.int 0))) (.lit (.str [112, 97, 110, 101, 108])))
   [.rtn (.tup [(.lit (.int 1)), (.lit (.int 1))])]
   []
def s1_l_room : CS := .setv 2 (.bin 0 .mul (.call 102 [(.var 0)]) (.var 1))
def s2_l_room : CS := .setv 3 (.bi .sum 0 [q1_l_room])
def s3_l_room : CS := .setT [(.v 4), (.v 5)] (.tup [(.lit (.int 1)), (.lit (.int 1))])
def s4_l_room : CS := l1_l_room
def s5_l_room : CS := .setv 4 (.bin 0 .add (.var 4) (.bin 0 .mul (.bin 0 .sub (.bi .len 0 [(.idx (.var 0) (.lit (.int 1)))]) (.lit (.int 1))) (.var 2)))
def s6_l_room : CS := .rtn (.idx (.lst 0 [(.tup [(.var 4), (.var 5)]), (.tup [(.var 5), (.var 4)])]) (.bi .int1 0 [(.cmp .eq (.idx (.var 0) (.lit (.int 0))) (.lit (.str [114, 111, 119, 115])))]))
theorem b_l_room_eq : b_l_room = [s0_l_room, s1_l_room, s2_l_room, s3_l_room, s4_l_room, s5_l_room, s6_l_room] := rfl
/- 117 _law_room: 0=_law_layout_here 1=_law_gap 2=_law_wide 3=_law_whole 4=_law_across 5=_law_down 6=_law_share_here 7=_law_part 8=_law_x 9=_law_y -/
abbrev c_l_room : CDef := ⟨10, 2, b_l_room⟩
class K_l_room (P : Nat → CDef) : Prop extends K_l_depth P where
  e_l_room : P 117 = c_l_room
def b_l_framed : List CS :=
  [.setT [(.v 5), (.v 6)] (.call 117 [(.var 1), (.var 2)]),
  .setv 3 (.lst 0 [(.lit (.int 0)), (.call 43 [(.var 0), (.lit (.int 9))]), (.call 43 [(.var 0), (.lit (.int 400))])]),
  .par 5 6 (.bi .min2 0 [(.bin 0 .pow (.lit (.int 10)) (.lit (.int 6))), (.bin 0 .add (.var 5) (.idx (.var 3) (.call 43 [(.var 0), (.lit (.int 3))])))]) (.bi .min2 0 [(.bin 0 .pow (.lit (.int 10)) (.lit (.int 6))), (.bin 0 .add (.var 6) (.idx (.var 3) (.call 43 [(.var 0), (.lit (.int 3))])))]),
  .setv 4 (.idx (.lst 0 [(.lit (.int 0)), (.lit (.int 50)), (.bin 0 .pow (.lit (.int 10)) (.lit (.int 6)))]) (.call 43 [(.var 0), (.lit (.int 3))])),
  .par 7 8 (.bin 0 .sub (.call 43 [(.var 0), (.bin 0 .add (.bin 0 .mul (.lit (.int 2)) (.var 4)) (.lit (.int 1)))]) (.var 4)) (.bin 0 .sub (.call 43 [(.var 0), (.bin 0 .add (.bin 0 .mul (.lit (.int 2)) (.var 4)) (.lit (.int 1)))]) (.var 4)),
  .rtn (.tup [(.bi .min2 0 [(.var 7), (.bin 0 .sub (.bin 0 .pow (.lit (.int 10)) (.lit (.int 6))) (.var 5))]), (.bi .min2 0 [(.var 8), (.bin 0 .sub (.bin 0 .pow (.lit (.int 10)) (.lit (.int 6))) (.var 6))]), (.var 5), (.var 6)])]
def s0_l_framed : CS := .setT [(.v 5), (.v 6)] (.call 117 [(.var 1), (.var 2)])
def s1_l_framed : CS := .setv 3 (.lst 0 [(.lit (.int 0)), (.call 43 [(.var 0), (.lit (.int 9))]), (.call 43 [(.var 0), (.lit (.int 400))])])
def s2_l_framed : CS := .par 5 6 (.bi .min2 0 [(.bin 0 .pow (.lit (.int 10)) (.lit (.int 6))), (.bin 0 .add (.var 5) (.idx (.var 3) (.call 43 [(.var 0), (.lit (.int 3))])))]) (.bi .min2 0 [(.bin 0 .pow (.lit (.int 10)) (.lit (.int 6))), (.bin 0 .add (.var 6) (.idx (.var 3) (.call 43 [(.var 0), (.lit (.int 3))])))])
def s3_l_framed : CS := .setv 4 (.idx (.lst 0 [(.lit (.int 0)), (.lit (.int 50)), (.bin 0 .pow (.lit (.int 10)) (.lit (.int 6)))]) (.call 43 [(.var 0), (.lit (.int 3))]))
def s4_l_framed : CS := .par 7 8 (.bin 0 .sub (.call 43 [(.var 0), (.bin 0 .add (.bin 0 .mul (.lit (.int 2)) (.var 4)) (.lit (.int 1)))]) (.var 4)) (.bin 0 .sub (.call 43 [(.var 0), (.bin 0 .add (.bin 0 .mul (.lit (.int 2)) (.var 4)) (.lit (.int 1)))]) (.var 4))
def s5_l_framed : CS := .rtn (.tup [(.bi .min2 0 [(.var 7), (.bin 0 .sub (.bin 0 .pow (.lit (.int 10)) (.lit (.int 6))) (.var 5))]), (.bi .min2 0 [(.var 8), (.bin 0 .sub (.bin 0 .pow (.lit (.int 10)) (.lit (.int 6))) (.var 6))]), (.var 5), (.var 6)])
theorem b_l_framed_eq : b_l_framed = [s0_l_framed, s1_l_framed, s2_l_framed, s3_l_framed, s4_l_framed, s5_l_framed] := rfl
/- 118 _law_framed: 0=_law_pen_here 1=_law_layout_here 2=_law_gap 3=_law_more 4=_law_far 5=_law_x 6=_law_y 7=_law_left 8=_law_top -/
abbrev c_l_framed : CDef := ⟨9, 3, b_l_framed⟩
class K_l_framed (P : Nat → CDef) : Prop extends K_l_draw2 P, K_l_room P where
  e_l_framed : P 118 = c_l_framed
end DL
namespace DL
def b_has_point : List CS :=
  [.setT [(.v 3), (.v 4), (.v 5), (.v 6)] (.var 0),
  .rtn (.and2 (.chain .le .lt (.var 3) (.var 1) (.bin 0 .add (.var 3) (.var 5))) (.chain .le .lt (.var 4) (.var 2) (.bin 0 .add (.var 4) (.var 6))))]
/- 14 has_point: 0=box 1=x 2=y 3=left 4=top 5=wide 6=high -/
abbrev c_has_point : CDef := ⟨7, 3, b_has_point⟩
class K_has_point (P : Nat → CDef) : Prop where
  e_has_point : P 14 = c_has_point
def b_overlap : List CS :=
  [.rtn (.bi .max2 0 [(.lit (.int 0)), (.bin 0 .sub (.bi .min2 0 [(.bin 0 .add (.var 0) (.var 1)), (.bin 0 .add (.var 2) (.var 3))]) (.bi .max2 0 [(.var 0), (.var 2)]))])]
/- 15 overlap: 0=start 1=size 2=other 3=more -/
abbrev c_overlap : CDef := ⟨4, 4, b_overlap⟩
class K_overlap (P : Nat → CDef) : Prop where
  e_overlap : P 15 = c_overlap
def b_apart : List CS :=
  [.rtn (.bi .max2 0 [(.lit (.int 0)), (.bin 0 .sub (.bi .max2 0 [(.var 0), (.var 2)]) (.bi .min2 0 [(.bin 0 .add (.var 0) (.var 1)), (.bin 0 .add (.var 2) (.var 3))]))])]
/- 16 apart: 0=start 1=size 2=other 3=more -/
abbrev c_apart : CDef := ⟨4, 4, b_apart⟩
class K_apart (P : Nat → CDef) : Prop where
  e_apart : P 16 = c_apart
def b_in_common : List CS :=
  [.setv 2 (.call 15 [(.idx (.var 0) (.lit (.int 0))), (.idx (.var 0) (.lit (.int 2))), (.idx (.var 1) (.lit (.int 0))), (.idx (.var 1) (.lit (.int 2)))]),
  .rtn (.bin 0 .mul (.var 2) (.call 15 [(.idx (.var 0) (.lit (.int 1))), (.idx (.var 0) (.lit (.int 3))), (.idx (.var 1) (.lit (.int 1))), (.idx (.var 1) (.lit (.int 3)))]))]
/- 17 in_common: 0=one 1=other 2=across -/
abbrev c_in_common : CDef := ⟨3, 2, b_in_common⟩
class K_in_common (P : Nat → CDef) : Prop extends K_overlap P where
  e_in_common : P 17 = c_in_common
def b_distance : List CS :=
  [.setv 2 (.call 16 [(.idx (.var 0) (.lit (.int 0))), (.idx (.var 0) (.lit (.int 2))), (.idx (.var 1) (.lit (.int 0))), (.idx (.var 1) (.lit (.int 2)))]),
  .setv 3 (.call 16 [(.idx (.var 0) (.lit (.int 1))), (.idx (.var 0) (.lit (.int 3))), (.idx (.var 1) (.lit (.int 1))), (.idx (.var 1) (.lit (.int 3)))]),
  .rtn (.bin 0 .add (.bin 0 .mul (.var 2) (.var 2)) (.bin 0 .mul (.var 3) (.var 3)))]
/- 18 distance: 0=one 1=other 2=across 3=down -/
abbrev c_distance : CDef := ⟨4, 2, b_distance⟩
class K_distance (P : Nat → CDef) : Prop extends K_apart P where
  e_distance : P 18 = c_distance
def t1_belongs_to : CE := (.call 14 [(.var 10), (.idx (.var 6) (.lit (.int 0))), (.idx (.var 6) (.lit (.int 1)))])
def x1_belongs_to : CE := (.var 9)
def q1_belongs_to : CE := (.comp 0 [9, 10] (.t [(.v 9), (.v 10)]) (.seq (.var 0)) (some t1_belongs_to) x1_belongs_to)
def x2_belongs_to : CE := (.call 17 [(.var 10), (.var 5)])
def q2_belongs_to : CE := (.comp 0 [9, 10] (.t [(.v 9), (.v 10)]) (.seq (.var 0)) none x2_belongs_to)
def x3_belongs_to : CE := (.call 18 [(.var 10), (.var 5)])
def q3_belongs_to : CE := (.comp 0 [9, 10] (.t [(.v 9), (.v 10)]) (.seq (.var 0)) none x3_belongs_to)
def b_belongs_to : List CS :=
  [.setT [(.v 4), (.v 5), (.v 6), (.v 7)] (.var 1),
  .ite (.cmp .notN (.var 6) (.lit .non))
   [.setv 8 q1_belongs_to,
    .ite (.cmp .ne (.var 8) (.lst 0 []))
     [.rtn (.idx (.var 8) (.lit (.int 0)))]
     []]
   [],
  .setv 2 q2_belongs_to,
  .ite (.cmp .gt (.bi .maxL 0 [(.var 2)]) (.lit (.int 0)))
   [.rtn (.idx (.idx (.var 0) (.mt .index 0 (.var 2) [(.bi .maxL 0 [(.var 2)])])) (.lit (.int 0)))]
   [],
  .setv 3 q3_belongs_to,
  .rtn (.idx (.idx (.var 0) (.mt .index 0 (.var 3) [(.bi .minL 0 [(.var 3)])])) (.lit (.int 0)))]
def s0_belongs_to : CS := .setT [(.v 4), (.v 5), (.v 6), (.v 7)] (.var 1)
def s1_belongs_to : CS := .ite (.cmp .notN (.var 6) (.lit .non))
   [.setv 8 q1_belongs_to,
    .ite (.cmp .ne (.var 8) (.lst 0 []))
     [.rtn (.idx (.var 8) (.lit (.int 0)))]
     []]
   []
def s2_belongs_to : CS := .setv 2 q2_belongs_to
def s3_belongs_to : CS := .ite (.cmp .gt (.bi .maxL 0 [(.var 2)]) (.lit (.int 0)))
   [.rtn (.idx (.idx (.var 0) (.mt .index 0 (.var 2) [(.bi .maxL 0 [(.var 2)])])) (.lit (.int 0)))]
   []
def s4_belongs_to : CS := .setv 3 q3_belongs_to
def s5_belongs_to : CS := .rtn (.idx (.idx (.var 0) (.mt .index 0 (.var 3) [(.bi .minL 0 [(.var 3)])])) (.lit (.int 0)))
theorem b_belongs_to_eq : b_belongs_to = [s0_belongs_to, s1_belongs_to, s2_belongs_to, s3_belongs_to, s4_belongs_to, s5_belongs_to] := rfl
/- 98 belongs_to: 0=panels 1=bubble 2=shares 3=steps 4=name 5=box 6=tip 7=text 8=held 9=panel 10=place -/
abbrev c_belongs_to : CDef := ⟨11, 2, b_belongs_to⟩
class K_belongs_to (P : Nat → CDef) : Prop extends K_distance P, K_has_point P, K_in_common P where
  e_belongs_to : P 98 = c_belongs_to
def x1_l_names : CE := (.bin 0 .add (.bin 0 .add (.var 3) (.idx (.lit (.str [97, 98, 99, 100, 101, 102, 103, 104, 105, 106, 107, 108, 109, 110, 111, 112, 113, 114, 115, 116, 117, 118, 119, 120, 121, 122])) (.bin 0 .mod (.bin 0 .add (.var 2) (.bin 0 .mul (.lit (.int 7)) (.var 5))) (.lit (.int 26))))) (.slc 0 (.var 4) none (some (.bin 0 .mod (.bin 0 .mul (.var 5) (.lit (.int 3))) (.lit (.int 5))))))
def q1_l_names : CE := (.comp 0 [5] (.v 5) (.rng1 (.var 1)) none x1_l_names)
def b_l_names : List CS :=
  [.setv 2 (.call 43 [(.var 0), (.lit (.int 26))]),
  .setv 3 (.slc 0 (.lit (.str [113, 113, 113])) none (some (.call 43 [(.var 0), (.lit (.int 4))]))),
  .setv 4 (.slc 0 (.lit (.str [122, 122, 122, 122])) none (some (.call 43 [(.var 0), (.lit (.int 5))]))),
  .rtn q1_l_names]
/- 63 _law_names: 0=_law_pen_here 1=_law_many 2=_law_first 3=_law_ahead 4=_law_tail 5=_law_k -/
abbrev c_l_names : CDef := ⟨6, 2, b_l_names⟩
class K_l_names (P : Nat → CDef) : Prop extends K_l_draw2 P where
  e_l_names : P 63 = c_l_names
def b_l_share : List CS :=
  [.rtn (.idx (.lst 0 [(.lit (.int 1)), (.lit (.int 1)), (.lit (.int 2)), (.bin 0 .add (.lit (.int 1)) (.call 43 [(.var 0), (.lit (.int 9))])), (.bin 0 .add (.lit (.int 1)) (.call 43 [(.var 0), (.lit (.int 100))]))]) (.call 43 [(.var 0), (.lit (.int 5))]))]
/- 99 _law_share: 0=_law_pen_here -/
abbrev c_l_share : CDef := ⟨1, 1, b_l_share⟩
class K_l_share (P : Nat → CDef) : Prop extends K_l_draw2 P where
  e_l_share : P 99 = c_l_share
def x1_l_tree : CE := (.tup [(.call 99 [(.var 0)]), (.tup [(.lit (.str [112, 97, 110, 101, 108])), (.var 12)])])
def q1_l_tree : CE := (.comp 0 [12] (.v 12) (.seq (.slc 0 (.var 1) none (some (.lit (.int 6))))) none x1_l_tree)
def b1_l_tree : List CS :=
  [.setv 9 (.bin 0 .sub (.bin 0 .sub (.bi .len 0 [(.var 1)]) (.var 7)) (.bin 0 .sub (.bin 0 .sub (.var 4) (.var 8)) (.lit (.int 1)))),
  .setv 10 (.bin 0 .add (.lit (.int 1)) (.call 43 [(.var 0), (.var 9)])),
  .ite (.cmp .eq (.var 8) (.bin 0 .sub (.var 4) (.lit (.int 1))))
   [.setv 10 (.var 9)]
   [],
  .setv 11 (.call 99 [(.var 0)]),
  .expr (.mt .append 0 (.var 6) [(.tup [(.var 11), (.call 100 [(.var 0), (.slc 0 (.var 1) (some (.var 7)) (some (.bin 0 .add (.var 7) (.var 10)))), (.var 5), (.bin 0 .sub (.var 3) (.lit (.int 1)))])])]),
  .setv 7 (.bin 0 .add (.var 7) (.var 10))]
def l1_l_tree : CS := .fors (.v 8) (.rng1 (.var 4)) b1_l_tree
def b_l_tree : List CS :=
  [.ite (.cmp .eq (.bi .len 0 [(.var 1)]) (.lit (.int 1)))
   [.rtn (.tup [(.lit (.str [112, 97, 110, 101, 108])), (.idx (.var 1) (.lit (.int 0)))])]
   [],
  .ite (.cmp .eq (.var 3) (.lit (.int 1)))
   [.rtn (.tup [(.var 2), (.bi .tupleOf 0 [q1_l_tree])])]
   [],
  .setv 4 (.bin 0 .add (.lit (.int 2)) (.call 43 [(.var 0), (.bin 0 .sub (.bi .min2 0 [(.bi .len 0 [(.var 1)]), (.lit (.int 5))]) (.lit (.int 1)))])),
  .setv 5 (.idx (.lst 0 [(.lit (.str [99, 111, 108, 117, 109, 110, 115])), (.lit (.str [114, 111, 119, 115]))]) (.bi .int1 0 [(.cmp .eq (.var 2) (.lit (.str [99, 111, 108, 117, 109, 110, 115])))])),
  .setv 6 (.lst 1 []),
  .setv 7 (.lit (.int 0)),
  l1_l_tree,
  .rtn (.tup [(.var 2), (.bi .tupleOf 0 [(.var 6)])])]
def s0_b1_l_tree : CS := .setv 9 (.bin 0 .sub (.bin 0 .sub (.bi .len 0 [(.var 1)]) (.var 7)) (.bin 0 .sub (.bin 0 .sub (.var 4) (.var 8)) (.lit (.int 1))))
def s1_b1_l_tree : CS := .setv 10 (.bin 0 .add (.lit (.int 1)) (.call 43 [(.var 0), (.var 9)]))
def s2_b1_l_tree : CS := .ite (.cmp .eq (.var 8) (.bin 0 .sub (.var 4) (.lit (.int 1))))
   [.setv 10 (.var 9)]
   []
def s3_b1_l_tree : CS := .setv 11 (.call 99 [(.var 0)])
def s4_b1_l_tree : CS := .expr (.mt .append 0 (.var 6) [(.tup [(.var 11), (.call 100 [(.var 0), (.slc 0 (.var 1) (some (.var 7)) (some (.bin 0 .add (.var 7) (.var 10)))), (.var 5), (.bin 0 .sub (.var 3) (.lit (.int 1)))])])])
def s5_b1_l_tree : CS := .setv 7 (.bin 0 .add (.var 7) (.var 10))
theorem b1_l_tree_eq : b1_l_tree = [s0_b1_l_tree, s1_b1_l_tree, s2_b1_l_tree, s3_b1_l_tree, s4_b1_l_tree, s5_b1_l_tree] := rfl
def s0_l_tree : CS := .ite (.cmp .eq (.bi .len 0 [(.var 1)]) (.lit (.int 1)))
   [.rtn (.tup [(.lit (.str [112, 97, 110, 101, 108])), (.idx (.var 1) (.lit (.int 0)))])]
   []
def s1_l_tree : CS := .ite (.cmp .eq (.var 3) (.lit (.int 1)))
   [.rtn (.tup [(.var 2), (.bi .tupleOf 0 [q1_l_tree])])]
   []
def s2_l_tree : CS := .setv 4 (.bin 0 .add (.lit (.int 2)) (.call 43 [(.var 0), (.bin 0 .sub (.bi .min2 0 [(.bi .len 0 [(.var 1)]), (.lit (.int 5))]) (.lit (.int 1)))]))
def s3_l_tree : CS := .setv 5 (.idx (.lst 0 [(.lit (.str [99, 111, 108, 117, 109, 110, 115])), (.lit (.str [114, 111, 119, 115]))]) (.bi .int1 0 [(.cmp .eq (.var 2) (.lit (.str [99, 111, 108, 117, 109, 110, 115])))]))
def s4_l_tree : CS := .setv 6 (.lst 1 [])
def s5_l_tree : CS := .setv 7 (.lit (.int 0))
def s6_l_tree : CS := l1_l_tree
def s7_l_tree : CS := .rtn (.tup [(.var 2), (.bi .tupleOf 0 [(.var 6)])])
theorem b_l_tree_eq : b_l_tree = [s0_l_tree, s1_l_tree, s2_l_tree, s3_l_tree, s4_l_tree, s5_l_tree, s6_l_tree, s7_l_tree] := rfl
/- 100 _law_tree: 0=_law_pen_here 1=_law_names_here 2=_law_way 3=_law_deep 4=_law_many 5=_law_other 6=_law_parts 7=_law_at 8=_law_k 9=_law_left 10=_law_size 11=_law_share_here 12=_law_name -/
abbrev c_l_tree : CDef := ⟨13, 4, b_l_tree⟩
class K_l_tree (P : Nat → CDef) : Prop extends K_l_draw2 P, K_l_share P where
  e_l_tree : P 100 = c_l_tree
def b_l_layout : List CS :=
  [.setv 2 (.idx (.lst 0 [(.lit (.str [114, 111, 119, 115])), (.lit (.str [99, 111, 108, 117, 109, 110, 115]))]) (.call 43 [(.var 0), (.lit (.int 2))])),
  .setv 3 (.bin 0 .add (.lit (.int 1)) (.call 43 [(.var 0), (.lit (.int 4))])),
  .setv 4 (.bin 0 .add (.lit (.int 1)) (.call 43 [(.var 0), (.var 1)])),
  .rtn (.call 100 [(.var 0), (.call 63 [(.var 0), (.var 4)]), (.var 2), (.var 3)])]
/- 101 _law_layout: 0=_law_pen_here 1=_law_most 2=_law_way 3=_law_deep 4=_law_many -/
abbrev c_l_layout : CDef := ⟨5, 2, b_l_layout⟩
class K_l_layout (P : Nat → CDef) : Prop extends K_l_draw2 P, K_l_names P, K_l_tree P where
  e_l_layout : P 101 = c_l_layout
def x1_l_dealt : CE := (.bin 0 .fdiv (.bin 0 .mul (.var 0) (.var 7)) (.var 2))
def q1_l_dealt : CE := (.comp 1 [7] (.v 7) (.seq (.var 1)) none x1_l_dealt)
def x2_l_dealt : CE := (.bin 0 .mod (.bin 0 .mul (.var 0) (.var 7)) (.var 2))
def q2_l_dealt : CE := (.comp 1 [7] (.v 7) (.seq (.var 1)) none x2_l_dealt)
def b1_l_dealt : List CS :=
  [.setv 6 (.mt .index 0 (.var 4) [(.bi .maxL 0 [(.var 4)])]),
  .sub (.var 3) (.var 6) (.bin 0 .add (.idx (.var 3) (.var 6)) (.lit (.int 1))),
  .sub (.var 4) (.var 6) (.neg (.lit (.int 1)))]
def l1_l_dealt : CS := .fors (.v 5) (.rng1 (.bin 0 .sub (.var 0) (.bi .sum 0 [(.var 3)]))) b1_l_dealt
def b_l_dealt : List CS :=
  [.setv 2 (.bi .sum 0 [(.var 1)]),
  .setv 3 q1_l_dealt,
  .setv 4 q2_l_dealt,
  l1_l_dealt,
  .rtn (.frz (.var 3))]
def s0_l_dealt : CS := .setv 2 (.bi .sum 0 [(.var 1)])
def s1_l_dealt : CS := .setv 3 q1_l_dealt
def s2_l_dealt : CS := .setv 4 q2_l_dealt
def s3_l_dealt : CS := l1_l_dealt
def s4_l_dealt : CS := .rtn (.frz (.var 3))
theorem b_l_dealt_eq : b_l_dealt = [s0_l_dealt, s1_l_dealt, s2_l_dealt, s3_l_dealt, s4_l_dealt] := rfl
/- 103 _law_dealt: 0=_law_room 1=_law_shares 2=_law_whole 3=_law_sizes 4=_law_rests 5=_law_turn 6=_law_best 7=_law_share_here -/
abbrev c_l_dealt : CDef := ⟨8, 2, b_l_dealt⟩
class K_l_dealt (P : Nat → CDef) : Prop where
  e_l_dealt : P 103 = c_l_dealt
def x1_l_laid : CE := (.var 18)
def q1_l_laid : CE := (.comp 0 [18, 19] (.t [(.v 18), (.v 19)]) (.seq (.var 5)) none x1_l_laid)
def b1_l_laid : List CS :=
  [.setv 16 (.tup [(.var 12), (.bin 0 .add (.var 13) (.var 10)), (.var 14), (.idx (.var 8) (.var 11))]),
  .ite (.and2 (.cmp .eq (.idx (.var 0) (.lit (.int 0))) (.lit (.str [99, 111, 108, 117, 109, 110, 115]))) (.cmp .eq (.var 3) (.lit (.str [114, 105, 103, 104, 116]))))
   [.setv 16 (.tup [(.bin 0 .add (.var 12) (.var 10)), (.var 13), (.idx (.var 8) (.var 11)), (.var 15)])]
   [.ite (.cmp .eq (.idx (.var 0) (.lit (.int 0))) (.lit (.str [99, 111, 108, 117, 109, 110, 115])))
     [.setv 16 (.tup [(.bin 0 .sub (.bin 0 .sub (.bin 0 .add (.var 12) (.var 14)) (.var 10)) (.idx (.var 8) (.var 11))), (.var 13), (.idx (.var 8) (.var 11)), (.var 15)])]
     []],
  .setv 17 (.lit .non),
  .ite (.cmp .gt (.idx (.var 8) (.var 11)) (.lit (.int 0)))
   [.setv 17 (.call 104 [(.idx (.idx (.var 5) (.var 11)) (.lit (.int 1))), (.var 16), (.var 2), (.var 3)])]
   [],
  .ite (.cmp .isN (.var 17) (.lit .non))
   [.rtn (.lit .non)]
   [],
  .setv 9 (.bin 0 .add (.var 9) (.var 17)),
  .setv 10 (.bin 0 .add (.bin 0 .add (.var 10) (.idx (.var 8) (.var 11))) (.var 4))]
def l1_l_laid : CS := .fors (.v 11) (.rng1 (.bi .len 0 [(.var 5)])) b1_l_laid
def b_l_laid : List CS :=
  [.ite (.cmp .eq (.idx (.var 0) (.lit (.int 0))) (.lit (.str [112, 97, 110, 101, 108])))
   [.rtn (.lst 0 [(.tup [(.idx (.var 0) (.lit (.int 1))), (.var 1)])])]
   [],
  .setT [(.v 12), (.v 13), (.v 14), (.v 15)] (.var 1),
  .setv 4 (.bin 0 .mul (.var 2) (.call 102 [(.var 0)])),
  .setv 5 (.idx (.var 0) (.lit (.int 1))),
  .setv 6 (.var 14),
  .ite (.cmp .eq (.idx (.var 0) (.lit (.int 0))) (.lit (.str [114, 111, 119, 115])))
   [.setv 6 (.var 15)]
   [],
  .setv 7 (.bin 0 .sub (.var 6) (.bin 0 .mul (.var 4) (.bin 0 .sub (.bi .len 0 [(.var 5)]) (.lit (.int 1))))),
  .ite (.cmp .lt (.var 7) (.bi .len 0 [(.var 5)]))
   [.rtn (.lit .non)]
   [],
  .setv 8 (.call 103 [(.var 7), q1_l_laid]),
  .setv 9 (.lst 0 []),
  .setv 10 (.lit (.int 0)),
  l1_l_laid,
  .rtn (.var 9)]
def s0_b1_l_laid : CS := .setv 16 (.tup [(.var 12), (.bin 0 .add (.var 13) (.var 10)), (.var 14), (.idx (.var 8) (.var 11))])
def s1_b1_l_laid : CS := .ite (.and2 (.cmp .eq (.idx (.var 0) (.lit (.int 0))) (.lit (.str [99, 111, 108, 117, 109, 110, 115]))) (.cmp .eq (.var 3) (.lit (.str [114, 105, 103, 104, 116]))))
   [.setv 16 (.tup [(.bin 0 .add (.var 12) (.var 10)), (.var 13), (.idx (.var 8) (.var 11)), (.var 15)])]
   [.ite (.cmp .eq (.idx (.var 0) (.lit (.int 0))) (.lit (.str [99, 111, 108, 117, 109, 110, 115])))
     [.setv 16 (.tup [(.bin 0 .sub (.bin 0 .sub (.bin 0 .add (.var 12) (.var 14)) (.var 10)) (.idx (.var 8) (.var 11))), (.var 13), (.idx (.var 8) (.var 11)), (.var 15)])]
     []]
def s2_b1_l_laid : CS := .setv 17 (.lit .non)
def s3_b1_l_laid : CS := .ite (.cmp .gt (.idx (.var 8) (.var 11)) (.lit (.int 0)))
   [.setv 17 (.call 104 [(.idx (.idx (.var 5) (.var 11)) (.lit (.int 1))), (.var 16), (.var 2), (.var 3)])]
   []
def s4_b1_l_laid : CS := .ite (.cmp .isN (.var 17) (.lit .non))
   [.rtn (.lit .non)]
   []
def s5_b1_l_laid : CS := .setv 9 (.bin 0 .add (.var 9) (.var 17))
def s6_b1_l_laid : CS := .setv 10 (.bin 0 .add (.bin 0 .add (.var 10) (.idx (.var 8) (.var 11))) (.var 4))
theorem b1_l_laid_eq : b1_l_laid = [s0_b1_l_laid, s1_b1_l_laid, s2_b1_l_laid, s3_b1_l_laid, s4_b1_l_laid, s5_b1_l_laid, s6_b1_l_laid] := rfl
def s0_l_laid : CS := .ite (.cmp .eq (.idx (.var 0) (.lit (.int 0))) (.lit (.str [112, 97, 110, 101, 108])))
   [.rtn (.lst 0 [(.tup [(.idx (.var 0) (.lit (.int 1))), (.var 1)])])]
   []
def s1_l_laid : CS := .setT [(.v 12), (.v 13), (.v 14), (.v 15)] (.var 1)
def s2_l_laid : CS := .setv 4 (.bin 0 .mul (.var 2) (.call 102 [(.var 0)]))
def s3_l_laid : CS := .setv 5 (.idx (.var 0) (.lit (.int 1)))
def s4_l_laid : CS := .setv 6 (.var 14)
def s5_l_laid : CS := .ite (.cmp .eq (.idx (.var 0) (.lit (.int 0))) (.lit (.str [114, 111, 119, 115])))
   [.setv 6 (.var 15)]
   []
def s6_l_laid : CS := .setv 7 (.bin 0 .sub (.var 6) (.bin 0 .mul (.var 4) (.bin 0 .sub (.bi .len 0 [(.var 5)]) (.lit (.int 1)))))
def s7_l_laid : CS := .ite (.cmp .lt (.var 7) (.bi .len 0 [(.var 5)]))
   [.rtn (.lit .non)]
   []
def s8_l_laid : CS := .setv 8 (.call 103 [(.var 7), q1_l_laid])
def s9_l_laid : CS := .setv 9 (.lst 0 [])
def s10_l_laid : CS := .setv 10 (.lit (.int 0))
def s11_l_laid : CS := l1_l_laid
def s12_l_laid : CS := .rtn (.var 9)
theorem b_l_laid_eq : b_l_laid = [s0_l_laid, s1_l_laid, s2_l_laid, s3_l_laid, s4_l_laid, s5_l_laid, s6_l_laid, s7_l_laid, s8_l_laid, s9_l_laid, s10_l_laid, s11_l_laid, s12_l_laid] := rfl
/- 104 _law_laid: 0=_law_layout_here 1=_law_box 2=_law_gap 3=_law_direction 4=_law_step 5=_law_parts 6=_law_side 7=_law_room 8=_law_sizes 9=_law_found 10=_law_at 11=_law_k 12=_law_left 13=_law_top 14=_law_wide 15=_law_high 16=_law_place 17=_law_inner 18=_law_share_here 19=_law_part -/
abbrev c_l_laid : CDef := ⟨20, 4, b_l_laid⟩
class K_l_laid (P : Nat → CDef) : Prop extends K_l_dealt P, K_l_depth P where
  e_l_laid : P 104 = c_l_laid
def b_l_points : List CS :=
  [.setv 2 (.bin 0 .sub (.bi .min2 0 [(.bin 0 .add (.idx (.var 0) (.lit (.int 0))) (.idx (.var 0) (.lit (.int 2)))), (.bin 0 .add (.idx (.var 1) (.lit (.int 0))) (.idx (.var 1) (.lit (.int 2))))]) (.bi .max2 0 [(.idx (.var 0) (.lit (.int 0))), (.idx (.var 1) (.lit (.int 0)))])),
  .setv 3 (.bin 0 .sub (.bi .min2 0 [(.bin 0 .add (.idx (.var 0) (.lit (.int 1))) (.idx (.var 0) (.lit (.int 3)))), (.bin 0 .add (.idx (.var 1) (.lit (.int 1))) (.idx (.var 1) (.lit (.int 3))))]) (.bi .max2 0 [(.idx (.var 0) (.lit (.int 1))), (.idx (.var 1) (.lit (.int 1)))])),
  .rtn (.bin 0 .mul (.bi .max2 0 [(.lit (.int 0)), (.var 2)]) (.bi .max2 0 [(.lit (.int 0)), (.var 3)]))]
/- 105 _law_points: 0=_law_one 1=_law_other 2=_law_across 3=_law_down -/
abbrev c_l_points : CDef := ⟨4, 2, b_l_points⟩
class K_l_points (P : Nat → CDef) : Prop where
  e_l_points : P 105 = c_l_points
def b_l_far : List CS :=
  [.setv 2 (.bi .max3 0 [(.lit (.int 0)), (.bin 0 .sub (.bin 0 .sub (.idx (.var 0) (.lit (.int 0))) (.idx (.var 1) (.lit (.int 0)))) (.idx (.var 1) (.lit (.int 2)))), (.bin 0 .sub (.bin 0 .sub (.idx (.var 1) (.lit (.int 0))) (.idx (.var 0) (.lit (.int 0)))) (.idx (.var 0) (.lit (.int 2))))]),
  .setv 3 (.bi .max3 0 [(.lit (.int 0)), (.bin 0 .sub (.bin 0 .sub (.idx (.var 0) (.lit (.int 1))) (.idx (.var 1) (.lit (.int 1)))) (.idx (.var 1) (.lit (.int 3)))), (.bin 0 .sub (.bin 0 .sub (.idx (.var 1) (.lit (.int 1))) (.idx (.var 0) (.lit (.int 1)))) (.idx (.var 0) (.lit (.int 3))))]),
  .rtn (.bin 0 .add (.bin 0 .mul (.var 2) (.var 2)) (.bin 0 .mul (.var 3) (.var 3)))]
/- 106 _law_far: 0=_law_one 1=_law_other 2=_law_across 3=_law_down -/
abbrev c_l_far : CDef := ⟨4, 2, b_l_far⟩
class K_l_far (P : Nat → CDef) : Prop where
  e_l_far : P 106 = c_l_far
end DL
namespace DL
def k1_bands_of : CE := (.tup [(.idx (.idx (.var 4) (.lit (.int 1))) (.lit (.int 1))), (.idx (.var 4) (.lit (.int 0)))])
def b1_bands_of : List CS :=
  [.setT [(.v 5), (.v 6), (.v 7), (.v 8)] (.idx (.var 3) (.lit (.int 1))),
  .ite (.or2 (.cmp .isN (.var 2) (.lit .non)) (.cmp .ge (.var 6) (.var 2)))
   [.expr (.mt .append 0 (.var 1) [(.lst 1 [])]),
    .setv 2 (.bin 0 .add (.var 6) (.var 8))]
   [],
  .expr (.mt .append 0 (.idx (.var 1) (.neg (.lit (.int 1)))) [(.var 3)]),
  .setv 2 (.bi .max2 0 [(.var 2), (.bin 0 .add (.var 6) (.var 8))])]
def l1_bands_of : CS := .fors (.v 3) (.seq (.srtK false 0 4 (.var 0) k1_bands_of)) b1_bands_of
def b_bands_of : List CS :=
  [.setv 1 (.lst 2 []),
  .setv 2 (.lit .non),
  l1_bands_of,
  .rtn (.frz (.var 1))]
/- 121 bands_of: 0=bubbles 1=bands 2=end 3=bubble 4=one 5=left 6=top 7=wide 8=high -/
abbrev c_bands_of : CDef := ⟨9, 1, b_bands_of⟩
class K_bands_of (P : Nat → CDef) : Prop where
  e_bands_of : P 121 = c_bands_of
def b_side_of : List CS :=
  [.ite (.cmp .eq (.var 1) (.lit (.str [114, 105, 103, 104, 116])))
   [.rtn (.idx (.var 0) (.lit (.int 0)))]
   [],
  .rtn (.bin 0 .sub (.bin 0 .sub (.lit (.int 0)) (.idx (.var 0) (.lit (.int 0)))) (.idx (.var 0) (.lit (.int 2))))]
/- 122 side_of: 0=box 1=direction -/
abbrev c_side_of : CDef := ⟨2, 2, b_side_of⟩
class K_side_of (P : Nat → CDef) : Prop where
  e_side_of : P 122 = c_side_of
def k1_band_order : CE := (.tup [(.call 122 [(.idx (.var 4) (.lit (.int 1))), (.var 1)]), (.idx (.idx (.var 4) (.lit (.int 1))) (.lit (.int 1))), (.idx (.var 4) (.lit (.int 0)))])
def b1_band_order : List CS :=
  [.expr (.mt .extend 0 (.var 2) [(.srtK false 0 4 (.var 3) k1_band_order)])]
def l1_band_order : CS := .fors (.v 3) (.seq (.call 121 [(.var 0)])) b1_band_order
def b_band_order : List CS :=
  [.setv 2 (.lst 1 []),
  l1_band_order,
  .rtn (.var 2)]
/- 123 band_order: 0=bubbles 1=direction 2=found 3=band 4=one -/
abbrev c_band_order : CDef := ⟨5, 2, b_band_order⟩
class K_band_order (P : Nat → CDef) : Prop extends K_bands_of P, K_side_of P where
  e_band_order : P 123 = c_band_order
def b_l_meet : List CS :=
  [.rtn (.and2 (.cmp .lt (.idx (.idx (.var 0) (.lit (.int 1))) (.lit (.int 1))) (.bin 0 .add (.idx (.idx (.var 1) (.lit (.int 1))) (.lit (.int 1))) (.idx (.idx (.var 1) (.lit (.int 1))) (.lit (.int 3))))) (.cmp .lt (.idx (.idx (.var 1) (.lit (.int 1))) (.lit (.int 1))) (.bin 0 .add (.idx (.idx (.var 0) (.lit (.int 1))) (.lit (.int 1))) (.idx (.idx (.var 0) (.lit (.int 1))) (.lit (.int 3))))))]
/- 124 _law_meet: 0=_law_one 1=_law_other -/
abbrev c_l_meet : CDef := ⟨2, 2, b_l_meet⟩
class K_l_meet (P : Nat → CDef) : Prop where
  e_l_meet : P 124 = c_l_meet
def k1_l_bands2 : CE := (.idx (.idx (.var 8) (.lit (.int 1))) (.lit (.int 1)))
def t1_l_bands2 : CE := (.cmp .ne (.var 2) (.lst 0 []))
def t2_l_bands2 : CE := (.call 124 [(.var 8), (.var 10)])
def x1_l_bands2 : CE := (.var 10)
def q1_l_bands2 : CE := (.compC 0 [10] (.v 10) (.var 4) (some t2_l_bands2) x1_l_bands2)
def b1_l_bands2 : List CS :=
  [.setv 9 q1_l_bands2,
  .ite (.and2 (.cmp .nin (.var 8) (.var 4)) (.cmp .ne (.var 9) (.lst 0 [])))
   [.expr (.mt .append 0 (.var 4) [(.var 8)])]
   []]
def l1_l_bands2 : CS := .fors (.v 8) (.seq (.var 2)) b1_l_bands2
def b2_l_bands2 : List CS :=
  [l1_l_bands2]
def l2_l_bands2 : CS := .fors (.v 5) (.rng1 (.bi .len 0 [(.var 2)])) b2_l_bands2
def t3_l_bands2 : CE := (.cmp .nin (.var 8) (.var 4))
def x2_l_bands2 : CE := (.var 8)
def q2_l_bands2 : CE := (.comp 0 [8] (.v 8) (.seq (.var 2)) (some t3_l_bands2) x2_l_bands2)
def x3_l_bands2 : CE := (.tup [(.tup [(.bin 0 .sub (.bin 0 .mul (.idx (.idx (.var 8) (.lit (.int 1))) (.lit (.int 0))) (.var 6)) (.bin 0 .mul (.idx (.idx (.var 8) (.lit (.int 1))) (.lit (.int 2))) (.bi .int1 0 [(.cmp .lt (.var 6) (.lit (.int 0)))]))), (.idx (.idx (.var 8) (.lit (.int 1))) (.lit (.int 1))), (.idx (.var 8) (.lit (.int 0)))]), (.var 8)])
def q3_l_bands2 : CE := (.compC 0 [8] (.v 8) (.var 4) none x3_l_bands2)
def k2_l_bands2 : CE := (.idx (.var 12) (.lit (.int 0)))
def x4_l_bands2 : CE := (.var 8)
def q4_l_bands2 : CE := (.comp 0 [11, 8] (.t [(.v 11), (.v 8)]) (.seq (.srtK false 0 12 (.var 7) k2_l_bands2)) none x4_l_bands2)
def b3_l_bands2 : List CS :=
  [.setv 4 (.lst 1 [(.idx (.var 2) (.lit (.int 0)))]),
  l2_l_bands2,
  .setv 2 q2_l_bands2,
  .setv 6 (.idx (.lst 0 [(.lit (.int 1)), (.neg (.lit (.int 1)))]) (.bi .int1 0 [(.cmp .eq (.var 1) (.lit (.str [108, 101, 102, 116])))])),
  .setv 7 q3_l_bands2,
  .setv 3 (.bin 0 .add (.var 3) q4_l_bands2)]
def l3_l_bands2 : CS := .whl 100000 t1_l_bands2 b3_l_bands2
def b_l_bands2 : List CS :=
  [.setv 2 (.srtK false 0 8 (.var 0) k1_l_bands2),
  .setv 3 (.lst 0 []),
  l3_l_bands2,
  .rtn (.var 3)]
def s0_b3_l_bands2 : CS := .setv 4 (.lst 1 [(.idx (.var 2) (.lit (.int 0)))])
def s1_b3_l_bands2 : CS := l2_l_bands2
def s2_b3_l_bands2 : CS := .setv 2 q2_l_bands2
def s3_b3_l_bands2 : CS := .setv 6 (.idx (.lst 0 [(.lit (.int 1)), (.neg (.lit (.int 1)))]) (.bi .int1 0 [(.cmp .eq (.var 1) (.lit (.str [108, 101, 102, 116])))]))
def s4_b3_l_bands2 : CS := .setv 7 q3_l_bands2
def s5_b3_l_bands2 : CS := .setv 3 (.bin 0 .add (.var 3) q4_l_bands2)
theorem b3_l_bands2_eq : b3_l_bands2 = [s0_b3_l_bands2, s1_b3_l_bands2, s2_b3_l_bands2, s3_b3_l_bands2, s4_b3_l_bands2, s5_b3_l_bands2] := rfl
/- 181 _law_bands: 0=_law_bubbles 1=_law_direction 2=_law_left 3=_law_found 4=_law_band 5=_law_turn 6=_law_sign 7=_law_ranks 8=_law_one 9=_law_met 10=_law_other 11=_law_rank 12=_law_pair -/
abbrev c_l_bands2 : CDef := ⟨13, 2, b_l_bands2⟩
class K_l_bands2 (P : Nat → CDef) : Prop extends K_l_meet P where
  e_l_bands2 : P 181 = c_l_bands2
end DL
namespace DL.Law
open DL
/-! the cores of the defs -/
def b1_law42 : List CS :=
  [.setv 11 (.tup [(.bin 0 .sub (.call 43 [(.var 1), (.lit (.int 500))]) (.lit (.int 100))), (.bin 0 .sub (.call 43 [(.var 1), (.var 5)]) (.lit (.int 50)))]),
  .setv 11 (.bin 0 .add (.var 11) (.tup [(.bin 0 .add (.lit (.int 1)) (.call 43 [(.var 1), (.lit (.int 200))])), (.bin 0 .add (.lit (.int 1)) (.call 43 [(.var 1), (.idx (.lst 0 [(.lit (.int 3)), (.lit (.int 60)), (.lit (.int 300))]) (.bin 0 .mod (.var 8) (.lit (.int 3))))]))])),
  .ite (.and2 (.cmp .gt (.var 8) (.lit (.int 0))) (.cmp .eq (.call 43 [(.var 1), (.lit (.int 5))]) (.lit (.int 0))))
   [.setv 14 (.idx (.idx (.var 7) (.call 43 [(.var 1), (.var 8)])) (.lit (.int 1))),
    .setT [(.v 15), (.v 16), (.v 17), (.v 18)] (.var 14),
    .setv 11 (.idx (.lst 0 [(.var 14), (.tup [(.var 15), (.bin 0 .add (.var 16) (.var 18)), (.var 17), (.var 18)]), (.tup [(.bin 0 .add (.var 15) (.lit (.int 1))), (.var 16), (.bin 0 .add (.var 17) (.lit (.int 1))), (.var 18)])]) (.call 43 [(.var 1), (.lit (.int 3))]))]
   [],
  .expr (.mt .append 0 (.var 7) [(.tup [(.idx (.var 6) (.var 8)), (.var 11), (.lit .non), (.lit (.str [97]))])])]
def l1_law42 : CS := .fors (.v 8) (.rng1 (.var 2)) b1_law42
def b2_law42 : List CS :=
  [.setv 12 (.bi .listOf 0 [(.var 10)]),
  .setv 13 (.call 123 [(.var 10), (.var 4)]),
  .ite (.or2 (.not1 (.bi (.isi 4) 0 [(.var 13)])) (.or2 (.cmp .ne (.var 13) (.var 9)) (.cmp .ne (.var 10) (.var 12))))
   [.rtn (.lit (.bl false))]
   [],
  .expr (.mt .clearL 0 (.var 13) []),
  .ite (.cmp .ne (.call 123 [(.var 10), (.var 4)]) (.var 9))
   [.rtn (.lit (.bl false))]
   []]
def l2_law42 : CS := .fors (.v 10) (.seq (.tup [(.var 7), (.rev 0 (.var 7)), (.bin 0 .add (.slc 0 (.var 7) (some (.bin 0 .mod (.var 3) (.bi .max2 0 [(.lit (.int 1)), (.var 2)]))) none) (.slc 0 (.var 7) none (some (.bin 0 .mod (.var 3) (.bi .max2 0 [(.lit (.int 1)), (.var 2)])))))])) b2_law42
def b_law42 : List CS :=
  [.setv 1 (.call 42 [(.var 0)]),
  .setv 2 (.call 43 [(.var 1), (.lit (.int 10))]),
  .setv 3 (.call 43 [(.var 1), (.lit (.int 9))]),
  .setv 4 (.idx (.lst 0 [(.lit (.str [114, 105, 103, 104, 116])), (.lit (.str [108, 101, 102, 116]))]) (.call 43 [(.var 1), (.lit (.int 2))])),
  .setv 5 (.idx (.lst 0 [(.lit (.int 1)), (.lit (.int 20)), (.lit (.int 300)), (.lit (.int 1200))]) (.call 43 [(.var 1), (.lit (.int 4))])),
  .setv 6 (.call 63 [(.var 1), (.var 2)]),
  .setv 7 (.lst 1 []),
  l1_law42,
  .setv 9 (.call 181 [(.var 7), (.var 4)]),
  l2_law42,
  .rtn (.lit (.bl true))]
def s0_b2_law42 : CS := .setv 12 (.bi .listOf 0 [(.var 10)])
def s1_b2_law42 : CS := .setv 13 (.call 123 [(.var 10), (.var 4)])
def s2_b2_law42 : CS := .ite (.or2 (.not1 (.bi (.isi 4) 0 [(.var 13)])) (.or2 (.cmp .ne (.var 13) (.var 9)) (.cmp .ne (.var 10) (.var 12))))
   [.rtn (.lit (.bl false))]
   []
def s3_b2_law42 : CS := .expr (.mt .clearL 0 (.var 13) [])
def s4_b2_law42 : CS := .ite (.cmp .ne (.call 123 [(.var 10), (.var 4)]) (.var 9))
   [.rtn (.lit (.bl false))]
   []
theorem b2_law42_eq : b2_law42 = [s0_b2_law42, s1_b2_law42, s2_b2_law42, s3_b2_law42, s4_b2_law42] := rfl
def s0_law42 : CS := .setv 1 (.call 42 [(.var 0)])
def s1_law42 : CS := .setv 2 (.call 43 [(.var 1), (.lit (.int 10))])
def s2_law42 : CS := .setv 3 (.call 43 [(.var 1), (.lit (.int 9))])
def s3_law42 : CS := .setv 4 (.idx (.lst 0 [(.lit (.str [114, 105, 103, 104, 116])), (.lit (.str [108, 101, 102, 116]))]) (.call 43 [(.var 1), (.lit (.int 2))]))
def s4_law42 : CS := .setv 5 (.idx (.lst 0 [(.lit (.int 1)), (.lit (.int 20)), (.lit (.int 300)), (.lit (.int 1200))]) (.call 43 [(.var 1), (.lit (.int 4))]))
def s5_law42 : CS := .setv 6 (.call 63 [(.var 1), (.var 2)])
def s6_law42 : CS := .setv 7 (.lst 1 [])
def s7_law42 : CS := l1_law42
def s8_law42 : CS := .setv 9 (.call 181 [(.var 7), (.var 4)])
def s9_law42 : CS := l2_law42
def s10_law42 : CS := .rtn (.lit (.bl true))
theorem b_law42_eq : b_law42 = [s0_law42, s1_law42, s2_law42, s3_law42, s4_law42, s5_law42, s6_law42, s7_law42, s8_law42, s9_law42, s10_law42] := rfl
/- 182 law: 0=_law_script 1=_law_pen_here 2=_law_many 3=_law_turned 4=_law_direction 5=_law_spread 6=_law_names_here 7=_law_bubbles 8=_law_k 9=_law_due 10=_law_some 11=_law_box 12=_law_kept 13=_law_told 14=_law_old 15=_law_left 16=_law_top 17=_law_across 18=_law_down -/
abbrev c_law42 : CDef := ⟨19, 1, b_law42⟩
class K_law42 (P : Nat → CDef) : Prop extends K_band_order P, K_l_bands2 P, K_l_draw2 P, K_l_names P, K_l_pen P where
  e_law42 : P 182 = c_law42
def cds : List (Nat × CDef) := (121, c_bands_of) :: (122, c_side_of) :: (123, c_band_order) :: (42, c_l_pen) :: (43, c_l_draw2) :: (63, c_l_names) :: (181, c_l_bands2) :: (124, c_l_meet) :: (182, c_law42) :: []
def Pr : Nat → CDef := prC cds
instance : K_bands_of Pr where
  e_bands_of := rfl
instance : K_side_of Pr where
  e_side_of := rfl
instance : K_band_order Pr where
  e_band_order := rfl
instance : K_l_pen Pr where
  e_l_pen := rfl
instance : K_l_draw2 Pr where
  e_l_draw2 := rfl
instance : K_l_names Pr where
  e_l_names := rfl
instance : K_l_meet Pr where
  e_l_meet := rfl
instance : K_l_bands2 Pr where
  e_l_bands2 := rfl
instance : K_law42 Pr where
  e_law42 := rfl
end DL.Law
/-! DL, part w: comprehensions and loops by what they give. -/
namespace DL
/-- a comprehension's turns, with a test -/
theorem compG_fil {β : Type} {vs : List Nat} {tg : Tg} {cond : M Bool} {elt : M β} (I : En → Prop) (p : D → Bool) (f : D → β) :
    ∀ (xs : List D) (acc : List β) (e : En), (∀ d ∈ xs, ∀ e, I e → ∃ e1 e2, bnd (wipS vs) (fun _ => bindT tg d) e = .ok () e1 ∧ cond e1 = .ok (p d) e2 ∧ (p d = false → I e2) ∧ (p d = true → ∃ e3, elt e2 = .ok (f d) e3 ∧ I e3)) → acc.length + xs.length ≤ 16777216 → I e →
      ∃ e', compG vs tg cond elt xs acc e = .ok (acc ++ (xs.filter p).map f) e' ∧ I e'
  | [], acc, e, _, _, h => ⟨e, by simp [compG], h⟩
  | d :: r, acc, e, step, hl, h => by
    obtain ⟨e1, e2, h1, h2, h3, h4⟩ := step d List.mem_cons_self e h
    simp only [List.length_cons] at hl
    have hb : bindT tg d ⟨setAll vs e.sl, e.cs⟩ = .ok () e1 := h1
    have go : compG vs tg cond elt (d :: r) acc e = match p d with | true => bnd elt (fun y => req (decide (acc.length < SZ)) (compG vs tg cond elt r (acc ++ [y]))) e2 | false => compG vs tg cond elt r acc e2 := by
      show bnd (wipS vs) (fun _ => bnd (bindT tg d) fun _ => bnd cond fun b => match b with | true => bnd elt fun y => req (decide (acc.length < SZ)) (compG vs tg cond elt r (acc ++ [y])) | false => compG vs tg cond elt r acc) e = _
      simp only [bnd_e, wipS]
      rw [hb]
      simp only [h2]
      cases p d <;> rfl
    rw [go]
    cases hp : p d with
    | false =>
      obtain ⟨e', q1, q2⟩ := compG_fil I p f r acc e2 (fun d hd => step d (List.mem_cons_of_mem _ hd)) (by omega) (h3 hp)
      refine ⟨e', ?_, q2⟩
      simp only [List.filter_cons, hp]
      exact q1
    | true =>
      obtain ⟨e3, k1, k2⟩ := h4 hp
      obtain ⟨e', q1, q2⟩ := compG_fil I p f r (acc ++ [f d]) e3 (fun d hd => step d (List.mem_cons_of_mem _ hd)) (by simp; omega) k2
      refine ⟨e', ?_, q2⟩
      have : decide (acc.length < SZ) = true := decide_eq_true (show acc.length < 16777216 by omega)
      simp only [bnd_e, k1, this, req_t, List.filter_cons, hp, if_true]
      rw [q1]
      simp
section
variable {cal : Nat → Fn} {it : CI} {elt c : CE} {xs : List D} {e e1 : En}
theorem comp_fil {vs : List Nat} {tg : Tg} (I : En → Prop) (p : D → Bool) (f : D → D) (hI : ∀ e, I e → e.cs = e1.cs) (h1 : I e1) (hi : evI cal it e = .ok xs e1)
    (step : ∀ d ∈ xs, ∀ e, I e → ∃ e2, bnd (wipS vs) (fun _ => bindT tg d) e = .ok () e2 ∧ I e2 ∧ bnd (ev cal c) truM e2 = .ok (p d) e2 ∧ (p d = true → bnd (ev cal elt) dOf e2 = .ok (f d) e2)) (hl : xs.length ≤ 16777216) :
    ev cal (.comp 0 vs tg it (some c) elt) e = .ok (.val (.lst ((xs.filter p).map f))) e1 := by
  obtain ⟨e', q1, q2⟩ := compG_fil (vs := vs) (tg := tg) (cond := evC cal (some c)) (elt := bnd (ev cal elt) dOf) I p f xs [] e1 (fun d hd e he => by
    obtain ⟨e2, k1, k2, k3, k4⟩ := step d hd e he
    exact ⟨e2, e2, k1, k3, fun _ => k2, fun hp => ⟨e2, k4 hp, k2⟩⟩) (by simpa using hl) h1
  show bnd (evI cal it) (fun xs => bnd (blockM (compG vs tg (evC cal (some c)) (bnd (ev cal elt) dOf) xs [])) fun l => newL 0 l) e = _
  rw [bnd_at hi]
  have : blockM (compG vs tg (evC cal (some c)) (bnd (ev cal elt) dOf) xs []) e1 = .ok ((xs.filter p).map f) e1 := by
    unfold blockM; rw [q1]
    show Out.ok ([] ++ _) ⟨e1.sl, e'.cs⟩ = _
    rw [hI e' q2]; rfl
  rw [bnd_at this]; rfl
theorem comp_all0 {vs : List Nat} {tg : Tg} (I : En → Prop) (f : D → D) (hI : ∀ e, I e → e.cs = e1.cs) (h1 : I e1) (hi : evI cal it e = .ok xs e1)
    (step : ∀ d ∈ xs, ∀ e, I e → ∃ e2, bnd (wipS vs) (fun _ => bindT tg d) e = .ok () e2 ∧ I e2 ∧ bnd (ev cal elt) dOf e2 = .ok (f d) e2) (hl : xs.length ≤ 16777216) :
    ev cal (.comp 0 vs tg it none elt) e = .ok (.val (.lst (xs.map f))) e1 := by
  obtain ⟨e', q1, q2⟩ := compG_fil (vs := vs) (tg := tg) (cond := evC cal none) (elt := bnd (ev cal elt) dOf) I (fun _ => true) f xs [] e1 (fun d hd e he => by
    obtain ⟨e2, k1, k2, k4⟩ := step d hd e he
    exact ⟨e2, e2, k1, rfl, fun _ => k2, fun hp => ⟨e2, k4, k2⟩⟩) (by simpa using hl) h1
  show bnd (evI cal it) (fun xs => bnd (blockM (compG vs tg (evC cal none) (bnd (ev cal elt) dOf) xs [])) fun l => newL 0 l) e = _
  rw [bnd_at hi]
  have : blockM (compG vs tg (evC cal none) (bnd (ev cal elt) dOf) xs []) e1 = .ok (xs.map f) e1 := by
    unfold blockM; rw [q1]
    show Out.ok ([] ++ _) ⟨e1.sl, e'.cs⟩ = _
    rw [hI e' q2, List.filter_eq_self.mpr fun _ _ => rfl]; rfl
  rw [bnd_at this]; rfl
/-- a comprehension of one name whose items change the cells -/
theorem compG_st {j : Nat} {elt : M D} (I : Nat → List Ce → Prop) (Px R : D → Prop) (sl0 : List Sl) (step : ∀ n d cs, Px d → I (n+1) cs → ∃ y cs', elt ⟨sl0.set j (.val d), cs⟩ = .ok y ⟨sl0.set j (.val d), cs'⟩ ∧ I n cs' ∧ R y) :
    ∀ (xs acc : List D) (cs : List Ce) (s : Sl), (∀ d ∈ xs, Px d) → acc.length + xs.length ≤ 16777216 → I xs.length cs → ∃ ys cs' s', compG [j] (.v j) (ret true) elt xs acc ⟨sl0.set j s, cs⟩ = .ok (acc ++ ys) ⟨sl0.set j s', cs'⟩ ∧ I 0 cs' ∧ ys.length = xs.length ∧ ∀ y ∈ ys, R y
  | [], acc, cs, s, _, _, h => ⟨[], cs, s, by simp [compG], h, rfl, fun _ q => by cases q⟩
  | d :: r, acc, cs, s, hp, hl, h => by
    simp only [List.length_cons] at hl
    obtain ⟨y, cs1, h1, h2, h3⟩ := step r.length d cs (hp d List.mem_cons_self) h
    obtain ⟨ys, cs2, s2, q1, q2, q3, q4⟩ := compG_st I Px R sl0 step r (acc ++ [y]) cs1 (.val d) (fun d hd => hp d (List.mem_cons_of_mem _ hd)) (by simp; omega) h2
    refine ⟨y :: ys, cs2, s2, ?_, q2, by simp [q3], fun z hz => ?_⟩
    · have e1 : (((sl0.set j s).set j .und).set j (.val d)) = sl0.set j (.val d) := by rw [List.set_set, List.set_set]
      show bnd elt (fun y => req (decide (acc.length < SZ)) (compG [j] (.v j) (ret true) elt r (acc ++ [y]))) ⟨((sl0.set j s).set j .und).set j (.val d), cs⟩ = _
      have : decide (acc.length < SZ) = true := decide_eq_true (show acc.length < 16777216 by omega)
      rw [e1, bnd_at h1, this, req_t, q1]
      simp
    · rcases List.mem_cons.mp hz with e | e
      · subst e; exact h3
      · exact q4 z e
theorem comp_st {j : Nat} {sl0 : List Sl} {cs : List Ce} (I : Nat → List Ce → Prop) (Px R : D → Prop) (s0 : Sl) (hs : sl0 = sl0.set j s0) (hi : evI cal it e = .ok xs ⟨sl0, cs⟩) (hx : ∀ d ∈ xs, Px d) (h1 : I xs.length cs)
    (step : ∀ n d cs, Px d → I (n+1) cs → ∃ y cs', bnd (ev cal elt) dOf ⟨sl0.set j (.val d), cs⟩ = .ok y ⟨sl0.set j (.val d), cs'⟩ ∧ I n cs' ∧ R y) (hl : xs.length ≤ 16777216) :
    ∃ ys cs', ev cal (.comp 0 [j] (.v j) it none elt) e = .ok (.val (.lst ys)) ⟨sl0, cs'⟩ ∧ I 0 cs' ∧ ys.length = xs.length ∧ ∀ y ∈ ys, R y := by
  obtain ⟨ys, cs', s', q1, q2, q3, q4⟩ := compG_st I Px R sl0 step xs [] cs s0 hx (by simpa using hl) h1
  refine ⟨ys, cs', ?_, q2, q3, q4⟩
  show bnd (evI cal it) (fun xs => bnd (blockM (compG [j] (.v j) (evC cal none) (bnd (ev cal elt) dOf) xs [])) fun l => newL 0 l) e = _
  rw [bnd_at hi]
  have : blockM (compG [j] (.v j) (evC cal none) (bnd (ev cal elt) dOf) xs []) ⟨sl0, cs⟩ = .ok ys ⟨sl0, cs'⟩ := by
    rw [← hs] at q1
    have ec : evC cal none = ret true := id rfl
    rw [ec]
    unfold blockM
    rw [q1]; rfl
  rw [bnd_at this]; rfl
/-- one name -/
theorem comp1 {j : Nat} (f : D → D) (hi : evI cal it e = .ok xs e1) (step : ∀ d ∈ xs, bnd (ev cal elt) dOf ⟨e1.sl.set j (.val d), e1.cs⟩ = .ok (f d) ⟨e1.sl.set j (.val d), e1.cs⟩) (hl : xs.length ≤ 16777216) :
    ev cal (.comp 0 [j] (.v j) it none elt) e = .ok (.val (.lst (xs.map f))) e1 :=
  comp_all0 (fun e => e.cs = e1.cs ∧ ∀ s, e.sl.set j s = e1.sl.set j s) f (fun e h => h.1) ⟨rfl, fun _ => rfl⟩ hi (fun d hd e he => by
    refine ⟨⟨e1.sl.set j (.val d), e1.cs⟩, ?_, ⟨rfl, fun s => by simp⟩, step d hd⟩
    show Out.ok () ⟨(e.sl.set j .und).set j (.val d), e.cs⟩ = _
    rw [he.1, List.set_set, he.2]) hl
theorem comp1F {j : Nat} (p : D → Bool) (f : D → D) (hi : evI cal it e = .ok xs e1) (hp : ∀ d ∈ xs, bnd (ev cal c) truM ⟨e1.sl.set j (.val d), e1.cs⟩ = .ok (p d) ⟨e1.sl.set j (.val d), e1.cs⟩)
    (step : ∀ d ∈ xs, p d = true → bnd (ev cal elt) dOf ⟨e1.sl.set j (.val d), e1.cs⟩ = .ok (f d) ⟨e1.sl.set j (.val d), e1.cs⟩) (hl : xs.length ≤ 16777216) :
    ev cal (.comp 0 [j] (.v j) it (some c) elt) e = .ok (.val (.lst ((xs.filter p).map f))) e1 :=
  comp_fil (fun e => e.cs = e1.cs ∧ ∀ s, e.sl.set j s = e1.sl.set j s) p f (fun e h => h.1) ⟨rfl, fun _ => rfl⟩ hi (fun d hd e he => by
    refine ⟨⟨e1.sl.set j (.val d), e1.cs⟩, ?_, ⟨rfl, fun s => by simp⟩, hp d hd, step d hd⟩
    show Out.ok () ⟨(e.sl.set j .und).set j (.val d), e.cs⟩ = _
    rw [he.1, List.set_set, he.2]) hl
/-- two names, of pairs -/
theorem comp2 {i j : Nat} (hij : i ≠ j) (f : D → D) (hi : evI cal it e = .ok xs e1) (step : ∀ d ∈ xs, ∃ a b, d = .tup [a, b] ∧ bnd (ev cal elt) dOf ⟨(e1.sl.set i (.val a)).set j (.val b), e1.cs⟩ = .ok (f d) ⟨(e1.sl.set i (.val a)).set j (.val b), e1.cs⟩) (hl : xs.length ≤ 16777216) :
    ev cal (.comp 0 [i, j] (.t [.v i, .v j]) it none elt) e = .ok (.val (.lst (xs.map f))) e1 :=
  comp_all0 (fun e => e.cs = e1.cs ∧ ∀ s t, (e.sl.set i s).set j t = (e1.sl.set i s).set j t) f (fun e h => h.1) ⟨rfl, fun _ _ => rfl⟩ hi (fun d hd e he => by
    obtain ⟨a, b, rfl, h⟩ := step d hd
    refine ⟨⟨(e1.sl.set i (.val a)).set j (.val b), e1.cs⟩, ?_, ⟨rfl, fun s t => ?_⟩, h⟩
    · show Out.ok () ⟨((((e.sl.set j .und).set i .und).set i (.val a)).set j (.val b)), e.cs⟩ = _
      rw [he.1, List.set_set, List.set_comm _ _ hij, List.set_set, List.set_comm _ _ (Ne.symm hij), he.2]
    · show ((((e1.sl.set i (.val a)).set j (.val b)).set i s).set j t) = _
      rw [List.set_comm (l := e1.sl.set i (.val a)) _ _ (Ne.symm hij), List.set_set, List.set_set]) hl
theorem comp2F {i j : Nat} (hij : i ≠ j) (p : D → Bool) (f : D → D) (hi : evI cal it e = .ok xs e1) (step : ∀ d ∈ xs, ∃ a b, d = .tup [a, b] ∧ bnd (ev cal c) truM ⟨(e1.sl.set i (.val a)).set j (.val b), e1.cs⟩ = .ok (p d) ⟨(e1.sl.set i (.val a)).set j (.val b), e1.cs⟩ ∧
      (p d = true → bnd (ev cal elt) dOf ⟨(e1.sl.set i (.val a)).set j (.val b), e1.cs⟩ = .ok (f d) ⟨(e1.sl.set i (.val a)).set j (.val b), e1.cs⟩)) (hl : xs.length ≤ 16777216) :
    ev cal (.comp 0 [i, j] (.t [.v i, .v j]) it (some c) elt) e = .ok (.val (.lst ((xs.filter p).map f))) e1 :=
  comp_fil (fun e => e.cs = e1.cs ∧ ∀ s t, (e.sl.set i s).set j t = (e1.sl.set i s).set j t) p f (fun e h => h.1) ⟨rfl, fun _ _ => rfl⟩ hi (fun d hd e he => by
    obtain ⟨a, b, rfl, h⟩ := step d hd
    refine ⟨⟨(e1.sl.set i (.val a)).set j (.val b), e1.cs⟩, ?_, ⟨rfl, fun s t => ?_⟩, h⟩
    · show Out.ok () ⟨((((e.sl.set j .und).set i .und).set i (.val a)).set j (.val b)), e.cs⟩ = _
      rw [he.1, List.set_set, List.set_comm _ _ hij, List.set_set, List.set_comm _ _ (Ne.symm hij), he.2]
    · show ((((e1.sl.set i (.val a)).set j (.val b)).set i s).set j t) = _
      rw [List.set_comm (l := e1.sl.set i (.val a)) _ _ (Ne.symm hij), List.set_set, List.set_set]) hl
theorem ex_fors_at {tg : Tg} {b : List CS} {R : Out Fl} (hi : evI cal it e = .ok xs e1) (h : forD tg (exs cal b) xs e1 = R) : ex cal (.fors tg it b) e = R := by
  show bnd (evI cal it) (fun xs => forD tg (exs cal b) xs) e = _
  rw [bnd_at hi]; exact h
theorem bnd_v {body : M Fl} (i : Nat) (d : D) (sl : List Sl) (cs : List Ce) : bnd (bindT (.v i) d) (fun _ => body) ⟨sl, cs⟩ = body ⟨sl.set i (.val d), cs⟩ := rfl
/-- statement by statement, the states found on the way -/
theorem exs_nx {s : CS} {r : List CS} {e e' : En} {R : Out Fl} (h : ex cal s e = .ok .nxt e') (k : exs cal r e' = R) : exs cal (s :: r) e = R := (exs_nxt h).trans k
theorem exs_rt {s : CS} {r : List CS} {e e' : En} {v : Sl} {R : Out Fl} (h : ex cal s e = .ok (.rtn v) e') (k : .ok (.rtn v) e' = R) : exs cal (s :: r) e = R := (exs_rtn h).trans k
/-- a loop over a list whose turns are known -/
theorem forD_fold {α : Type} {tg : Tg} {body : M Fl} (st : α → En) (f : α → D → α) : ∀ (xs : List D) (a : α), (∀ d ∈ xs, ∀ a, bnd (bindT tg d) (fun _ => body) (st a) = .ok .nxt (st (f a d))) → forD tg body xs (st a) = .ok .nxt (st (xs.foldl f a))
  | [], a, _ => rfl
  | d :: r, a, h => by
    rw [forD_step (h d List.mem_cons_self a)]
    exact forD_fold st f r (f a d) fun d hd => h d (List.mem_cons_of_mem _ hd)
end
/-- a def's run, by its body's -/
theorem calF_run {P : Nat → CDef} {k f n np : Nat} {body : List CS} {args sl : List Sl} {S cs : List Ce} {r : D} {e : En} (hP : P f = ⟨n, np, body⟩) (hb : exs (calF P k) body ⟨sl, S⟩ = .ok (.rtn (.val r)) e) (hc : exitC S.length e.cs = some cs)
    (hl : args.length = np := by rfl) (hs : args ++ List.replicate (n - args.length) .und = sl := by rfl) : calF P (k+1) f args S = .ok (.val r) cs := by
  rw [calF_e, hP]
  simp only
  rw [if_pos hl, hs, hb]
  show (match exitC S.length e.cs with | some cs => FOut.ok (.val r) cs | none => .stuck) = _
  rw [hc]
theorem exitC_0 (cs : List Ce) : exitC 0 cs = some [] := by simp
theorem exitC_1 {c : Ce} {cs : List Ce} (h : pureC c = true) : exitC 1 (c :: cs) = some [c] := by simp [h]
/-- .. of data alone -/
theorem Pu.run {P : Nat → CDef} {k f n np : Nat} {body : List CS} {args sl : List Sl} {r : D} {e : En} (hP : P f = ⟨n, np, body⟩) (hb : exs (calF P k) body ⟨sl, []⟩ = .ok (.rtn (.val r)) e)
    (hl : args.length = np := by rfl) (hs : args ++ List.replicate (n - args.length) .und = sl := by rfl) (hv : args.all isV = true := by rfl) : Pu (calF P (k+1) f) args r :=
  Pu.of (calF_run hP hb (exitC_0 _) hl hs) hv
end DL
/-! pens and their draws -/
namespace DL
def penK : List D := [.str [99, 101, 108, 108, 115], .str [97, 116], .str [108, 101, 102, 116]]
def penC (ns : List Int) (a : Nat) (l : Int) : Ce := .dct penK [.lst (ns.map .int), .int a, .int l]
/-- a pen of which at most n draws were made -/
def Pn (n : Nat) (c : Ce) : Prop := ∃ ns a l, c = penC ns a l ∧ a ≤ n ∧ 0 ≤ l ∧ ns.length ≤ 63
theorem Pn.mono {n m : Nat} {c : Ce} (h : Pn n c) (l : n ≤ m) : Pn m c := by
  obtain ⟨ns, a, k, e, h1, h2, h3⟩ := h
  exact ⟨ns, a, k, e, by omega, h2, h3⟩
theorem Pn.pure {n : Nat} {c : Ce} (h : Pn n c) : pureC c = true := by
  obtain ⟨ns, a, k, rfl, _⟩ := h
  rfl
/-- a def of a pen and data: at most B draws; what it gives has R -/
def Pd (fn : Fn) (args : List Sl) (B : Nat) (R : D → Prop) : Prop := args.all isV = true ∧ ∀ n c, Pn n c → n + B < 1073741824 → ∃ r c', fn (.cel 0 :: args) [c] = .ok (.val r) [c'] ∧ Pn (n + B) c' ∧ R r
theorem Pd.mono {fn : Fn} {args : List Sl} {B B' : Nat} {R R' : D → Prop} (h : Pd fn args B R) (hB : B ≤ B') (m : ∀ r, R r → R' r) : Pd fn args B' R' := ⟨h.1, fun n c p l => by
  obtain ⟨r, c', q, z, k⟩ := h.2 n c p (by omega)
  exact ⟨r, c', q, z.mono (by omega), m r k⟩⟩
theorem Pd.at {fn : Fn} {args : List Sl} {B n : Nat} {R : D → Prop} {c : Ce} (h : Pd fn args B R) (cs : List Ce) (p : Pn n c) (l : n + B < 1073741824) : ∃ r c', (∀ sl, callM fn (.cel cs.length :: args) ⟨sl, cs ++ [c]⟩ = .ok (.val r) ⟨sl, cs ++ [c']⟩) ∧ Pn (n + B) c' ∧ R r := by
  obtain ⟨r, c', q, z, k⟩ := h.2 n c p l
  obtain ⟨vs, rfl⟩ := vals_of h.1
  exact ⟨r, c', fun sl => callM_last q p.pure z.pure, z, k⟩
theorem Pd.at0 {fn : Fn} {args : List Sl} {B n : Nat} {R : D → Prop} {c : Ce} (h : Pd fn args B R) (p : Pn n c) (l : n + B < 1073741824) : ∃ r c', (∀ sl, callM fn (.cel 0 :: args) ⟨sl, [c]⟩ = .ok (.val r) ⟨sl, [c']⟩) ∧ Pn (n + B) c' ∧ R r := h.at [] p l
theorem Pd.nth {fn : Fn} {args : List Sl} {B n : Nat} {R : D → Prop} {c : Ce} {cs : List Ce} {j : Nat} (h : Pd fn args B R) (hj : cs[j]? = some c) (p : Pn n c) (l : n + B < 1073741824) : ∃ r c', (∀ sl, callM fn (.cel j :: args) ⟨sl, cs⟩ = .ok (.val r) ⟨sl, cs.set j c'⟩) ∧ Pn (n + B) c' ∧ R r := by
  obtain ⟨r, c', q, z, k⟩ := h.2 n c p l
  obtain ⟨vs, rfl⟩ := vals_of h.1
  exact ⟨r, c', fun sl => callM_one q hj p.pure z.pure, z, k⟩
theorem keyD_s (s : List Nat) : keyD (.str s) = true := rfl
section
variable {P : Nat → CDef}
theorem penK_look (k : List Nat) (x y z : D) : lookD (.str k) penK [x, y, z] = if ([99, 101, 108, 108, 115] == k) = true then some x else if ([97, 116] == k) = true then some y else if ([108, 101, 102, 116] == k) = true then some z else none := rfl
theorem penK_put (k : List Nat) (d x y z : D) : putVs (.str k) d penK [x, y, z] = [if ([99, 101, 108, 108, 115] == k) = true then d else x, if ([97, 116] == k) = true then d else y, if ([108, 101, 102, 116] == k) = true then d else z] := rfl
theorem l_pen_sp [K_l_pen P] (k : Nat) (ns : List Int) : calF P (k+1) 42 [.val (.frl (ns.map .int))] [] = .ok (.cel 0) [penC (ns.take 63) 0 0] := by
  have e1 : cutL (ns.map D.int) none (some 63) = (ns.take 63).map D.int := by
    unfold cutL ixB
    simp [List.map_take]
  simp [calF_e, K_l_pen.e_l_pen, b_l_pen, keysOk, keyD, eqD, penC, penK, sliceM, e1]
theorem l_pen_c [K_l_pen P] (k : Nat) (ns : List Int) : ∃ c, Pn 0 c ∧ ∀ sl cs, callM (calF P (k+1) 42) [.val (.frl (ns.map .int))] ⟨sl, cs⟩ = .ok (.cel cs.length) ⟨sl, cs ++ [c]⟩ :=
  ⟨penC (ns.take 63) 0 0, ⟨_, _, _, rfl, by omega, by omega, by rw [List.length_take]; omega⟩, fun sl cs => callM_vc (vs := [.frl (ns.map .int)]) (l_pen_sp k ns) rfl⟩
theorem deps_ints (l : List Int) : deps (l.map D.int) = 0 := by
  induction l with
  | nil => rfl
  | cons b r ih =>
    show max (dep (.int b)) (deps (r.map D.int)) = 0
    rw [ih]; rfl
theorem dep_ints (l : List Int) : dep (.lst (l.map D.int)) ≤ 64 := by
  show 1 + deps (l.map D.int) ≤ 64
  rw [deps_ints]; omega
/-- the cell that a draw takes -/
def cellAt (ns : List Int) (a : Nat) : Int := if ns = [] then (a : Int) * 7 + 3 else ns.getD (a % ns.length) 0
theorem pow5 (f : Nat) (w : Int) (h1 : 0 ≤ w) (h2 : w < 2147483647) : binD f .pow (.int w) (.int 5) = ret (.val (.int (w ^ 5))) := by
  rw [pow_i]
  have : (decide ((0 : Int) ≤ 5) && decide ((5 : Int) ≤ 1000000) && decide (w.natAbs < 18446744073709551616)) = true := by
    simp; omega
  rw [this]; rfl
theorem pow3 (f : Nat) (w : Int) (h1 : 0 ≤ w) (h2 : w < 1000000000000000000) : binD f .pow (.int w) (.int 3) = ret (.val (.int (w ^ 3))) := by
  rw [pow_i]
  have : (decide ((0 : Int) ≤ 3) && decide ((3 : Int) ≤ 1000000) && decide (w.natAbs < 18446744073709551616)) = true := by
    simp; omega
  rw [this]; rfl
theorem pow18 (f : Nat) : binD f .pow (.int 10) (.int 18) = ret (.val (.int 1000000000000000000)) := by
  rw [pow_i]; rfl


def mixedI (w a : Int) : Int := (((w % 2147483629 + (a + 1) * (a + 2) * 48271 + 11) % 2147483647) ^ 5 % 2147483587 + (a + 5) * 69621) ^ 3 % 2147483579 / 16
/-- the mixing -/
theorem draw_mix (cal : Nat → Fn) (a w m : Int) (s4 s5 : Sl) (cs : List Ce) (h1 : 0 < m) (ha0 : 0 ≤ a) (ha : a < 1073741824) : ∃ s4', exs cal [s6_l_draw2, s7_l_draw2, s8_l_draw2, s9_l_draw2] ⟨[.cel 0, .val (.int m), .val (.int a), .val (.int w), s4, s5], cs⟩ = .ok (.rtn (.val (.int (mixedI w a % m)))) ⟨[.cel 0, .val (.int m), .val (.int a), .val (.int w), s4', s5], cs⟩ := by
  have z1 : small64 (a + 1) = true := small_lt (by omega) (by omega)
  have z3 : small64 (48271 : Int) = true := by decide
  have z6 : small64 (69621 : Int) = true := by decide
  have t6 : ex cal (s6_l_draw2) ⟨[.cel 0, .val (.int m), .val (.int a), .val (.int w), s4, s5], cs⟩ = .ok .nxt ⟨[.cel 0, .val (.int m), .val (.int a), .val (.int w), .val (.int ((w % 2147483629 + (a + 1) * (a + 2) * 48271 + 11) % 2147483647)), s5], cs⟩ := by
    rw [s6_l_draw2]
    simp [z1, z3]
  have g1 : 0 ≤ (w % 2147483629 + (a + 1) * (a + 2) * 48271 + 11) % 2147483647 ∧ (w % 2147483629 + (a + 1) * (a + 2) * 48271 + 11) % 2147483647 < 2147483647 := by omega
  have hmx : mixedI w a = (((w % 2147483629 + (a + 1) * (a + 2) * 48271 + 11) % 2147483647) ^ 5 % 2147483587 + (a + 5) * 69621) ^ 3 % 2147483579 / 16 := rfl
  rw [hmx]
  clear hmx
  generalize (w % 2147483629 + (a + 1) * (a + 2) * 48271 + 11) % 2147483647 = u at *
  have t7 : ex cal (s7_l_draw2) ⟨[.cel 0, .val (.int m), .val (.int a), .val (.int w), .val (.int u), s5], cs⟩ = .ok .nxt ⟨[.cel 0, .val (.int m), .val (.int a), .val (.int w), .val (.int (u ^ 5 % 2147483587)), s5], cs⟩ := by
    have p5 := pow5 0 u g1.1 g1.2
    rw [s7_l_draw2]
    simp [-pow_i, p5]
  have g2 : 0 ≤ u ^ 5 % 2147483587 ∧ u ^ 5 % 2147483587 < 2147483587 := by omega
  generalize u ^ 5 % 2147483587 = v at *
  have t8 : ex cal (s8_l_draw2) ⟨[.cel 0, .val (.int m), .val (.int a), .val (.int w), .val (.int v), s5], cs⟩ = .ok .nxt ⟨[.cel 0, .val (.int m), .val (.int a), .val (.int w), .val (.int ((v + (a + 5) * 69621) ^ 3 % 2147483579)), s5], cs⟩ := by
    have p3 := pow3 0 (v + (a + 5) * 69621) (by omega) (by omega)
    rw [s8_l_draw2]
    simp [-pow_i, p3, z6]
  generalize (v + (a + 5) * 69621) ^ 3 % 2147483579 = x at *
  have t9 : ex cal (s9_l_draw2) ⟨[.cel 0, .val (.int m), .val (.int a), .val (.int w), .val (.int x), s5], cs⟩ = .ok (.rtn (.val (.int (x / 16 % m)))) ⟨[.cel 0, .val (.int m), .val (.int a), .val (.int w), .val (.int x), s5], cs⟩ := by
    rw [s9_l_draw2]
    simp [h1]
  refine ⟨.val (.int x), ?_⟩
  rw [exs_nxt t6, exs_nxt t7, exs_nxt t8, exs_rtn t9]
section
variable (cal : Nat → Fn) (ns : List Int) (a : Nat) (l m w : Int)
theorem dr_t0n (c1 : ¬ 0 < l) : ex cal s0_l_draw2 ⟨[.cel 0, .val (.int m), .und, .und, .und, .und], [penC ns a l]⟩ = .ok .nxt ⟨[.cel 0, .val (.int m), .und, .und, .und, .und], [penC ns a l]⟩ := by
  rw [s0_l_draw2]
  simp [penC, lookM, penK_look, keyD_s, c1]
theorem dr_t0 (c1 : 0 < l) (h1 : 0 < m) (h2 : m < 1073741824) : ex cal s0_l_draw2 ⟨[.cel 0, .val (.int m), .und, .und, .und, .und], [penC ns a l]⟩ = .ok (.rtn (.val (.int (l % m)))) ⟨[.cel 0, .val (.int m), .und, .und, .und, .val (.int (l % m))], [penC ns a (l / m)]⟩ := by
  rw [s0_l_draw2]
  simp [penC, lookM, penK_look, keyD_s, c1, h1, h2, putM2, penK_put, show penK.length = 3 from rfl]
theorem dr_t1 : ex cal s1_l_draw2 ⟨[.cel 0, .val (.int m), .und, .und, .und, .und], [penC ns a l]⟩ = .ok .nxt ⟨[.cel 0, .val (.int m), .val (.int a), .und, .und, .und], [penC ns a l]⟩ := by
  rw [s1_l_draw2]
  simp [penC, lookM, penK_look, keyD_s]
theorem dr_t2 : ex cal s2_l_draw2 ⟨[.cel 0, .val (.int m), .val (.int a), .und, .und, .und], [penC ns a l]⟩ = .ok .nxt ⟨[.cel 0, .val (.int m), .val (.int a), .und, .und, .und], [penC ns (a+1) l]⟩ := by
  rw [s2_l_draw2]
  simp [penC, lookM, penK_look, keyD_s, putM2, penK_put, show penK.length = 3 from rfl]
theorem dr_t3 (x : Int) (c : Ce) : ex cal s3_l_draw2 ⟨[.cel 0, .val (.int m), .val (.int x), .und, .und, .und], [c]⟩ = .ok .nxt ⟨[.cel 0, .val (.int m), .val (.int x), .val (.int (x * 7 + 3)), .und, .und], [c]⟩ := by
  have z5 : small64 (7 : Int) = true := by decide
  rw [s3_l_draw2]
  simp [z5]
theorem dr_t4 : ex cal s4_l_draw2 ⟨[.cel 0, .val (.int m), .val (.int a), .val (.int ((a : Int) * 7 + 3)), .und, .und], [penC ns (a+1) l]⟩ = .ok .nxt ⟨[.cel 0, .val (.int m), .val (.int a), .val (.int (cellAt ns a)), .und, .und], [penC ns (a+1) l]⟩ := by
  have e0 : cmpM .ne (.val (.lst (ns.map D.int))) (.val (.lst [])) = ret (.val (.bl (!decide (ns = [])))) := by
    rw [cmp_neD (dep_ints ns) (by simp [dep, deps])]
    cases ns <;> rfl
  by_cases c2 : ns = []
  · have e0' : cmpM .ne (.val (.lst (ns.map D.int))) (.val (.lst [])) = ret (.val (.bl false)) := by rw [e0, c2]; rfl
    have hc : cellAt ns a = (a : Int) * 7 + 3 := if_pos c2
    rw [hc, s4_l_draw2]
    generalize (a : Int) * 7 + 3 = y
    simp only [penC]
    simp [lookM, penK_look, keyD_s, e0']
  · have e0' : cmpM .ne (.val (.lst (ns.map D.int))) (.val (.lst [])) = ret (.val (.bl true)) := by rw [e0, decide_eq_false c2]; rfl
    have hp' : 0 < ns.length := List.length_pos_iff.mpr c2
    have hd : atP (ns.map D.int) ((a : Int) % ns.length) = some (.int (cellAt ns a)) := by
      rw [show (a : Int) % (ns.length : Int) = ((a % ns.length : Nat) : Int) from rfl, atP_nat, List.getElem?_map]
      have hlt : a % ns.length < ns.length := Nat.mod_lt _ hp'
      unfold cellAt
      rw [if_neg c2, List.getD_eq_getElem?_getD, List.getElem?_eq_getElem hlt]
      rfl
    generalize cellAt ns a = w at *
    rw [s4_l_draw2]
    generalize (a : Int) * 7 + 3 = y
    simp only [penC]
    simp [lookM, penK_look, keyD_s, e0', hp', hd]
theorem dr_t5 (x : Int) (h1 : 0 < m) (h2 : m < 1073741824) (hx : x = (w.natAbs : Int)) (c3 : a < ns.length) (c4 : (1000000000000000000 : Int) ≤ x) : ex cal s5_l_draw2 ⟨[.cel 0, .val (.int m), .val (.int a), .val (.int w), .und, .und], [penC ns (a+1) l]⟩ = .ok (.rtn (.val (.int (x % m)))) ⟨[.cel 0, .val (.int m), .val (.int a), .val (.int w), .und, .und], [penC ns (a+1) (x / m)]⟩ := by
  have p18 := pow18 0
  have ab := abs_i 0 w
  rw [← hx] at ab
  rw [s5_l_draw2]
  simp [penC, lookM, penK_look, keyD_s, putM2, penK_put, show penK.length = 3 from rfl, c3, h1, h2, -pow_i, p18, c4, -abs_i, ab]
theorem dr_t5n (x : Int) (hx : x = (w.natAbs : Int)) (c : ¬ (a < ns.length ∧ (1000000000000000000 : Int) ≤ x)) : ex cal s5_l_draw2 ⟨[.cel 0, .val (.int m), .val (.int a), .val (.int w), .und, .und], [penC ns (a+1) l]⟩ = .ok .nxt ⟨[.cel 0, .val (.int m), .val (.int a), .val (.int w), .und, .und], [penC ns (a+1) l]⟩ := by
  have p18 := pow18 0
  have ab := abs_i 0 w
  rw [← hx] at ab
  rw [s5_l_draw2]
  by_cases c3 : a < ns.length
  · have c4 : ¬ (1000000000000000000 : Int) ≤ x := fun z => c ⟨c3, z⟩
    simp [penC, lookM, penK_look, keyD_s, c3, -pow_i, p18, c4, -abs_i, ab]
  · simp [penC, lookM, penK_look, keyD_s, c3]
end
theorem draw_run [K_l_draw2 P] (k : Nat) (ns : List Int) (a : Nat) (l m : Int) (h1 : 0 < m) (h2 : m < 1073741824) (ha : a < 1073741824) : calF P (k+1) 43 [.cel 0, .val (.int m)] [penC ns a l] =
    if 0 < l then .ok (.val (.int (l % m))) [penC ns a (l / m)] else
    if a < ns.length ∧ (1000000000000000000 : Int) ≤ (cellAt ns a).natAbs then .ok (.val (.int (((cellAt ns a).natAbs : Int) % m))) [penC ns (a+1) (((cellAt ns a).natAbs : Int) / m)]
    else .ok (.val (.int (mixedI (cellAt ns a) a % m))) [penC ns (a+1) l] := by
  have hb : ∀ {r : D} {sl : List Sl} {c : Ce}, pureC c = true → exs (calF P k) b_l_draw2 ⟨[.cel 0, .val (.int m), .und, .und, .und, .und], [penC ns a l]⟩ = .ok (.rtn (.val r)) ⟨sl, [c]⟩ → calF P (k+1) 43 [.cel 0, .val (.int m)] [penC ns a l] = .ok (.val r) [c] := by
    intro r sl c hc h
    rw [calF_e, (K_l_draw2.e_l_draw2 : P 43 = _)]
    show exitF 1 (exs (calF P k) b_l_draw2 ⟨[.cel 0, .val (.int m), .und, .und, .und, .und], [penC ns a l]⟩) = _
    rw [h]
    simp [hc]
  by_cases c1 : 0 < l
  · rw [if_pos c1]
    exact hb rfl (by rw [b_l_draw2_eq, exs_rtn (dr_t0 _ ns a l m c1 h1 h2)])
  · rw [if_neg c1]
    have t0 := dr_t0n (calF P k) ns a l m c1
    have t1 := dr_t1 (calF P k) ns a l m
    have t2 := dr_t2 (calF P k) ns a l m
    have t3 := dr_t3 (calF P k) m a (penC ns (a+1) l)
    have t4 := dr_t4 (calF P k) ns a l m
    generalize cellAt ns a = w at *
    by_cases c : a < ns.length ∧ (1000000000000000000 : Int) ≤ w.natAbs
    · rw [if_pos c]
      have t5 := dr_t5 (calF P k) ns a l m w _ h1 h2 rfl c.1 c.2
      exact hb rfl (by rw [b_l_draw2_eq, exs_nxt t0, exs_nxt t1, exs_nxt t2, exs_nxt t3, exs_nxt t4, exs_rtn t5])
    · rw [if_neg c]
      have t5 := dr_t5n (calF P k) ns a l m w _ rfl c
      obtain ⟨s4', t6⟩ := draw_mix (calF P k) (a : Int) w m .und .und [penC ns (a+1) l] h1 (by omega) (by omega)
      exact hb rfl (by rw [b_l_draw2_eq, exs_nxt t0, exs_nxt t1, exs_nxt t2, exs_nxt t3, exs_nxt t4, exs_nxt t5, t6])
theorem l_draw2_sp [K_l_draw2 P] (k : Nat) (m : Int) (h1 : 0 < m) (h2 : m < 1073741824) : Pd (calF P (k+1) 43) [.val (.int m)] 1 (fun r => ∃ i, r = .int i ∧ 0 ≤ i ∧ i < m) := ⟨rfl, fun n c p hn => by
  obtain ⟨ns, a, l, rfl, ha, hl, hns⟩ := p
  have hm : ∀ i : Int, 0 ≤ i % m ∧ i % m < m := fun i => ⟨Int.emod_nonneg _ (by omega), Int.emod_lt_of_pos _ h1⟩
  rw [draw_run k ns a l m h1 h2 (by omega)]
  by_cases c1 : 0 < l
  · rw [if_pos c1]
    exact ⟨_, _, rfl, ⟨_, _, _, rfl, by omega, Int.ediv_nonneg hl (by omega), hns⟩, _, rfl, hm _⟩
  · rw [if_neg c1]
    split
    · exact ⟨_, _, rfl, ⟨_, _, _, rfl, by omega, Int.ediv_nonneg (by omega) (by omega), hns⟩, _, rfl, hm _⟩
    · exact ⟨_, _, rfl, ⟨_, _, _, rfl, by omega, hl, hns⟩, _, rfl, hm _⟩⟩
theorem drw [K_l_draw2 P] (k n : Nat) (m : Int) {c : Ce} (h1 : 0 < m) (h2 : m < 1073741824) (p : Pn n c) (hn : n < 1073741823) : ∃ i c', (∀ sl, callM (calF P (k+1) 43) [.cel 0, .val (.int m)] ⟨sl, [c]⟩ = .ok (.val (.int i)) ⟨sl, [c']⟩) ∧ Pn (n+1) c' ∧ 0 ≤ i ∧ i < m := by
  obtain ⟨_, c', h, q, i, rfl, a, b⟩ := (l_draw2_sp (P := P) k m h1 h2).at0 p (by omega)
  exact ⟨i, c', h, q, a, b⟩
theorem drwN [K_l_draw2 P] (k n : Nat) (m : Int) {c : Ce} (cs : List Ce) (h1 : 0 < m) (h2 : m < 1073741824) (p : Pn n c) (hn : n < 1073741823) : ∃ i c', (∀ sl, callM (calF P (k+1) 43) [.cel 0, .val (.int m)] ⟨sl, c :: cs⟩ = .ok (.val (.int i)) ⟨sl, c' :: cs⟩) ∧ Pn (n+1) c' ∧ 0 ≤ i ∧ i < m := by
  obtain ⟨_, c', h, q, i, rfl, a, b⟩ := (l_draw2_sp (P := P) k m h1 h2).nth (cs := c :: cs) (j := 0) rfl p (by omega)
  exact ⟨i, c', h, q, a, b⟩
end
end DL
/-! DL, part u: the laws' own cells, feeds, draws (a feed is a list of one number). -/
namespace DL
def rDraw : List CS :=
  [.setv 2 (.bin 0 .mod (.idx (.var 0) (.lit (.int 0))) (.var 1)),
  .sub (.var 0) (.lit (.int 0)) (.bin 0 .fdiv (.idx (.var 0) (.lit (.int 0))) (.var 1)),
  .rtn (.var 2)]
def rCell : List CS :=
  [.ite (.cmp .lt (.var 1) (.bi .len 0 [(.var 0)]))
   [.rtn (.idx (.var 0) (.var 1))]
   [],
  .rtn (.lit (.int 0))]
def rFeedB : List CS :=
  [.setv 4 (.bin 0 .mod (.bin 0 .add (.bin 0 .add (.bin 0 .mul (.var 4) (.var 4)) (.bin 0 .mul (.lit (.int 48271)) (.var 4))) (.var 5)) (.lit (.int 2147483629))),
  .setv 3 (.bin 0 .add (.bin 0 .mul (.var 3) (.lit (.int 2147483587))) (.bin 0 .mod (.bin 0 .mul (.var 4) (.lit (.int 69621))) (.lit (.int 2147483587))))]
def rFeedL : CS := .fors (.v 5) (.rng1 (.lit (.int 80))) rFeedB
def rFeed (ci : Nat) : List CS :=
  [.setv 2 (.call ci [(.var 0), (.var 1)]),
  .ite (.cmp .ge (.var 2) (.bin 0 .pow (.lit (.int 10)) (.lit (.int 18))))
   [.rtn (.lst 1 [(.bin 0 .sub (.var 2) (.bin 0 .pow (.lit (.int 10)) (.lit (.int 18))))])]
   [],
  .setv 3 (.lit (.int 0)),
  .setv 4 (.bin 0 .mod (.bin 0 .add (.bin 0 .add (.bin 0 .mul (.var 2) (.lit (.int 48271))) (.bin 0 .mul (.lit (.int 7919)) (.var 1))) (.lit (.int 11))) (.lit (.int 2147483647))),
  rFeedL,
  .rtn (.lst 1 [(.var 3)])]
section
variable {P : Nat → CDef} {i ci : Nat}
theorem draw_of (h : P i = ⟨3, 2, rDraw⟩) (k : Nat) (x m : Int) (h1 : 0 < m) (h2 : m < 1073741824) : calF P (k+1) i [.cel 0, .val (.int m)] [.lst [.int x]] = .ok (.val (.int (x % m))) [.lst [.int (x / m)]] := by
  simp [calF_e, h, rDraw, h1, h2, ixP]
theorem draw_at (h : P i = ⟨3, 2, rDraw⟩) (k : Nat) (x m : Int) (sl : List Sl) (cs : List Ce) (h1 : 0 < m) (h2 : m < 1073741824) : callM (calF P (k+1) i) [.cel cs.length, .val (.int m)] ⟨sl, cs ++ [.lst [.int x]]⟩ = .ok (.val (.int (x % m))) ⟨sl, cs ++ [.lst [.int (x / m)]]⟩ :=
  callM_last (vs := [.int m]) (draw_of h k x m h1 h2) rfl rfl
theorem cell_of (h : P i = ⟨2, 2, rCell⟩) (k : Nat) (ns : List Int) (j : Nat) : calF P (k+1) i [.val (.frl (ns.map .int)), .val (.int j)] [] = .ok (.val (.int (ns[j]?.getD 0))) [] := by
  simp only [calF_e, h, rCell]
  by_cases h : j < ns.length <;> simp [h]
theorem feed_loop (cal : Nat → Fn) : ∀ a b s c d v, 0 ≤ b → b < 2147483648 → ∃ a' b' v', ex cal rFeedL ⟨[s, c, d, .val (.int a), .val (.int b), v], []⟩ = .ok .nxt ⟨[s, c, d, .val (.int a'), .val (.int b'), v'], []⟩ := by
  intro a b s c d v hb1 hb2
  obtain ⟨e', h1, h2⟩ := forD_inv (tg := .v 5) (body := exs cal rFeedB) (fun r e => (∀ x ∈ r, ∃ i, x = .int i) ∧ ∃ a' b' v', (0 ≤ b' ∧ b' < 2147483648) ∧ e = ⟨[s, c, d, .val (.int a'), .val (.int b'), v'], []⟩) (fun x r e => by
    rintro ⟨hx, a', b', v', ⟨k1, k2⟩, rfl⟩
    obtain ⟨i, rfl⟩ := hx x List.mem_cons_self
    have hs : small64 b' = true := small_lt (by omega) (by omega)
    have hs2 : small64 48271 = true := by decide
    have hs3 : small64 69621 = true := by decide
    have hs4 : small64 2147483587 = true := by decide
    simp [rFeedB, hs, hs2, hs3, hs4]
    exact ⟨fun y hy => hx y (List.mem_cons_of_mem _ hy), by omega, by omega⟩)
    (rangeL 0 80) ⟨[s, c, d, .val (.int a), .val (.int b), v], []⟩ ⟨fun x hx => by obtain ⟨i, _, rfl⟩ := range_mem hx; exact ⟨_, rfl⟩, _, _, _, ⟨hb1, hb2⟩, rfl⟩
  obtain ⟨_, a', b', v', _, rfl⟩ := h2
  refine ⟨a', b', v', ?_⟩
  rw [← h1]
  simp [rFeedL, ex, rngOk]
theorem feed_of (hc : P ci = ⟨2, 2, rCell⟩) (h : P i = ⟨6, 2, rFeed ci⟩) (k : Nat) (ns : List Int) (j : Nat) : ∃ x, calF P (k+2) i [.val (.frl (ns.map .int)), .val (.int j)] [] = .ok (.cel 0) [.lst [.int x]] := by
  have cs := cell_of hc k ns j
  simp only [calF_e P (k+1), h, rFeed]
  by_cases h : ns[j]?.getD 0 ≥ 10 ^ 18
  · simp at h
    simp [cs, h, callM_e, callB_e]
  · simp at h
    have h' : ¬ (1000000000000000000 ≤ ns[j]?.getD 0) := by omega
    obtain ⟨a', b', v', q⟩ := feed_loop (calF P (k+1)) 0 ((ns[j]?.getD 0 * 48271 + 7919 * j + 11) % 2147483647) (.val (.frl (ns.map .int))) (.val (.int j)) (.val (.int (ns[j]?.getD 0))) .und (by omega) (by omega)
    have hs2 : small64 48271 = true := by decide
    have hs3 : small64 7919 = true := by decide
    simp [cs, h', q, hs2, hs3, callM_e, callB_e]
end
/-- statements one after another -/
theorem exs_app {cal : Nat → Fn} : ∀ {a b : List CS} {e e' : En}, exs cal a e = .ok .nxt e' → exs cal (a ++ b) e = exs cal b e'
  | [], b, e, e', h => by cases h; rfl
  | s :: a, b, e, e', h => by
    show bnd (ex cal s) _ e = _
    have h : bnd (ex cal s) (fun fl => seqK fl (exs cal a)) e = _ := h
    unfold bnd at h ⊢
    cases hm : ex cal s e with
    | stuck => rw [hm] at h; cases h
    | exc x e1 => rw [hm] at h; cases h
    | ok fl e1 =>
      rw [hm] at h
      cases fl with
      | nxt => exact exs_app (a := a) h
      | brk => cases h
      | cnt => cases h
      | rtn s => cases h
end DL
namespace DL
def x1_depth_of : CE := (.call 111 [(.var 2)])
def q1_depth_of : CE := (.comp 0 [1, 2] (.t [(.v 1), (.v 2)]) (.seq (.idx (.var 0) (.lit (.int 1)))) none x1_depth_of)
def b_depth_of : List CS :=
  [.ite (.cmp .eq (.idx (.var 0) (.lit (.int 0))) (.lit (.str [112, 97, 110, 101, 108])))
   [.rtn (.lit (.int 0))]
   [],
  .rtn (.bin 0 .add (.lit (.int 1)) (.bi .maxL 0 [q1_depth_of]))]
/- 111 depth_of: 0=layout 1=share 2=part -/
abbrev c_depth_of : CDef := ⟨3, 1, b_depth_of⟩
class K_depth_of (P : Nat → CDef) : Prop where
  e_depth_of : P 111 = c_depth_of
def x1_dealt : CE := (.bin 0 .fdiv (.bin 0 .mul (.var 0) (.var 7)) (.var 2))
def q1_dealt : CE := (.comp 1 [7] (.v 7) (.seq (.var 1)) none x1_dealt)
def x2_dealt : CE := (.bin 0 .mod (.bin 0 .mul (.var 0) (.var 7)) (.var 2))
def q2_dealt : CE := (.comp 0 [7] (.v 7) (.seq (.var 1)) none x2_dealt)
def k1_dealt : CE := (.tup [(.bin 0 .sub (.lit (.int 0)) (.idx (.var 4) (.var 6))), (.var 6)])
def b1_dealt : List CS :=
  [.sub (.var 3) (.var 6) (.bin 0 .add (.idx (.var 3) (.var 6)) (.lit (.int 1)))]
def l1_dealt : CS := .fors (.v 6) (.seq (.slc 0 (.var 5) none (some (.bin 0 .sub (.var 0) (.bi .sum 0 [(.var 3)]))))) b1_dealt
def b_dealt : List CS :=
  [.setv 2 (.bi .sum 0 [(.var 1)]),
  .setv 3 q1_dealt,
  .setv 4 q2_dealt,
  .setv 5 (.srtK true 0 6 (.bi .len 0 [(.var 1)]) k1_dealt),
  l1_dealt,
  .rtn (.frz (.var 3))]
def s0_dealt : CS := .setv 2 (.bi .sum 0 [(.var 1)])
def s1_dealt : CS := .setv 3 q1_dealt
def s2_dealt : CS := .setv 4 q2_dealt
def s3_dealt : CS := .setv 5 (.srtK true 0 6 (.bi .len 0 [(.var 1)]) k1_dealt)
def s4_dealt : CS := l1_dealt
def s5_dealt : CS := .rtn (.frz (.var 3))
theorem b_dealt_eq : b_dealt = [s0_dealt, s1_dealt, s2_dealt, s3_dealt, s4_dealt, s5_dealt] := rfl
/- 112 dealt: 0=room 1=shares 2=whole 3=sizes 4=rests 5=order 6=k 7=share -/
abbrev c_dealt : CDef := ⟨8, 2, b_dealt⟩
class K_dealt (P : Nat → CDef) : Prop where
  e_dealt : P 112 = c_dealt
def b_part_box : List CS :=
  [.setT [(.v 5), (.v 6), (.v 7), (.v 8)] (.var 0),
  .ite (.cmp .eq (.var 1) (.lit (.str [114, 111, 119, 115])))
   [.rtn (.tup [(.var 5), (.bin 0 .add (.var 6) (.var 2)), (.var 7), (.var 3)])]
   [],
  .ite (.cmp .eq (.var 4) (.lit (.str [114, 105, 103, 104, 116])))
   [.rtn (.tup [(.bin 0 .add (.var 5) (.var 2)), (.var 6), (.var 3), (.var 8)])]
   [],
  .rtn (.tup [(.bin 0 .sub (.bin 0 .sub (.bin 0 .add (.var 5) (.var 7)) (.var 2)) (.var 3)), (.var 6), (.var 3), (.var 8)])]
/- 113 part_box: 0=box 1=way 2=at 3=extent 4=direction 5=left 6=top 7=wide 8=high -/
abbrev c_part_box : CDef := ⟨9, 5, b_part_box⟩
class K_part_box (P : Nat → CDef) : Prop where
  e_part_box : P 113 = c_part_box
def x1_laid : CE := (.var 12)
def q1_laid : CE := (.comp 0 [12, 13] (.t [(.v 12), (.v 13)]) (.seq (.var 10)) none x1_laid)
def b1_laid : List CS :=
  [.expr (.mt .extend 0 (.var 7) [(.call 114 [(.var 13), (.call 113 [(.var 1), (.var 9), (.var 8), (.var 11), (.var 3)]), (.var 2), (.var 3)])]),
  .setv 8 (.bin 0 .add (.bin 0 .add (.var 8) (.var 11)) (.var 4))]
def l1_laid : CS := .fors (.t [(.t [(.v 12), (.v 13)]), (.v 11)]) (.zip (.var 10) (.var 6)) b1_laid
def b_laid : List CS :=
  [.ite (.cmp .eq (.idx (.var 0) (.lit (.int 0))) (.lit (.str [112, 97, 110, 101, 108])))
   [.rtn (.lst 0 [(.tup [(.idx (.var 0) (.lit (.int 1))), (.var 1)])])]
   [],
  .setT [(.v 9), (.v 10)] (.var 0),
  .setv 4 (.bin 0 .mul (.call 111 [(.var 0)]) (.var 2)),
  .setv 5 (.bin 0 .sub (.idx (.var 1) (.bin 0 .add (.lit (.int 2)) (.bi .int1 0 [(.cmp .eq (.var 9) (.lit (.str [114, 111, 119, 115])))]))) (.bin 0 .mul (.bin 0 .sub (.bi .len 0 [(.var 10)]) (.lit (.int 1))) (.var 4))),
  .setv 6 (.call 112 [(.var 5), q1_laid]),
  .ite (.cmp .lt (.bi .minL 0 [(.var 6)]) (.lit (.int 1)))
   [.nev]
   [],
  .setv 7 (.lst 1 []),
  .setv 8 (.lit (.int 0)),
  l1_laid,
  .rtn (.frz (.var 7))]
def s0_laid : CS := .ite (.cmp .eq (.idx (.var 0) (.lit (.int 0))) (.lit (.str [112, 97, 110, 101, 108])))
   [.rtn (.lst 0 [(.tup [(.idx (.var 0) (.lit (.int 1))), (.var 1)])])]
   []
def s1_laid : CS := .setT [(.v 9), (.v 10)] (.var 0)
def s2_laid : CS := .setv 4 (.bin 0 .mul (.call 111 [(.var 0)]) (.var 2))
def s3_laid : CS := .setv 5 (.bin 0 .sub (.idx (.var 1) (.bin 0 .add (.lit (.int 2)) (.bi .int1 0 [(.cmp .eq (.var 9) (.lit (.str [114, 111, 119, 115])))]))) (.bin 0 .mul (.bin 0 .sub (.bi .len 0 [(.var 10)]) (.lit (.int 1))) (.var 4)))
def s4_laid : CS := .setv 6 (.call 112 [(.var 5), q1_laid])
def s5_laid : CS := .ite (.cmp .lt (.bi .minL 0 [(.var 6)]) (.lit (.int 1)))
   [.nev]
   []
def s6_laid : CS := .setv 7 (.lst 1 [])
def s7_laid : CS := .setv 8 (.lit (.int 0))
def s8_laid : CS := l1_laid
def s9_laid : CS := .rtn (.frz (.var 7))
theorem b_laid_eq : b_laid = [s0_laid, s1_laid, s2_laid, s3_laid, s4_laid, s5_laid, s6_laid, s7_laid, s8_laid, s9_laid] := rfl
/- 114 laid: 0=layout 1=box 2=gap 3=direction 4=between 5=room 6=sizes 7=found 8=at 9=way 10=parts 11=extent 12=share 13=part -/
abbrev c_laid : CDef := ⟨14, 4, b_laid⟩
class K_laid (P : Nat → CDef) : Prop extends K_dealt P, K_depth_of P, K_part_box P where
  e_laid : P 114 = c_laid
end DL
/-! what is left, parted by shares -/
namespace DL
def reI (room whole : Int) (ss : List Int) : List Int := ss.map fun s => room * s % whole
def flI (room whole : Int) (ss : List Int) : List Int := ss.map fun s => room * s / whole
abbrev KP := Int × Nat
def kpD (p : KP) : D := .tup [.int p.1, .int p.2]
def leK (a b : KP) : Bool := leD (kpD a) (kpD b)
def kps (re : List Int) : List KP := (List.range re.length).map fun k => (0 - re.getD k 0, k)
def ordK (re : List Int) : List Nat := ((kps re).mergeSort leK).map Prod.snd
def inc1 (l : List Int) (k : Nat) : List Int := l.set k (l.getD k 0 + 1)
def dealtF (room : Int) (ss : List Int) : List Int := ((ordK (reI room ss.sum ss)).take (room - (flI room ss.sum ss).sum).toNat).foldl inc1 (flI room ss.sum ss)
theorem leK_eq (a b : KP) : leK a b = true ↔ a.1 < b.1 ∨ (a.1 = b.1 ∧ a.2 ≤ b.2) := by
  have e : ∀ x y : Int, eqD (.int x) (.int y) = decide (x = y) := fun x y => by
    show (x == y) = _
    by_cases h : x = y <;> simp [h]
  show (!(ltDs [.int b.1, .int b.2] [.int a.1, .int a.2])) = true ↔ _
  unfold ltDs
  rw [e]
  by_cases h : b.1 = a.1
  · rw [h]
    simp only [decide_true, if_true]
    unfold ltDs
    rw [e]
    by_cases h2 : (b.2 : Int) = a.2
    · rw [h2]
      simp [ltDs]
      omega
    · rw [decide_eq_false h2]
      simp [ltD]
  · rw [decide_eq_false h]
    simp [ltD]
    omega
theorem sort_kp (l : List KP) : (l.map kpD).mergeSort leD = (l.mergeSort leK).map kpD := (List.map_mergeSort (r := leK) (s := leD) (f := kpD) fun _ _ _ _ => rfl).symm
theorem srtBy_kp (l : List KP) : srtBy (l.map kpD) (l.map fun p => .int p.2) = (l.mergeSort leK).map fun p => .int p.2 := by
  have e : (l.map kpD).zip (l.map fun p => (.int p.2 : D)) = l.map fun p => (kpD p, (.int p.2 : D)) := by
    induction l with
    | nil => rfl
    | cons a r ih => simp [ih]
  unfold srtBy
  rw [e, ← List.map_mergeSort (r := leK) (s := fun a b : D × D => leD a.1 b.1) (f := fun p : KP => (kpD p, (.int p.2 : D))) fun _ _ _ _ => rfl, List.map_map]
  rfl
theorem kps_int (re : List Int) : rangeL 0 re.length = (kps re).map fun p => .int p.2 := by
  unfold kps rangeL
  rw [List.map_map]
  refine List.map_congr_left fun k _ => ?_
  show D.int (0 + (k : Nat)) = .int ((k : Nat) : Int)
  rw [Int.zero_add]
theorem deps_kp (l : List KP) : deps (l.map kpD) ≤ 1 := by
  induction l with
  | nil => exact Nat.zero_le _
  | cons p r ih =>
    show max (1 + max 0 (max 0 0)) (deps (r.map kpD)) ≤ 1
    omega
theorem srt_kp (l : List KP) (h : l.length ≤ 16777216) : srtOk (l.map kpD) = true := by
  unfold srtOk
  have h1 : (l.map kpD).all (fun x => (l.map kpD).all fun y => alkD x y) = true := by
    rw [List.all_eq_true]
    intro x hx
    rw [List.all_eq_true]
    intro y hy
    obtain ⟨p, _, rfl⟩ := List.mem_map.mp hx
    obtain ⟨q, _, rfl⟩ := List.mem_map.mp hy
    rfl
  have h2 : (l.map kpD).all isTup1 = true := by
    rw [List.all_eq_true]
    intro x hx
    obtain ⟨p, _, rfl⟩ := List.mem_map.mp hx
    rfl
  have h3 := deps_kp l
  rw [h1, h2, decide_eq_true (show deps (l.map kpD) ≤ 60 by omega), decide_eq_true (show (l.map kpD).length ≤ SZ by rw [List.length_map]; exact h)]
  rfl
theorem fzOks_ints (l : List Int) : fzOks (l.map D.int) = true := by
  induction l with
  | nil => rfl
  | cons a r ih => simp [fzOks, fzOk, ih]
theorem fzDs_ints (l : List Int) : fzDs (l.map D.int) = l.map D.int := by
  induction l with
  | nil => rfl
  | cons a r ih => simp [fzDs, fzD, ih]
theorem fzV_ints (l : List Int) : fzV (.lst (l.map D.int)) = .val (.frl (l.map D.int)) := by
  unfold fzV
  rw [show fzOk (.lst (l.map D.int)) = fzOks (l.map D.int) from rfl, fzOks_ints]
  show Sl.val (.frl (fzDs (l.map D.int))) = _
  rw [fzDs_ints]
theorem keysM_of {m : M Sl} {i : Nat} {sl : List Sl} {f : D → D} : ∀ {xs : List D}, (∀ d ∈ xs, keyM m i sl d = some (f d)) → keysM m i sl xs = some (xs.map f)
  | [], _ => rfl
  | d :: r, h => by
    show (match keyM m i sl d, keysM m i sl r with | some k, some l => some (k :: l) | _, _ => none) = _
    rw [h d List.mem_cons_self, keysM_of fun x hx => h x (List.mem_cons_of_mem _ hx)]
    rfl
theorem ev_srtK {cal : Nat → Fn} (rg : Bool) (f i : Nat) (x b : CE) : ev cal (.srtK rg f i x b) = bnd (ev cal x) fun s => srtKM rg f i (ev cal b) s := rfl
theorem comp_f1 {cal : Nat → Fn} {vs : List Nat} {tg : Tg} {it : CI} {c : Option CE} {elt : CE} {e e1 : En} {l : List D} (h : ev cal (.comp 0 vs tg it c elt) e = .ok (.val (.lst l)) e1) :
    ev cal (.comp 1 vs tg it c elt) e = .ok (.cel e1.cs.length) ⟨e1.sl, e1.cs ++ [.lst l]⟩ := by
  have h : bnd (evI cal it) (fun xs => bnd (blockM (compG vs tg (evC cal c) (bnd (ev cal elt) dOf) xs [])) fun l => newL 0 l) e = _ := h
  show bnd (evI cal it) (fun xs => bnd (blockM (compG vs tg (evC cal c) (bnd (ev cal elt) dOf) xs [])) fun l => newL 1 l) e = _
  generalize evI cal it = E at *
  generalize bnd (ev cal elt) dOf = B at *
  generalize evC cal c = C at *
  rw [bnd_e] at h ⊢
  cases h1 : E e with
  | stuck => rw [h1] at h; cases h
  | exc x e' => rw [h1] at h; cases h
  | ok xs e' =>
    rw [h1] at h
    simp only [bnd_e] at h ⊢
    cases h2 : blockM (compG vs tg C B xs []) e' with
    | stuck => rw [h2] at h; cases h
    | exc x e' => rw [h2] at h; cases h
    | ok l' e2 =>
      rw [h2] at h
      have h : Out.ok (Sl.val (.lst l')) e2 = .ok (.val (.lst l)) e1 := h
      injection h with ha hb
      injection ha with ha
      injection ha with ha
      subst ha hb
      rfl
/-- shares: a few, each from 1 to 100 -/
def Shs (ss : List Int) : Prop := 0 < ss.length ∧ ss.length ≤ 1000 ∧ ∀ s ∈ ss, 1 ≤ s ∧ s ≤ 100
theorem sum_bd : ∀ {ss : List Int}, (∀ s ∈ ss, 1 ≤ s ∧ s ≤ 100) → (ss.length : Int) ≤ ss.sum ∧ ss.sum ≤ 100 * ss.length
  | [], _ => by simp
  | a :: r, h => by
    have h1 := h a List.mem_cons_self
    have h2 := sum_bd (ss := r) fun s hs => h s (List.mem_cons_of_mem _ hs)
    simp only [List.sum_cons, List.length_cons]
    omega
theorem Shs.sum {ss : List Int} (h : Shs ss) : 1 ≤ ss.sum ∧ ss.sum ≤ 100000 := by
  have := sum_bd h.2.2
  have := h.1
  have := h.2.1
  omega
theorem parts_eq (room whole : Int) : ∀ (ss : List Int), (flI room whole ss).sum * whole + (reI room whole ss).sum = room * ss.sum
  | [] => by simp [flI, reI]
  | a :: r => by
    have ih := parts_eq room whole r
    have e := Int.mul_ediv_add_emod (room * a) whole
    show (room * a / whole + (flI room whole r).sum) * whole + (room * a % whole + (reI room whole r).sum) = room * (a + r.sum)
    rw [Int.add_mul, Int.mul_add, ← ih, Int.mul_comm (room * a / whole)]
    omega
theorem re_bd (room : Int) {whole : Int} (hw : 0 < whole) : ∀ (ss : List Int), 0 ≤ (reI room whole ss).sum ∧ (reI room whole ss).sum ≤ (whole - 1) * ss.length
  | [] => by simp [reI]
  | a :: r => by
    have ih := re_bd room hw r
    have h1 := Int.emod_nonneg (room * a) (show whole ≠ 0 by omega)
    have h2 := Int.emod_lt_of_pos (room * a) hw
    have e : (whole - 1) * ((a :: r).length : Int) = (whole - 1) * r.length + (whole - 1) := by
      rw [List.length_cons]
      push_cast
      rw [Int.mul_add, Int.mul_one]
    rw [e]
    show 0 ≤ room * a % whole + (reI room whole r).sum ∧ room * a % whole + (reI room whole r).sum ≤ _
    omega
/-- so many get one more -/
theorem extra_bd (room : Int) {ss : List Int} (h : Shs ss) : 0 ≤ room - (flI room ss.sum ss).sum ∧ room - (flI room ss.sum ss).sum < ss.length := by
  have hs := h.sum
  have e := parts_eq room ss.sum ss
  have b := re_bd room (show 0 < ss.sum by omega) ss
  have hn := h.1
  generalize ss.sum = W at *
  generalize (flI room W ss).sum = F at *
  generalize (reI room W ss).sum = R at *
  have e2 : (room - F) * W = R := by rw [Int.sub_mul]; omega
  refine ⟨?_, ?_⟩
  · by_cases c : 0 ≤ room - F
    · exact c
    · have : (room - F) * W ≤ (-1) * W := Int.mul_le_mul_of_nonneg_right (by omega) (by omega)
      omega
  · by_cases c : room - F < ss.length
    · exact c
    · have : (ss.length : Int) * W ≤ (room - F) * W := Int.mul_le_mul_of_nonneg_right (by omega) (by omega)
      have e3 : (W - 1) * (ss.length : Int) = ss.length * W - ss.length := by rw [Int.sub_mul, Int.one_mul, Int.mul_comm]
      omega
theorem ordK_len (re : List Int) : (ordK re).length = re.length := by
  unfold ordK kps
  rw [List.length_map, List.length_mergeSort, List.length_map, List.length_range]
theorem ordK_perm (re : List Int) : List.Perm (ordK re) (List.range re.length) := by
  have h := (List.mergeSort_perm (kps re) leK).map Prod.snd
  have e : (kps re).map Prod.snd = List.range re.length := by
    unfold kps
    rw [List.map_map]
    exact (List.map_congr_left fun k _ => rfl).trans (List.map_id _)
  rw [e] at h
  exact h
theorem inc1_len (l : List Int) (k : Nat) : (inc1 l k).length = l.length := by simp [inc1]
theorem incs_len : ∀ (ks : List Nat) (l : List Int), (ks.foldl inc1 l).length = l.length
  | [], l => rfl
  | k :: r, l => by rw [List.foldl_cons, incs_len r, inc1_len]
theorem dealtF_len (room : Int) (ss : List Int) : (dealtF room ss).length = ss.length := by
  unfold dealtF
  rw [incs_len]
  simp [flI]
/-- the loop that gives one more -/
theorem inc_loop (cal : Nat → Fn) (tg v : Nat) (sl : Sl → List Sl) (hb : ∀ s d, (sl s).set v (.val d) = sl (.val d)) (body : List CS)
    (step : ∀ (l : List Int) (k : Nat), k < l.length → exs cal body ⟨sl (.val (.int k)), [.lst (l.map .int)]⟩ = .ok .nxt ⟨sl (.val (.int k)), [.lst ((inc1 l k).map .int)]⟩) :
    ∀ (ks : List Nat) (l : List Int) (s : Sl), (∀ k ∈ ks, k < l.length) → ∃ s', forD (.v v) (exs cal body) (ks.map fun k => .int (k : Nat)) ⟨sl s, [.lst (l.map .int)]⟩ = .ok .nxt ⟨sl s', [.lst ((ks.foldl inc1 l).map .int)]⟩
  | [], l, s, _ => ⟨s, rfl⟩
  | k :: r, l, s, h => by
    obtain ⟨s', q⟩ := inc_loop cal tg v sl hb body step r (inc1 l k) (.val (.int k)) fun j hj => by rw [inc1_len]; exact h j (List.mem_cons_of_mem _ hj)
    refine ⟨s', ?_⟩
    have e : bnd (bindT (.v v) (.int (k : Nat))) (fun _ => exs cal body) ⟨sl s, [.lst (l.map .int)]⟩ = .ok .nxt ⟨sl (.val (.int k)), [.lst ((inc1 l k).map .int)]⟩ := by
      rw [bnd_v, hb]
      exact step l k (h k List.mem_cons_self)
    rw [List.map_cons, forD_step e]
    exact q
theorem map_inc1 (l : List Int) (k : Nat) (h : k < l.length) : (l.map D.int).set k (.int (l[k] + 1)) = (inc1 l k).map D.int := by
  unfold inc1
  rw [List.map_set, List.getD_eq_getElem?_getD, List.getElem?_eq_getElem h]
  rfl
section
variable {P : Nat → CDef} {cal : Nat → Fn}
theorem dealt_sp [K_dealt P] (k : Nat) (room : Int) (ss : List Int) (h : Shs ss) : Pu (calF P (k+1) 112) [.val (.int room), .val (.lst (ss.map D.int))] (.lst ((dealtF room ss).map D.int)) := by
  have hs := h.sum
  have hl := h.2.1
  have ex0 := extra_bd room h
  obtain ⟨W, hW⟩ : ∃ W, W = ss.sum := ⟨_, rfl⟩
  rw [← hW] at hs ex0
  have smul : ∀ s ∈ ss, small64 s = true := fun s z => small_lt (by have := h.2.2 s z; omega) (by have := h.2.2 s z; omega)
  have c1 := comp1 (cal := calF P k) (j := 7) (it := .seq (.var 1)) (elt := x1_dealt) (xs := ss.map D.int) (e := ⟨[.val (.int room), .val (.lst (ss.map D.int)), .val (.int W), .und, .und, .und, .und, .und], []⟩) (e1 := ⟨[.val (.int room), .val (.lst (ss.map D.int)), .val (.int W), .und, .und, .und, .und, .und], []⟩) (fun d => match d with | .int s => .int (room * s / W) | d => d) (by simp) (fun d hd => by
    obtain ⟨s, z, rfl⟩ := List.mem_map.mp hd
    rw [x1_dealt]
    have w1 : 0 < W := by omega
    have w2 : W < 1073741824 := by omega
    simp [smul s z, w1, w2]) (by simp; omega)
  have e1 : (ss.map D.int).map (fun d => match d with | .int s => .int (room * s / W) | d => d) = (flI room W ss).map D.int := by
    unfold flI
    rw [List.map_map, List.map_map]
    exact List.map_congr_left fun _ _ => rfl
  rw [e1] at c1
  have c1' := comp_f1 c1
  have c2 := comp1 (cal := calF P k) (j := 7) (it := .seq (.var 1)) (elt := x2_dealt) (xs := ss.map D.int) (e := ⟨[.val (.int room), .val (.lst (ss.map D.int)), .val (.int W), .cel 0, .und, .und, .und, .und], [.lst ((flI room W ss).map D.int)]⟩) (e1 := ⟨[.val (.int room), .val (.lst (ss.map D.int)), .val (.int W), .cel 0, .und, .und, .und, .und], [.lst ((flI room W ss).map D.int)]⟩) (fun d => match d with | .int s => .int (room * s % W) | d => d) (by simp) (fun d hd => by
    obtain ⟨s, z, rfl⟩ := List.mem_map.mp hd
    rw [x2_dealt]
    have w1 : 0 < W := by omega
    simp [smul s z, w1]) (by simp; omega)
  have e2 : (ss.map D.int).map (fun d => match d with | .int s => .int (room * s % W) | d => d) = (reI room W ss).map D.int := by
    unfold reI
    rw [List.map_map, List.map_map]
    exact List.map_congr_left fun _ _ => rfl
  rw [e2] at c2
  have lr : (reI room W ss).length = ss.length := by simp [reI]
  have lf : (flI room W ss).length = ss.length := by simp [flI]
  have ky : keysM (ev (calF P k) k1_dealt) 6 [.val (.int room), .val (.frl (ss.map D.int)), .val (.int W), .val (.frl ((flI room W ss).map D.int)), .val (.frl ((reI room W ss).map D.int)), .und, .und, .und] (rangeL 0 ss.length) = some ((kps (reI room W ss)).map kpD) := by
    have q := keysM_of (m := ev (calF P k) k1_dealt) (i := 6) (sl := [.val (.int room), .val (.frl (ss.map D.int)), .val (.int W), .val (.frl ((flI room W ss).map D.int)), .val (.frl ((reI room W ss).map D.int)), .und, .und, .und]) (xs := rangeL 0 ss.length) (f := fun d => match d with | .int i => kpD (0 - (reI room W ss).getD i.toNat 0, i.toNat) | d => d) (fun d hd => by
      obtain ⟨i, hi, rfl⟩ := range_mem hd
      have hi' : i < (reI room W ss).length := by omega
      unfold keyM
      rw [k1_dealt, show fzV (.int (0 + (i : Nat))) = .val (.int (i : Nat)) by rw [Int.zero_add]; rfl]
      simp [hi', kpD])
    rw [q]
    congr 1
    unfold rangeL kps
    rw [lr, List.map_map, List.map_map]
    refine List.map_congr_left fun i _ => ?_
    simp [kpD]
  have od : srtBy ((kps (reI room W ss)).map kpD) (rangeL 0 ss.length) = (ordK (reI room W ss)).map fun k => .int (k : Nat) := by
    rw [← lr, kps_int, srtBy_kp]
    unfold ordK
    rw [List.map_map]
    rfl
  have so := srt_kp (kps (reI room W ss)) (by simp [kps, lr]; omega)
  have fo : fzOks (rangeL 0 ss.length) = true := by
    have : rangeL 0 ss.length = ((List.range ss.length).map fun i => (0 + (i : Nat) : Int)).map D.int := by
      unfold rangeL
      rw [List.map_map]; rfl
    rw [this, fzOks_ints]
  have hb : ∃ s6, exs (calF P k) b_dealt ⟨[.val (.int room), .val (.lst (ss.map D.int)), .und, .und, .und, .und, .und, .und], []⟩ = .ok (.rtn (.val (.lst ((dealtF room ss).map D.int)))) ⟨[.val (.int room), .val (.lst (ss.map D.int)), .val (.int W), .cel 0, .val (.lst ((reI room W ss).map D.int)), .val (.lst ((ordK (reI room W ss)).map fun k => .int (k : Nat))), s6, .und], [.gone]⟩ := by
    obtain ⟨s6, q⟩ := inc_loop (calF P k) 0 6 (fun s => [.val (.int room), .val (.lst (ss.map D.int)), .val (.int W), .cel 0, .val (.lst ((reI room W ss).map D.int)), .val (.lst ((ordK (reI room W ss)).map fun k => .int (k : Nat))), s, .und]) (fun _ _ => rfl) b1_dealt (fun l k hk => by
      have e : (l.map D.int).set k (.int (l[k] + 1)) = (inc1 l k).map D.int := map_inc1 l k hk
      have z : ixP l.length (k : Int) = some k := by
        unfold ixP
        rw [if_pos (by omega), if_pos (by omega)]; rfl
      rw [b1_dealt]
      simp [hk, z, ← e]) ((ordK (reI room W ss)).take (room - (flI room W ss).sum).toNat) (flI room W ss) .und (fun j hj => by
        have := (ordK_perm (reI room W ss)).mem_iff.mp (List.mem_of_mem_take hj)
        rw [List.mem_range] at this
        omega)
    refine ⟨s6, ?_⟩
    have t0 : ex (calF P k) s0_dealt ⟨[.val (.int room), .val (.lst (ss.map D.int)), .und, .und, .und, .und, .und, .und], []⟩ = .ok .nxt ⟨[.val (.int room), .val (.lst (ss.map D.int)), .val (.int W), .und, .und, .und, .und, .und], []⟩ := by
      have e : biD 0 .sum [.lst (ss.map D.int)] = ret (.val (.int ss.sum)) := by
        show (match intsOf (ss.map D.int) with | some l => ret (.val (.int l.sum)) | none => stk : M Sl) = _
        rw [ints_map0]
      rw [s0_dealt, hW]
      simp [e]
    have t1 : ex (calF P k) s1_dealt ⟨[.val (.int room), .val (.lst (ss.map D.int)), .val (.int W), .und, .und, .und, .und, .und], []⟩ = .ok .nxt ⟨[.val (.int room), .val (.lst (ss.map D.int)), .val (.int W), .cel 0, .und, .und, .und, .und], [.lst ((flI room W ss).map D.int)]⟩ := by
      rw [s1_dealt, q1_dealt]
      simp [c1']
    have t2 : ex (calF P k) s2_dealt ⟨[.val (.int room), .val (.lst (ss.map D.int)), .val (.int W), .cel 0, .und, .und, .und, .und], [.lst ((flI room W ss).map D.int)]⟩ = .ok .nxt ⟨[.val (.int room), .val (.lst (ss.map D.int)), .val (.int W), .cel 0, .val (.lst ((reI room W ss).map D.int)), .und, .und, .und], [.lst ((flI room W ss).map D.int)]⟩ := by
      rw [s2_dealt, q2_dealt]
      simp [c2]
    have t3 : ex (calF P k) s3_dealt ⟨[.val (.int room), .val (.lst (ss.map D.int)), .val (.int W), .cel 0, .val (.lst ((reI room W ss).map D.int)), .und, .und, .und], [.lst ((flI room W ss).map D.int)]⟩ = .ok .nxt ⟨[.val (.int room), .val (.lst (ss.map D.int)), .val (.int W), .cel 0, .val (.lst ((reI room W ss).map D.int)), .val (.lst ((ordK (reI room W ss)).map fun k => .int (k : Nat))), .und, .und], [.lst ((flI room W ss).map D.int)]⟩ := by
      have z1 : decide ((ss.length : Int) ≤ 16777216) = true := decide_eq_true (by omega)
      have z2 : decide (ss.length ≤ 16777216) = true := decide_eq_true (by omega)
      have zl : (rangeL 0 ss.length).length = ss.length := by simp [rangeL]
      have fm : [Sl.val (.int room), .val (.lst (ss.map D.int)), .val (.int W), .cel 0, .val (.lst ((reI room W ss).map D.int)), .und, .und, .und].map (fzS [.lst ((flI room W ss).map D.int)]) = [.val (.int room), .val (.frl (ss.map D.int)), .val (.int W), .val (.frl ((flI room W ss).map D.int)), .val (.frl ((reI room W ss).map D.int)), .und, .und, .und] := by
        show [_, fzV (.lst (ss.map D.int)), _, fzV (.lst ((flI room W ss).map D.int)), fzV (.lst ((reI room W ss).map D.int)), _, _, _] = _
        rw [fzV_ints, fzV_ints, fzV_ints]
        rfl
      have key : srtKM true 0 6 (ev (calF P k) k1_dealt) (.val (.int ss.length)) ⟨[.val (.int room), .val (.lst (ss.map D.int)), .val (.int W), .cel 0, .val (.lst ((reI room W ss).map D.int)), .und, .und, .und], [.lst ((flI room W ss).map D.int)]⟩ = .ok (.val (.lst ((ordK (reI room W ss)).map fun k => .int (k : Nat)))) ⟨[.val (.int room), .val (.lst (ss.map D.int)), .val (.int W), .cel 0, .val (.lst ((reI room W ss).map D.int)), .und, .und, .und], [.lst ((flI room W ss).map D.int)]⟩ := by
        show (req (decide (0 ≤ (ss.length : Int)) && decide ((ss.length : Int) ≤ SZ)) (srtLM 0 6 (ev (calF P k) k1_dealt) (rangeL 0 (ss.length : Int).toNat))) _ = _
        rw [show decide ((ss.length : Int) ≤ (SZ : Nat)) = true from z1, decide_eq_true (show 0 ≤ (ss.length : Int) by omega), Int.toNat_natCast]
        show srtLM 0 6 (ev (calF P k) k1_dealt) (rangeL 0 ss.length) _ = _
        unfold srtLM
        rw [fm, ky]
        show req (srtOk _ && fzOks _ && decide ((rangeL 0 ss.length).length ≤ SZ)) (newL 0 (srtBy _ (rangeL 0 ss.length))) _ = _
        rw [so, fo, zl, show decide (ss.length ≤ SZ) = true from z2, od]
        rfl
      rw [s3_dealt]
      simp [ev_srtK, key]
    have t4 : ex (calF P k) s4_dealt ⟨[.val (.int room), .val (.lst (ss.map D.int)), .val (.int W), .cel 0, .val (.lst ((reI room W ss).map D.int)), .val (.lst ((ordK (reI room W ss)).map fun k => .int (k : Nat))), .und, .und], [.lst ((flI room W ss).map D.int)]⟩ = .ok .nxt ⟨[.val (.int room), .val (.lst (ss.map D.int)), .val (.int W), .cel 0, .val (.lst ((reI room W ss).map D.int)), .val (.lst ((ordK (reI room W ss)).map fun k => .int (k : Nat))), s6, .und], [.lst ((dealtF room ss).map D.int)]⟩ := by
      rw [s4_dealt, l1_dealt]
      have e : biD 0 .sum [.lst ((flI room W ss).map D.int)] = ret (.val (.int (flI room W ss).sum)) := by
        show (match intsOf ((flI room W ss).map D.int) with | some l => ret (.val (.int l.sum)) | none => stk : M Sl) = _
        rw [ints_map0]
      have lo : (ordK (reI room W ss)).length = ss.length := by rw [ordK_len, lr]
      have ct : cutL ((ordK (reI room W ss)).map fun k => D.int (k : Nat)) none (some (room - (flI room W ss).sum)) = ((ordK (reI room W ss)).take (room - (flI room W ss).sum).toNat).map fun k => D.int (k : Nat) := by
        have i1 : ixB ss.length ss.length (some (room - (flI room W ss).sum)) = (room - (flI room W ss).sum).toNat := by
          show (if room - (flI room W ss).sum < 0 then _ else _) = _
          rw [if_neg (by omega), Nat.min_eq_left (by omega)]
        unfold cutL
        rw [List.length_map, lo, i1, show ixB ss.length 0 none = 0 from rfl, List.drop_zero, Nat.sub_zero, List.map_take]
      have qd : dealtF room ss = ((ordK (reI room W ss)).take (room - (flI room W ss).sum).toNat).foldl inc1 (flI room W ss) := by rw [hW]; rfl
      rw [qd]
      refine ex_fors_at (e1 := ⟨[.val (.int room), .val (.lst (ss.map D.int)), .val (.int W), .cel 0, .val (.lst ((reI room W ss).map D.int)), .val (.lst ((ordK (reI room W ss)).map fun k => .int (k : Nat))), .und, .und], [.lst ((flI room W ss).map D.int)]⟩) ?_ q
      simp [e, sliceM, ct]
    rw [b_dealt_eq]
    refine exs_nx t0 (exs_nx t1 (exs_nx t2 (exs_nx t3 (exs_nx t4 (exs_rtn ?_)))))
    rw [s5_dealt]
    simp [dOf]
  obtain ⟨s6, hb⟩ := hb
  exact Pu.run K_dealt.e_dealt hb
end
end DL
/-! layouts, how deep they are, laid in boxes -/
namespace DL
section
variable {α : Type} {cal : Nat → Fn} {it : CI} {elt : CE} {e e1 : En}
theorem compG_l {β : Type} {vs : List Nat} {tg : Tg} {elt : M β} (I : En → Prop) (inp : α → D) (out : α → β) :
    ∀ (xs : List α) (acc : List β) (e : En), (∀ a ∈ xs, ∀ e, I e → ∃ e1, bnd (wipS vs) (fun _ => bindT tg (inp a)) e = .ok () e1 ∧ ∃ e3, elt e1 = .ok (out a) e3 ∧ I e3) → acc.length + xs.length ≤ 16777216 → I e →
      ∃ e', compG vs tg (ret true) elt (xs.map inp) acc e = .ok (acc ++ xs.map out) e' ∧ I e'
  | [], acc, e, _, _, h => ⟨e, by simp [compG], h⟩
  | a :: r, acc, e, step, hl, h => by
    obtain ⟨e1, h1, e3, h2, h3⟩ := step a List.mem_cons_self e h
    simp only [List.length_cons] at hl
    obtain ⟨e', q1, q2⟩ := compG_l I inp out r (acc ++ [out a]) e3 (fun d hd => step d (List.mem_cons_of_mem _ hd)) (by simp; omega) h3
    refine ⟨e', ?_, q2⟩
    have hb : bindT tg (inp a) ⟨setAll vs e.sl, e.cs⟩ = .ok () e1 := h1
    show bnd (wipS vs) (fun _ => bnd (bindT tg (inp a)) fun _ => bnd elt fun y => req (decide (acc.length < SZ)) (compG vs tg (ret true) elt (r.map inp) (acc ++ [y]))) e = _
    have : decide (acc.length < SZ) = true := decide_eq_true (show acc.length < 16777216 by omega)
    simp only [bnd_e, wipS]
    rw [hb]
    simp only [h2, this, req_t]
    rw [q1]
    simp
/-- two names, of pairs, item by item -/
theorem comp2L {i j : Nat} (hij : i ≠ j) (xs : List α) (a b y : α → D) (hi : evI cal it e = .ok (xs.map fun p => .tup [a p, b p]) e1) (step : ∀ p ∈ xs, bnd (ev cal elt) dOf ⟨(e1.sl.set i (.val (a p))).set j (.val (b p)), e1.cs⟩ = .ok (y p) ⟨(e1.sl.set i (.val (a p))).set j (.val (b p)), e1.cs⟩) (hl : xs.length ≤ 16777216) :
    ev cal (.comp 0 [i, j] (.t [.v i, .v j]) it none elt) e = .ok (.val (.lst (xs.map y))) e1 := by
  obtain ⟨e', q1, q2⟩ := compG_l (vs := [i, j]) (tg := .t [.v i, .v j]) (elt := bnd (ev cal elt) dOf) (fun e => e.cs = e1.cs ∧ ∀ s t, (e.sl.set i s).set j t = (e1.sl.set i s).set j t) (fun p => .tup [a p, b p]) y xs [] e1 (fun p hp e he => by
    refine ⟨⟨(e1.sl.set i (.val (a p))).set j (.val (b p)), e1.cs⟩, ?_, _, step p hp, rfl, fun s t => ?_⟩
    · show Out.ok () ⟨((((e.sl.set j .und).set i .und).set i (.val (a p))).set j (.val (b p))), e.cs⟩ = _
      rw [he.1, List.set_set, List.set_comm _ _ hij, List.set_set, List.set_comm _ _ (Ne.symm hij), he.2]
    · show ((((e1.sl.set i (.val (a p))).set j (.val (b p))).set i s).set j t) = _
      rw [List.set_comm (l := e1.sl.set i (.val (a p))) _ _ (Ne.symm hij), List.set_set, List.set_set]) (by simpa using hl) ⟨rfl, fun _ _ => rfl⟩
  show bnd (evI cal it) (fun xs => bnd (blockM (compG [i, j] (.t [.v i, .v j]) (evC cal none) (bnd (ev cal elt) dOf) xs [])) fun l => newL 0 l) e = _
  rw [bnd_at hi]
  have : blockM (compG [i, j] (.t [.v i, .v j]) (evC cal none) (bnd (ev cal elt) dOf) (xs.map fun p => .tup [a p, b p]) []) e1 = .ok (xs.map y) e1 := by
    have ec : evC cal none = ret true := id rfl
    rw [ec]
    unfold blockM
    rw [q1]
    show Out.ok ([] ++ _) ⟨e1.sl, e'.cs⟩ = _
    rw [q2.1]; rfl
  rw [bnd_at this]; rfl
end
theorem zip_e {cal : Nat → Fn} (a b : CE) : evI cal (.zip a b) = bnd (ev cal a) fun s => bnd (ev cal b) fun t => bnd (dOf s) fun x => bnd (dOf t) fun y => zipM x y := rfl
@[simp] theorem zipM_tl (xs ys : List D) : zipM (.tup xs) (.lst ys) = ret (zipL xs ys) := id rfl
@[simp] theorem zipM_lt (xs ys : List D) : zipM (.lst xs) (.tup ys) = ret (zipL xs ys) := id rfl
@[simp] theorem zipM_ll (xs ys : List D) : zipM (.lst xs) (.lst ys) = ret (zipL xs ys) := id rfl
/-! layouts -/
mutual
inductive Ly where
  | pan (n : List Nat)
  | way (r : Bool) (ps : Lys)
inductive Lys where
  | nil
  | con (s : Int) (l : Ly) (r : Lys)
end
abbrev sPanel : List Nat := [112, 97, 110, 101, 108]
abbrev sRows : List Nat := [114, 111, 119, 115]
abbrev sCols : List Nat := [99, 111, 108, 117, 109, 110, 115]
abbrev sRight : List Nat := [114, 105, 103, 104, 116]
abbrev sLeft : List Nat := [108, 101, 102, 116]
def wayS (r : Bool) : List Nat := if r then sRows else sCols
def dirT (r : Bool) : List Nat := if r then sRight else sLeft
def Lys.toL : Lys → List (Int × Ly)
  | .nil => []
  | .con s l r => (s, l) :: r.toL
mutual
def lyD : Ly → D
  | .pan n => .tup [.str sPanel, .str n]
  | .way r ps => .tup [.str (wayS r), .tup (lysD ps)]
def lysD : Lys → List D
  | .nil => []
  | .con s l r => .tup [.int s, lyD l] :: lysD r
end
mutual
def depthF : Ly → Nat
  | .pan _ => 0
  | .way _ ps => 1 + depthFs ps
def depthFs : Lys → Nat
  | .nil => 0
  | .con _ l r => max (depthF l) (depthFs r)
end
def Lys.shs (ps : Lys) : List Int := ps.toL.map Prod.fst
mutual
def wfL : Ly → Prop
  | .pan _ => True
  | .way _ ps => Shs ps.shs ∧ wfLs ps
def wfLs : Lys → Prop
  | .nil => True
  | .con _ l r => wfL l ∧ wfLs r
end
theorem lysD_eq : ∀ ps : Lys, lysD ps = ps.toL.map fun p => .tup [.int p.1, lyD p.2]
  | .nil => by rw [lysD, Lys.toL]; rfl
  | .con s l r => by
    rw [lysD, Lys.toL, lysD_eq r]; rfl
theorem depthFs_mem : ∀ (ps : Lys), ∀ p ∈ ps.toL, depthF p.2 ≤ depthFs ps
  | .nil, p, h => by rw [Lys.toL] at h; cases h
  | .con s l r, p, h => by
    rw [Lys.toL] at h
    rw [depthFs]
    rcases List.mem_cons.mp h with e | e
    · subst e; exact Nat.le_max_left _ _
    · exact Nat.le_trans (depthFs_mem r p e) (Nat.le_max_right _ _)
theorem wfLs_mem : ∀ (ps : Lys), wfLs ps → ∀ p ∈ ps.toL, wfL p.2
  | .nil, _, p, h => by rw [Lys.toL] at h; cases h
  | .con s l r, w, p, h => by
    rw [Lys.toL] at h
    rw [wfLs] at w
    rcases List.mem_cons.mp h with e | e
    · subst e; exact w.1
    · exact wfLs_mem r w.2 p e
theorem shs_len (ps : Lys) : ps.shs.length = ps.toL.length := by simp [Lys.shs]
theorem maxI_dep : ∀ (ps : Lys), ps.toL ≠ [] → maxI (ps.toL.map fun p => (depthF p.2 : Int)) = (depthFs ps : Nat)
  | .nil, h => by rw [Lys.toL] at h; exact absurd rfl h
  | .con s l .nil, _ => by
    rw [Lys.toL, Lys.toL, depthFs, depthFs]
    simp [maxI]
  | .con s l (.con s2 l2 r), _ => by
    have ih := maxI_dep (.con s2 l2 r) (by rw [Lys.toL]; simp)
    rw [Lys.toL, depthFs]
    rw [Lys.toL] at ih ⊢
    simp only [List.map_cons] at ih ⊢
    rw [maxI, ih]
    · omega
    · simp
def bDep (i : Nat) : List CS :=
  [.ite (.cmp .eq (.idx (.var 0) (.lit (.int 0))) (.lit (.str [112, 97, 110, 101, 108])))
   [.rtn (.lit (.int 0))]
   [],
  .rtn (.bin 0 .add (.lit (.int 1)) (.bi .maxL 0 [(.comp 0 [1, 2] (.t [(.v 1), (.v 2)]) (.seq (.idx (.var 0) (.lit (.int 1)))) none (.call i [(.var 2)]))]))]
theorem wayS_ne (r : Bool) : (wayS r == sPanel) = false := by cases r <;> decide
section
variable {P : Nat → CDef}
theorem lyDep_of {i : Nat} (hP : P i = ⟨3, 1, bDep i⟩) : ∀ (K : Nat) (l : Ly), wfL l → depthF l < K → Pu (calF P K i) [.val (lyD l)] (.int (depthF l : Nat))
  | 0, l, _, h => by omega
  | K + 1, .pan n, _, _ => by
    rw [lyD, depthF]
    refine Pu.run hP (sl := [.val (.tup [.str sPanel, .str n]), .und, .und]) (e := ⟨[.val (.tup [.str sPanel, .str n]), .und, .und], []⟩) ?_
    rw [bDep]
    refine exs_rtn ?_
    simp
  | K + 1, .way r ps, w, h => by
    rw [wfL] at w
    rw [lyD, depthF]
    rw [depthF] at h
    have hne : ps.toL ≠ [] := fun z => by have := w.1.1; rw [shs_len, z] at this; simp at this
    have hlen : ps.toL.length ≤ 1000 := by have := w.1.2.1; rw [shs_len] at this; exact this
    have ih : ∀ p ∈ ps.toL, Pu (calF P K i) [.val (lyD p.2)] (.int (depthF p.2 : Nat)) := fun p hp => lyDep_of hP K p.2 (wfLs_mem ps w.2 p hp) (by have := depthFs_mem ps p hp; omega)
    have c := comp2L (cal := calF P K) (i := 1) (j := 2) (it := .seq (.idx (.var 0) (.lit (.int 1)))) (elt := .call i [.var 2]) (by omega) ps.toL (fun p => .int p.1) (fun p => lyD p.2) (fun p => .int (depthF p.2 : Nat)) (e := ⟨[.val (.tup [.str (wayS r), .tup (lysD ps)]), .und, .und], []⟩) (e1 := ⟨[.val (.tup [.str (wayS r), .tup (lysD ps)]), .und, .und], []⟩) (by simp [lysD_eq]) (fun p hp => by
      have := ih p hp
      simp [this _]) (by omega)
    have mx : biD 0 .maxL [.lst (ps.toL.map fun p => D.int (depthF p.2 : Nat))] = ret (.val (.int (depthFs ps : Nat))) := by
      rw [← maxI_dep ps hne]
      have e : (ps.toL.map fun p => D.int (depthF p.2 : Nat)) = (ps.toL.map fun p => (depthF p.2 : Int)).map D.int := by rw [List.map_map]; rfl
      rw [e]
      cases hq : ps.toL.map (fun p => (depthF p.2 : Int)) with
      | nil => exact absurd (List.map_eq_nil_iff.mp hq) hne
      | cons a q => rw [List.map_cons]; exact maxL_i 0 a q
    refine Pu.run hP (sl := [.val (.tup [.str (wayS r), .tup (lysD ps)]), .und, .und]) (e := ⟨[.val (.tup [.str (wayS r), .tup (lysD ps)]), .und, .und], []⟩) ?_
    rw [bDep]
    refine exs_nx (e' := ⟨[.val (.tup [.str (wayS r), .tup (lysD ps)]), .und, .und], []⟩) (by have := wayS_ne r; simp only [sPanel] at this; simp [this]) (exs_rtn ?_)
    simp [c, mx]
theorem depth_sp [K_depth_of P] (K : Nat) (l : Ly) (w : wfL l) (h : depthF l < K) : Pu (calF P K 111) [.val (lyD l)] (.int (depthF l : Nat)) := lyDep_of K_depth_of.e_depth_of K l w h
theorem l_depth_sp [K_l_depth P] (K : Nat) (l : Ly) (w : wfL l) (h : depthF l < K) : Pu (calF P K 102) [.val (lyD l)] (.int (depthF l : Nat)) := lyDep_of K_l_depth.e_l_depth K l w h
/-! boxes of parts -/
abbrev Bx4 := Int × Int × Int × Int
def b4D (b : Bx4) : D := .tup [.int b.1, .int b.2.1, .int b.2.2.1, .int b.2.2.2]
def partF (r dr : Bool) (b : Bx4) (a z : Int) : Bx4 := if r then (b.1, b.2.1 + a, b.2.2.1, z) else if dr then (b.1 + a, b.2.1, z, b.2.2.2) else (b.1 + b.2.2.1 - a - z, b.2.1, z, b.2.2.2)
theorem part_sp [K_part_box P] (k : Nat) (r dr : Bool) (b : Bx4) (a z : Int) : Pu (calF P (k+1) 113) [.val (b4D b), .val (.str (wayS r)), .val (.int a), .val (.int z), .val (.str (dirT dr))] (b4D (partF r dr b a z)) := Pu.of <| by
  cases r <;> cases dr <;> simp [calF_e, K_part_box.e_part_box, b_part_box, wayS, dirT, b4D, partF]
/-- a panel with its box -/
abbrev PB := List Nat × Bx4
def pbD (p : PB) : D := .tup [.str p.1, b4D p.2]
def sideI (r : Bool) (b : Bx4) : Int := if r then b.2.2.2 else b.2.2.1
def roomOf (g : Int) (r : Bool) (ps : Lys) (b : Bx4) : Int := sideI r b - ((ps.toL.length : Nat) - 1) * (((1 + depthFs ps : Nat) : Int) * g)
mutual
def laidF (g : Int) (dr : Bool) : Ly → Bx4 → Option (List PB)
  | .pan n, b => some [(n, b)]
  | .way r ps, b => if minI (dealtF (roomOf g r ps b) ps.shs) < 1 then none else laidFs g dr r b (((1 + depthFs ps : Nat) : Int) * g) ps (dealtF (roomOf g r ps b) ps.shs) 0
def laidFs (g : Int) (dr r : Bool) (b : Bx4) (W : Int) : Lys → List Int → Int → Option (List PB)
  | .nil, _, _ => some []
  | .con _ _ _, [], _ => some []
  | .con _ l q, z :: zs, a => match laidF g dr l (partF r dr b a z), laidFs g dr r b W q zs (a + z + W) with
    | some x, some y => some (x ++ y)
    | _, _ => none
end
theorem extend_0 (ys xs : List D) (sl : List Sl) (h : xs.length + ys.length ≤ 16777216) : mtM 0 .extend (.cel 0) [.val (.lst ys)] ⟨sl, [.lst xs]⟩ = .ok (.val .non) ⟨sl, [.lst (xs ++ ys)]⟩ := by
  rw [extend_e]
  simp [h]
theorem laid_loop [K_laid P] (K : Nat) (g : Int) (dr r : Bool) (b : Bx4) (W : Int) (s0 s5 s6 s10 : Sl) (hg : 1 ≤ K)
    : ∀ (ps : Lys) (zs : List Int) (a : Int) (res f : List PB) (s11 s12 s13 : Sl), (∀ p ∈ ps.toL, ∀ b res, laidF g dr p.2 b = some res → res.length ≤ 16777216 → Pu (calF P K 114) [.val (lyD p.2), .val (b4D b), .val (.int g), .val (.str (dirT dr))] (.lst (res.map pbD))) →
      laidFs g dr r b W ps zs a = some res → f.length + res.length ≤ 16777216 →
      ∃ a' s11' s12' s13', forD (.t [(.t [(.v 12), (.v 13)]), (.v 11)]) (exs (calF P K) b1_laid) (zipL (lysD ps) (zs.map .int)) ⟨[s0, .val (b4D b), .val (.int g), .val (.str (dirT dr)), .val (.int W), s5, s6, .cel 0, .val (.int a), .val (.str (wayS r)), s10, s11, s12, s13], [.lst (f.map pbD)]⟩ = .ok .nxt ⟨[s0, .val (b4D b), .val (.int g), .val (.str (dirT dr)), .val (.int W), s5, s6, .cel 0, .val (.int a'), .val (.str (wayS r)), s10, s11', s12', s13'], [.lst ((f ++ res).map pbD)]⟩
  | .nil, zs, a, res, f, s11, s12, s13, _, h, _ => by
    rw [laidFs] at h
    cases h
    refine ⟨a, s11, s12, s13, ?_⟩
    rw [lysD]
    simp [zipL]
  | .con s l q, [], a, res, f, s11, s12, s13, _, h, _ => by
    rw [laidFs] at h
    cases h
    refine ⟨a, s11, s12, s13, ?_⟩
    rw [lysD]
    simp [zipL]
  | .con s l q, z :: zs, a, res, f, s11, s12, s13, ih, h, hl => by
    rw [laidFs] at h
    cases hx : laidF g dr l (partF r dr b a z) with
    | none => rw [hx] at h; cases h
    | some x =>
      rw [hx] at h
      cases hy : laidFs g dr r b W q zs (a + z + W) with
      | none => rw [hy] at h; cases h
      | some y =>
        rw [hy] at h
        have h : some (x ++ y) = some res := h
        injection h with h
        subst h
        rw [List.length_append] at hl
        obtain ⟨K', rfl⟩ : ∃ K', K = K' + 1 := ⟨K - 1, by omega⟩
        have c1 := part_sp (P := P) K' r dr b a z
        have c2 := ih (s, l) (by rw [Lys.toL]; exact List.mem_cons_self) _ x hx (by omega)
        obtain ⟨a', t11, t12, t13, qq⟩ := laid_loop (K' + 1) g dr r b W s0 s5 s6 s10 (by omega) q zs (a + z + W) y (f ++ x) (.val (.int z)) (.val (.int s)) (.val (lyD l)) (fun p hp => ih p (by rw [Lys.toL]; exact List.mem_cons_of_mem _ hp)) hy (by simp; omega)
        refine ⟨a', t11, t12, t13, ?_⟩
        rw [lysD, List.map_cons]
        show forD _ _ (.tup [.tup [.int s, lyD l], .int z] :: zipL (lysD q) (zs.map .int)) _ = _
        have ex1 := extend_0 (x.map pbD) (f.map pbD)
        rw [forD_step (e' := ⟨[s0, .val (b4D b), .val (.int g), .val (.str (dirT dr)), .val (.int W), s5, s6, .cel 0, .val (.int (a + z + W)), .val (.str (wayS r)), s10, .val (.int z), .val (.int s), .val (lyD l)], [.lst ((f ++ x).map pbD)]⟩) (fl := .nxt) ?_]
        · rw [← List.append_assoc]
          exact qq
        · rw [b1_laid]
          simp [c1 _, c2 _, ex1 _ (show (f.map pbD).length + (x.map pbD).length ≤ 16777216 by simp; omega), -extend_e]
theorem minL_ok {zs : List Int} (h : zs ≠ []) : biD 0 .minL [.lst (zs.map D.int)] = ret (.val (.int (minI zs))) := by
  cases zs with
  | nil => exact absurd rfl h
  | cons a q => rw [List.map_cons]; exact minL_i 0 a q
theorem side_at (r : Bool) (b : Bx4) : atP [D.int b.1, .int b.2.1, .int b.2.2.1, .int b.2.2.2] (2 + if r then 1 else 0) = some (.int (sideI r b)) := by
  cases r <;> rfl
theorem laid_sp [K_laid P] : ∀ (K : Nat) (g : Int) (dr : Bool) (l : Ly) (b : Bx4) (res : List PB), wfL l → depthF l + 2 ≤ K → depthF l ≤ 1000000 → laidF g dr l b = some res → res.length ≤ 16777216 → Pu (calF P K 114) [.val (lyD l), .val (b4D b), .val (.int g), .val (.str (dirT dr))] (.lst (res.map pbD))
  | 0, g, dr, l, b, res, w, h, _, _, _ => by omega
  | K + 1, g, dr, .pan n, b, res, w, h, _, hr, _ => by
    rw [laidF] at hr
    cases hr
    rw [lyD]
    refine Pu.run K_laid.e_laid (sl := [.val (.tup [.str sPanel, .str n]), .val (b4D b), .val (.int g), .val (.str (dirT dr)), .und, .und, .und, .und, .und, .und, .und, .und, .und, .und]) (e := ⟨[.val (.tup [.str sPanel, .str n]), .val (b4D b), .val (.int g), .val (.str (dirT dr)), .und, .und, .und, .und, .und, .und, .und, .und, .und, .und], []⟩) ?_
    rw [b_laid]
    refine exs_rtn ?_
    simp [pbD]
  | K + 1, g, dr, .way r ps, b, res, w, h, hd, hr, hn => by
    have dp := depth_sp (P := P) K (.way r ps) w (by omega)
    rw [wfL] at w
    rw [laidF] at hr
    rw [depthF] at h hd
    rw [lyD, depthF] at dp
    rw [lyD]
    obtain ⟨K', rfl⟩ : ∃ K', K = K' + 1 := ⟨K - 1, by omega⟩
    have hne : ps.toL ≠ [] := fun z => by have := w.1.1; rw [shs_len, z] at this; simp at this
    have hlen : ps.toL.length ≤ 1000 := by have := w.1.2.1; rw [shs_len] at this; exact this
    have ds := dealt_sp (P := P) K' (roomOf g r ps b) ps.shs w.1
    have zl := dealtF_len (roomOf g r ps b) ps.shs
    by_cases c : minI (dealtF (roomOf g r ps b) ps.shs) < 1
    · rw [if_pos c] at hr; cases hr
    rw [if_neg c] at hr
    have zne : dealtF (roomOf g r ps b) ps.shs ≠ [] := fun z => by rw [z] at zl; have := w.1.1; simp at zl; omega
    have ro : roomOf g r ps b = sideI r b - ((ps.toL.length : Nat) - 1) * (((1 + depthFs ps : Nat) : Int) * g) := rfl
    generalize hzz : dealtF (roomOf g r ps b) ps.shs = zs at *
    have mn := minL_ok zne
    obtain ⟨W, hW⟩ : ∃ W, W = ((1 + depthFs ps : Nat) : Int) * g := ⟨_, rfl⟩
    rw [← hW] at hr ro
    have sm1 : small64 ((1 + depthFs ps : Nat) : Int) = true := small_lt (by omega) (by omega)
    have sm1' : small64 (1 + (depthFs ps : Int)) = true := small_lt (by omega) (by omega)
    have sm2 : small64 (((ps.toL.length : Nat) : Int) - 1) = true := small_lt (by omega) (by omega)
    have ll : (lysD ps).length = ps.toL.length := by rw [lysD_eq, List.length_map]
    obtain ⟨LD, hLD⟩ : ∃ LD, LD = D.tup [.str (wayS r), .tup (lysD ps)] := ⟨_, rfl⟩
    have cq := comp2L (cal := calF P (K' + 1)) (i := 12) (j := 13) (it := .seq (.var 10)) (elt := x1_laid) (by omega) ps.toL (fun p => .int p.1) (fun p => lyD p.2) (fun p => .int p.1) (e := ⟨[.val LD, .val (b4D b), .val (.int g), .val (.str (dirT dr)), .val (.int W), .val (.int (roomOf g r ps b)), .und, .und, .und, .val (.str (wayS r)), .val (.tup (lysD ps)), .und, .und, .und], []⟩) (e1 := ⟨[.val LD, .val (b4D b), .val (.int g), .val (.str (dirT dr)), .val (.int W), .val (.int (roomOf g r ps b)), .und, .und, .und, .val (.str (wayS r)), .val (.tup (lysD ps)), .und, .und, .und], []⟩) (by simp [lysD_eq]) (fun p hp => by rw [x1_laid]; simp) (by omega)
    have cq' : (ps.toL.map fun p => D.int p.1) = ps.shs.map D.int := by unfold Lys.shs; rw [List.map_map]; rfl
    rw [cq'] at cq
    obtain ⟨a', t11, t12, t13, lq⟩ := laid_loop (P := P) (K' + 1) g dr r b W (.val LD) (.val (.int (roomOf g r ps b))) (.val (.lst (zs.map .int))) (.val (.tup (lysD ps))) (by omega) ps zs 0 res [] .und .und .und (fun p hp b2 res2 h2 l2 => laid_sp (K' + 1) g dr p.2 b2 res2 (wfLs_mem ps w.2 p hp) (by have := depthFs_mem ps p hp; omega) (by have := depthFs_mem ps p hp; omega) h2 l2) hr (by simpa using hn)
    rw [List.nil_append] at lq
    have wn := wayS_ne r
    simp only [sPanel] at wn
    have wr : (wayS r == [114, 111, 119, 115]) = r := by cases r <;> decide
    have t0 : ex (calF P (K' + 1)) s0_laid ⟨[.val LD, .val (b4D b), .val (.int g), .val (.str (dirT dr)), .und, .und, .und, .und, .und, .und, .und, .und, .und, .und], []⟩ = .ok .nxt ⟨[.val LD, .val (b4D b), .val (.int g), .val (.str (dirT dr)), .und, .und, .und, .und, .und, .und, .und, .und, .und, .und], []⟩ := by
      rw [s0_laid, hLD]
      simp [wn]
    have t1 : ex (calF P (K' + 1)) s1_laid ⟨[.val LD, .val (b4D b), .val (.int g), .val (.str (dirT dr)), .und, .und, .und, .und, .und, .und, .und, .und, .und, .und], []⟩ = .ok .nxt ⟨[.val LD, .val (b4D b), .val (.int g), .val (.str (dirT dr)), .und, .und, .und, .und, .und, .val (.str (wayS r)), .val (.tup (lysD ps)), .und, .und, .und], []⟩ := by
      rw [s1_laid, hLD]
      simp
    have t2 : ex (calF P (K' + 1)) s2_laid ⟨[.val LD, .val (b4D b), .val (.int g), .val (.str (dirT dr)), .und, .und, .und, .und, .und, .val (.str (wayS r)), .val (.tup (lysD ps)), .und, .und, .und], []⟩ = .ok .nxt ⟨[.val LD, .val (b4D b), .val (.int g), .val (.str (dirT dr)), .val (.int W), .und, .und, .und, .und, .val (.str (wayS r)), .val (.tup (lysD ps)), .und, .und, .und], []⟩ := by
      rw [← hLD] at dp
      rw [s2_laid, hW]
      simp only [ex_setv, ev_bin, bnd_o, ev_call, evL_cons, ev_var, getS_e, obind_ok, evL_nil]
      simp [dp _, sm1']
    have t3 : ex (calF P (K' + 1)) s3_laid ⟨[.val LD, .val (b4D b), .val (.int g), .val (.str (dirT dr)), .val (.int W), .und, .und, .und, .und, .val (.str (wayS r)), .val (.tup (lysD ps)), .und, .und, .und], []⟩ = .ok .nxt ⟨[.val LD, .val (b4D b), .val (.int g), .val (.str (dirT dr)), .val (.int W), .val (.int (roomOf g r ps b)), .und, .und, .und, .val (.str (wayS r)), .val (.tup (lysD ps)), .und, .und, .und], []⟩ := by
      have sa := side_at r b
      rw [s3_laid, ro]
      simp [wr, b4D, sa, ll, sm2]
    have t4 : ex (calF P (K' + 1)) s4_laid ⟨[.val LD, .val (b4D b), .val (.int g), .val (.str (dirT dr)), .val (.int W), .val (.int (roomOf g r ps b)), .und, .und, .und, .val (.str (wayS r)), .val (.tup (lysD ps)), .und, .und, .und], []⟩ = .ok .nxt ⟨[.val LD, .val (b4D b), .val (.int g), .val (.str (dirT dr)), .val (.int W), .val (.int (roomOf g r ps b)), .val (.lst (zs.map .int)), .und, .und, .val (.str (wayS r)), .val (.tup (lysD ps)), .und, .und, .und], []⟩ := by
      rw [s4_laid, q1_laid]
      simp [cq, ds _]
    have t5 : ex (calF P (K' + 1)) s5_laid ⟨[.val LD, .val (b4D b), .val (.int g), .val (.str (dirT dr)), .val (.int W), .val (.int (roomOf g r ps b)), .val (.lst (zs.map .int)), .und, .und, .val (.str (wayS r)), .val (.tup (lysD ps)), .und, .und, .und], []⟩ = .ok .nxt ⟨[.val LD, .val (b4D b), .val (.int g), .val (.str (dirT dr)), .val (.int W), .val (.int (roomOf g r ps b)), .val (.lst (zs.map .int)), .und, .und, .val (.str (wayS r)), .val (.tup (lysD ps)), .und, .und, .und], []⟩ := by
      rw [s5_laid]
      simp [mn, c]
    refine Pu.run K_laid.e_laid (sl := [.val LD, .val (b4D b), .val (.int g), .val (.str (dirT dr)), .und, .und, .und, .und, .und, .und, .und, .und, .und, .und]) (e := ⟨[.val LD, .val (b4D b), .val (.int g), .val (.str (dirT dr)), .val (.int W), .val (.int (roomOf g r ps b)), .val (.lst (zs.map .int)), .cel 0, .val (.int a'), .val (.str (wayS r)), .val (.tup (lysD ps)), t11, t12, t13], [.gone]⟩) ?_ rfl (by rw [hLD]; rfl) rfl
    rw [b_laid_eq]
    refine exs_nx t0 (exs_nx t1 (exs_nx t2 (exs_nx t3 (exs_nx t4 (exs_nx t5 ?_)))))
    refine exs_nx (e' := ⟨[.val LD, .val (b4D b), .val (.int g), .val (.str (dirT dr)), .val (.int W), .val (.int (roomOf g r ps b)), .val (.lst (zs.map .int)), .cel 0, .und, .val (.str (wayS r)), .val (.tup (lysD ps)), .und, .und, .und], [.lst []]⟩) (by rw [s6_laid]; simp) ?_
    refine exs_nx (e' := ⟨[.val LD, .val (b4D b), .val (.int g), .val (.str (dirT dr)), .val (.int W), .val (.int (roomOf g r ps b)), .val (.lst (zs.map .int)), .cel 0, .val (.int 0), .val (.str (wayS r)), .val (.tup (lysD ps)), .und, .und, .und], [.lst []]⟩) (by rw [s7_laid]; simp) ?_
    refine exs_nx (e' := ⟨[.val LD, .val (b4D b), .val (.int g), .val (.str (dirT dr)), .val (.int W), .val (.int (roomOf g r ps b)), .val (.lst (zs.map .int)), .cel 0, .val (.int a'), .val (.str (wayS r)), .val (.tup (lysD ps)), t11, t12, t13], [.lst (res.map pbD)]⟩) ?_ (exs_rtn (by rw [s9_laid]; simp [dOf]))
    rw [s8_laid, l1_laid]
    refine ex_fors_at (xs := zipL (lysD ps) (zs.map .int)) (e1 := ⟨[.val LD, .val (b4D b), .val (.int g), .val (.str (dirT dr)), .val (.int W), .val (.int (roomOf g r ps b)), .val (.lst (zs.map .int)), .cel 0, .val (.int 0), .val (.str (wayS r)), .val (.tup (lysD ps)), .und, .und, .und], [.lst []]⟩) ?_ lq
    simp [zip_e]
end
end DL
namespace DL
def x1_l_names3 : CE := (.idx (.var 2) (.call 43 [(.var 0), (.lit (.int 26))]))
def q1_l_names3 : CE := (.comp 0 [8] (.v 8) (.rng1 (.bin 0 .add (.lit (.int 1)) (.call 43 [(.var 0), (.lit (.int 8))]))) none x1_l_names3)
def x2_l_names3 : CE := (.bin 0 .add (.bin 0 .add (.slc 0 (.var 3) none (some (.var 4))) (.idx (.var 2) (.bin 0 .mod (.bin 0 .add (.var 6) (.bin 0 .mul (.var 7) (.var 8))) (.lit (.int 26))))) (.slc 0 (.var 3) (some (.bin 0 .add (.var 4) (.lit (.int 1)))) none))
def q2_l_names3 : CE := (.comp 0 [8] (.v 8) (.rng1 (.lit (.int 26))) none x2_l_names3)
def t1_l_names3 : CE := (.cmp .nin (.var 9) (.tup [(.lit (.str [114, 111, 119, 115])), (.lit (.str [99, 111, 108, 117, 109, 110, 115])), (.lit (.str [98, 108, 97, 110, 107]))]))
def x3_l_names3 : CE := (.var 9)
def q3_l_names3 : CE := (.comp 0 [9] (.v 9) (.seq (.var 5)) (some t1_l_names3) x3_l_names3)
def b_l_names3 : List CS :=
  [.setv 2 (.lit (.str [97, 98, 99, 100, 101, 102, 103, 104, 105, 106, 107, 108, 109, 110, 111, 112, 113, 114, 115, 116, 117, 118, 119, 120, 121, 122])),
  .setv 3 (.mt .join 0 (.lit (.str [])) [q1_l_names3]),
  .setv 4 (.call 43 [(.var 0), (.bi .len 0 [(.var 3)])]),
  .setT [(.v 6), (.v 7)] (.tup [(.call 43 [(.var 0), (.lit (.int 26))]), (.idx (.lst 0 [(.lit (.int 1)), (.lit (.int 3)), (.lit (.int 5)), (.lit (.int 7)), (.lit (.int 11))]) (.call 43 [(.var 0), (.lit (.int 5))]))]),
  .setv 5 q2_l_names3,
  .rtn (.slc 1 q3_l_names3 none (some (.var 1)))]
def s0_l_names3 : CS := .setv 2 (.lit (.str [97, 98, 99, 100, 101, 102, 103, 104, 105, 106, 107, 108, 109, 110, 111, 112, 113, 114, 115, 116, 117, 118, 119, 120, 121, 122]))
def s1_l_names3 : CS := .setv 3 (.mt .join 0 (.lit (.str [])) [q1_l_names3])
def s2_l_names3 : CS := .setv 4 (.call 43 [(.var 0), (.bi .len 0 [(.var 3)])])
def s3_l_names3 : CS := .setT [(.v 6), (.v 7)] (.tup [(.call 43 [(.var 0), (.lit (.int 26))]), (.idx (.lst 0 [(.lit (.int 1)), (.lit (.int 3)), (.lit (.int 5)), (.lit (.int 7)), (.lit (.int 11))]) (.call 43 [(.var 0), (.lit (.int 5))]))])
def s4_l_names3 : CS := .setv 5 q2_l_names3
def s5_l_names3 : CS := .rtn (.slc 1 q3_l_names3 none (some (.var 1)))
theorem b_l_names3_eq : b_l_names3 = [s0_l_names3, s1_l_names3, s2_l_names3, s3_l_names3, s4_l_names3, s5_l_names3] := rfl
/- 129 _law_names: 0=_law_pen_here 1=_law_many 2=_law_letters 3=_law_word 4=_law_at 5=_law_found 6=_law_first 7=_law_by 8=_law_k 9=_law_name -/
abbrev c_l_names3 : CDef := ⟨10, 2, b_l_names3⟩
class K_l_names3 (P : Nat → CDef) : Prop extends K_l_draw2 P where
  e_l_names3 : P 129 = c_l_names3
def b1_l_layout2 : List CS :=
  [.setv 9 (.call 43 [(.var 0), (.bin 0 .add (.var 6) (.lit (.int 1)))]),
  .setv 6 (.bin 0 .sub (.var 6) (.var 9)),
  .setv 10 (.idx (.lst 0 [(.lit (.str [114, 111, 119, 115])), (.lit (.str [99, 111, 108, 117, 109, 110, 115]))]) (.bi .int1 0 [(.cmp .eq (.var 2) (.lit (.str [114, 111, 119, 115])))])),
  .expr (.mt .append 0 (.var 7) [(.tup [(.call 116 [(.var 0)]), (.call 130 [(.var 0), (.var 1), (.var 10), (.bin 0 .sub (.var 3) (.lit (.int 1))), (.bin 0 .add (.lit (.int 1)) (.var 9))])])])]
def l1_l_layout2 : CS := .fors (.v 8) (.rng1 (.var 5)) b1_l_layout2
def b_l_layout2 : List CS :=
  [.ite (.or2 (.cmp .eq (.var 3) (.lit (.int 0))) (.cmp .lt (.var 4) (.lit (.int 2))))
   [.rtn (.tup [(.lit (.str [112, 97, 110, 101, 108])), (.mt .popL 0 (.var 1) [])])]
   [],
  .setv 5 (.bin 0 .add (.lit (.int 2)) (.call 43 [(.var 0), (.bi .min2 0 [(.lit (.int 5)), (.bin 0 .sub (.var 4) (.lit (.int 1)))])])),
  .setv 6 (.bin 0 .sub (.var 4) (.var 5)),
  .setv 7 (.lst 1 []),
  l1_l_layout2,
  .rtn (.tup [(.var 2), (.bi .tupleOf 0 [(.var 7)])])]
def s0_l_layout2 : CS := .ite (.or2 (.cmp .eq (.var 3) (.lit (.int 0))) (.cmp .lt (.var 4) (.lit (.int 2))))
   [.rtn (.tup [(.lit (.str [112, 97, 110, 101, 108])), (.mt .popL 0 (.var 1) [])])]
   []
def s1_l_layout2 : CS := .setv 5 (.bin 0 .add (.lit (.int 2)) (.call 43 [(.var 0), (.bi .min2 0 [(.lit (.int 5)), (.bin 0 .sub (.var 4) (.lit (.int 1)))])]))
def s2_l_layout2 : CS := .setv 6 (.bin 0 .sub (.var 4) (.var 5))
def s3_l_layout2 : CS := .setv 7 (.lst 1 [])
def s4_l_layout2 : CS := l1_l_layout2
def s5_l_layout2 : CS := .rtn (.tup [(.var 2), (.bi .tupleOf 0 [(.var 7)])])
theorem b_l_layout2_eq : b_l_layout2 = [s0_l_layout2, s1_l_layout2, s2_l_layout2, s3_l_layout2, s4_l_layout2, s5_l_layout2] := rfl
/- 130 _law_layout: 0=_law_pen_here 1=_law_names_here 2=_law_way 3=_law_deep 4=_law_most 5=_law_many 6=_law_spare 7=_law_parts 8=_law_k 9=_law_more 10=_law_other -/
abbrev c_l_layout2 : CDef := ⟨11, 5, b_l_layout2⟩
class K_l_layout2 (P : Nat → CDef) : Prop extends K_l_draw2 P, K_l_share2 P where
  e_l_layout2 : P 130 = c_l_layout2
def b_l_any_layout : List CS :=
  [.setv 3 (.idx (.lst 0 [(.lit (.str [114, 111, 119, 115])), (.lit (.str [99, 111, 108, 117, 109, 110, 115]))]) (.call 43 [(.var 0), (.lit (.int 2))])),
  .setv 4 (.call 129 [(.var 0), (.lit (.int 24))]),
  .rtn (.call 130 [(.var 0), (.var 4), (.var 3), (.bin 0 .add (.lit (.int 1)) (.call 43 [(.var 0), (.var 1)])), (.bin 0 .add (.lit (.int 2)) (.call 43 [(.var 0), (.bin 0 .sub (.var 2) (.lit (.int 1)))]))])]
/- 131 _law_any_layout: 0=_law_pen_here 1=_law_deep 2=_law_most 3=_law_way 4=_law_names_here -/
abbrev c_l_any_layout : CDef := ⟨5, 3, b_l_any_layout⟩
class K_l_any_layout (P : Nat → CDef) : Prop extends K_l_draw2 P, K_l_layout2 P, K_l_names3 P where
  e_l_any_layout : P 131 = c_l_any_layout
def x1_l_parted : CE := (.bin 0 .fdiv (.bin 0 .mul (.var 3) (.var 9)) (.var 4))
def q1_l_parted : CE := (.comp 1 [9] (.v 9) (.seq (.var 1)) none x1_l_parted)
def x2_l_parted : CE := (.tup [(.bin 0 .sub (.lit (.int 0)) (.bin 0 .mod (.bin 0 .mul (.var 3) (.var 9)) (.var 4))), (.var 8)])
def q2_l_parted : CE := (.comp 0 [8, 9] (.t [(.v 8), (.v 9)]) (.enm (.var 1)) none x2_l_parted)
def b1_l_parted : List CS :=
  [.sub (.var 5) (.var 8) (.bin 0 .add (.idx (.var 5) (.var 8)) (.lit (.int 1)))]
def l1_l_parted : CS := .fors (.t [(.v 7), (.v 8)]) (.seq (.slc 0 (.var 6) none (some (.bin 0 .sub (.var 3) (.bi .sum 0 [(.var 5)]))))) b1_l_parted
def b_l_parted : List CS :=
  [.setv 3 (.bin 0 .sub (.var 0) (.bin 0 .mul (.bin 0 .sub (.bi .len 0 [(.var 1)]) (.lit (.int 1))) (.var 2))),
  .setv 4 (.bi .sum 0 [(.var 1)]),
  .setv 5 q1_l_parted,
  .setv 6 (.bi .sorted 0 [q2_l_parted]),
  l1_l_parted,
  .rtn (.frz (.var 5))]
def s0_l_parted : CS := .setv 3 (.bin 0 .sub (.var 0) (.bin 0 .mul (.bin 0 .sub (.bi .len 0 [(.var 1)]) (.lit (.int 1))) (.var 2)))
def s1_l_parted : CS := .setv 4 (.bi .sum 0 [(.var 1)])
def s2_l_parted : CS := .setv 5 q1_l_parted
def s3_l_parted : CS := .setv 6 (.bi .sorted 0 [q2_l_parted])
def s4_l_parted : CS := l1_l_parted
def s5_l_parted : CS := .rtn (.frz (.var 5))
theorem b_l_parted_eq : b_l_parted = [s0_l_parted, s1_l_parted, s2_l_parted, s3_l_parted, s4_l_parted, s5_l_parted] := rfl
/- 132 _law_parted: 0=_law_size 1=_law_shares 2=_law_wide 3=_law_left 4=_law_whole 5=_law_found 6=_law_rests 7=_law_rest 8=_law_k 9=_law_share_here -/
abbrev c_l_parted : CDef := ⟨10, 3, b_l_parted⟩
class K_l_parted (P : Nat → CDef) : Prop where
  e_l_parted : P 132 = c_l_parted
def x1_l_laid2 : CE := (.var 16)
def q1_l_laid2 : CE := (.comp 0 [16, 17] (.t [(.v 16), (.v 17)]) (.seq (.idx (.var 0) (.lit (.int 1)))) none x1_l_laid2)
def b1_l_laid2 : List CS :=
  [.setv 14 (.tup [(.bin 0 .add (.var 9) (.var 8)), (.var 10), (.var 13), (.var 12)]),
  .ite (.var 5)
   [.setv 14 (.tup [(.var 9), (.bin 0 .add (.var 10) (.var 8)), (.var 11), (.var 13)])]
   [.ite (.cmp .eq (.var 3) (.lit (.str [108, 101, 102, 116])))
     [.setv 14 (.tup [(.bin 0 .sub (.bin 0 .sub (.bin 0 .add (.var 9) (.var 11)) (.var 8)) (.var 13)), (.var 10), (.var 13), (.var 12)])]
     []],
  .setv 15 (.call 133 [(.var 17), (.var 14), (.var 2), (.var 3)]),
  .ite (.cmp .isN (.var 15) (.lit .non))
   [.rtn (.lit .non)]
   [],
  .setv 7 (.bin 0 .add (.var 7) (.var 15)),
  .setv 8 (.bin 0 .add (.bin 0 .add (.var 8) (.var 13)) (.var 4))]
def l1_l_laid2 : CS := .fors (.t [(.v 13), (.t [(.v 16), (.v 17)])]) (.zip (.var 6) (.idx (.var 0) (.lit (.int 1)))) b1_l_laid2
def b_l_laid2 : List CS :=
  [.ite (.cmp .eq (.idx (.var 0) (.lit (.int 0))) (.lit (.str [112, 97, 110, 101, 108])))
   [.rtn (.lst 0 [(.tup [(.idx (.var 0) (.lit (.int 1))), (.var 1)])])]
   [],
  .setv 4 (.bin 0 .mul (.call 102 [(.var 0)]) (.var 2)),
  .setT [(.v 9), (.v 10), (.v 11), (.v 12)] (.var 1),
  .setv 5 (.cmp .eq (.idx (.var 0) (.lit (.int 0))) (.lit (.str [114, 111, 119, 115]))),
  .setv 6 (.call 132 [(.idx (.lst 0 [(.var 11), (.var 12)]) (.bi .int1 0 [(.var 5)])), q1_l_laid2, (.var 4)]),
  .ite (.cmp .lt (.bi .minL 0 [(.var 6)]) (.lit (.int 1)))
   [.rtn (.lit .non)]
   [],
  .setv 7 (.lst 0 []),
  .setv 8 (.lit (.int 0)),
  l1_l_laid2,
  .rtn (.var 7)]
def s0_b1_l_laid2 : CS := .setv 14 (.tup [(.bin 0 .add (.var 9) (.var 8)), (.var 10), (.var 13), (.var 12)])
def s1_b1_l_laid2 : CS := .ite (.var 5)
   [.setv 14 (.tup [(.var 9), (.bin 0 .add (.var 10) (.var 8)), (.var 11), (.var 13)])]
   [.ite (.cmp .eq (.var 3) (.lit (.str [108, 101, 102, 116])))
     [.setv 14 (.tup [(.bin 0 .sub (.bin 0 .sub (.bin 0 .add (.var 9) (.var 11)) (.var 8)) (.var 13)), (.var 10), (.var 13), (.var 12)])]
     []]
def s2_b1_l_laid2 : CS := .setv 15 (.call 133 [(.var 17), (.var 14), (.var 2), (.var 3)])
def s3_b1_l_laid2 : CS := .ite (.cmp .isN (.var 15) (.lit .non))
   [.rtn (.lit .non)]
   []
def s4_b1_l_laid2 : CS := .setv 7 (.bin 0 .add (.var 7) (.var 15))
def s5_b1_l_laid2 : CS := .setv 8 (.bin 0 .add (.bin 0 .add (.var 8) (.var 13)) (.var 4))
theorem b1_l_laid2_eq : b1_l_laid2 = [s0_b1_l_laid2, s1_b1_l_laid2, s2_b1_l_laid2, s3_b1_l_laid2, s4_b1_l_laid2, s5_b1_l_laid2] := rfl
def s0_l_laid2 : CS := .ite (.cmp .eq (.idx (.var 0) (.lit (.int 0))) (.lit (.str [112, 97, 110, 101, 108])))
   [.rtn (.lst 0 [(.tup [(.idx (.var 0) (.lit (.int 1))), (.var 1)])])]
   []
def s1_l_laid2 : CS := .setv 4 (.bin 0 .mul (.call 102 [(.var 0)]) (.var 2))
def s2_l_laid2 : CS := .setT [(.v 9), (.v 10), (.v 11), (.v 12)] (.var 1)
def s3_l_laid2 : CS := .setv 5 (.cmp .eq (.idx (.var 0) (.lit (.int 0))) (.lit (.str [114, 111, 119, 115])))
def s4_l_laid2 : CS := .setv 6 (.call 132 [(.idx (.lst 0 [(.var 11), (.var 12)]) (.bi .int1 0 [(.var 5)])), q1_l_laid2, (.var 4)])
def s5_l_laid2 : CS := .ite (.cmp .lt (.bi .minL 0 [(.var 6)]) (.lit (.int 1)))
   [.rtn (.lit .non)]
   []
def s6_l_laid2 : CS := .setv 7 (.lst 0 [])
def s7_l_laid2 : CS := .setv 8 (.lit (.int 0))
def s8_l_laid2 : CS := l1_l_laid2
def s9_l_laid2 : CS := .rtn (.var 7)
theorem b_l_laid2_eq : b_l_laid2 = [s0_l_laid2, s1_l_laid2, s2_l_laid2, s3_l_laid2, s4_l_laid2, s5_l_laid2, s6_l_laid2, s7_l_laid2, s8_l_laid2, s9_l_laid2] := rfl
/- 133 _law_laid: 0=_law_layout_here 1=_law_box 2=_law_gap 3=_law_direction 4=_law_wide 5=_law_rows 6=_law_sizes 7=_law_found 8=_law_at 9=_law_left 10=_law_top 11=_law_across 12=_law_down 13=_law_size 14=_law_inner 15=_law_more 16=_law_share_here 17=_law_part -/
abbrev c_l_laid2 : CDef := ⟨18, 4, b_l_laid2⟩
class K_l_laid2 (P : Nat → CDef) : Prop extends K_l_depth P, K_l_parted P where
  e_l_laid2 : P 133 = c_l_laid2
def b_l_page : List CS :=
  [.setv 4 (.call 131 [(.var 0), (.var 1), (.var 2)]),
  .setv 5 (.bin 0 .add (.var 3) (.idx (.lst 0 [(.call 43 [(.var 0), (.lit (.int 3))]), (.call 43 [(.var 0), (.lit (.int 30))]), (.lit (.int 0)), (.call 43 [(.var 0), (.bin 0 .sub (.lit (.int 1001)) (.var 3))])]) (.call 43 [(.var 0), (.lit (.int 4))]))),
  .setv 6 (.call 118 [(.var 0), (.var 4), (.var 5)]),
  .setv 7 (.idx (.lst 0 [(.lit (.str [114, 105, 103, 104, 116])), (.lit (.str [108, 101, 102, 116]))]) (.call 43 [(.var 0), (.lit (.int 2))])),
  .setv 8 (.call 133 [(.var 4), (.var 6), (.var 5), (.var 7)]),
  .ite (.cmp .isN (.var 8) (.lit .non))
   [.setv 4 (.tup [(.lit (.str [112, 97, 110, 101, 108])), (.lit (.str [97]))]),
    .setv 8 (.lst 0 [(.tup [(.lit (.str [97])), (.var 6)])])]
   [],
  .rtn (.tup [(.var 4), (.var 6), (.var 5), (.var 7), (.var 8)])]
def s0_l_page : CS := .setv 4 (.call 131 [(.var 0), (.var 1), (.var 2)])
def s1_l_page : CS := .setv 5 (.bin 0 .add (.var 3) (.idx (.lst 0 [(.call 43 [(.var 0), (.lit (.int 3))]), (.call 43 [(.var 0), (.lit (.int 30))]), (.lit (.int 0)), (.call 43 [(.var 0), (.bin 0 .sub (.lit (.int 1001)) (.var 3))])]) (.call 43 [(.var 0), (.lit (.int 4))])))
def s2_l_page : CS := .setv 6 (.call 118 [(.var 0), (.var 4), (.var 5)])
def s3_l_page : CS := .setv 7 (.idx (.lst 0 [(.lit (.str [114, 105, 103, 104, 116])), (.lit (.str [108, 101, 102, 116]))]) (.call 43 [(.var 0), (.lit (.int 2))]))
def s4_l_page : CS := .setv 8 (.call 133 [(.var 4), (.var 6), (.var 5), (.var 7)])
def s5_l_page : CS := .ite (.cmp .isN (.var 8) (.lit .non))
   [.setv 4 (.tup [(.lit (.str [112, 97, 110, 101, 108])), (.lit (.str [97]))]),
    .setv 8 (.lst 0 [(.tup [(.lit (.str [97])), (.var 6)])])]
   []
def s6_l_page : CS := .rtn (.tup [(.var 4), (.var 6), (.var 5), (.var 7), (.var 8)])
theorem b_l_page_eq : b_l_page = [s0_l_page, s1_l_page, s2_l_page, s3_l_page, s4_l_page, s5_l_page, s6_l_page] := rfl
/- 134 _law_page: 0=_law_pen_here 1=_law_deep 2=_law_most 3=_law_least 4=_law_layout_here 5=_law_gap 6=_law_box 7=_law_direction 8=_law_panels -/
abbrev c_l_page : CDef := ⟨9, 4, b_l_page⟩
class K_l_page (P : Nat → CDef) : Prop extends K_l_any_layout P, K_l_draw2 P, K_l_framed P, K_l_laid2 P where
  e_l_page : P 134 = c_l_page
end DL
/-! what is drawn: names, shares, boxes in which a layout has room -/
namespace DL
abbrev sLtr : List Nat := [97, 98, 99, 100, 101, 102, 103, 104, 105, 106, 107, 108, 109, 110, 111, 112, 113, 114, 115, 116, 117, 118, 119, 120, 121, 122]
abbrev sBlank : List Nat := [98, 108, 97, 110, 107]
theorem ltr_at {j : Int} (h1 : 0 ≤ j) (h2 : j < 26) : atP sLtr j = some (97 + j.toNat) := by
  obtain ⟨n, rfl⟩ : ∃ n : Nat, j = n := ⟨j.toNat, by omega⟩
  have : ∀ n < 26, sLtr[n]? = some (97 + n) := by decide
  rw [atP_nat, this n (by omega)]
  rfl
def lowC (w : List Nat) : Prop := ∀ c ∈ w, 97 ≤ c ∧ c ≤ 122
def lowT (w : List Nat) : Prop := w.length ≤ 8 ∧ lowC w
theorem low_okd {w : List Nat} (h : lowT w) : dep (.str w) = 0 := by
  have : w.all (fun c => decide (c < 1114112)) = true := by
    rw [List.all_eq_true]
    intro c hc
    have := h.2 c hc
    simp
    omega
  exact if_pos this
theorem strs1 : ∀ (ys : List D), (∀ y ∈ ys, ∃ c, y = .str [c] ∧ 97 ≤ c ∧ c ≤ 122) → ∃ l, strsOf ys = some l ∧ (joinS [] l).length = ys.length ∧ lowC (joinS [] l)
  | [], _ => ⟨[], rfl, rfl, fun _ h => by cases h⟩
  | y :: r, h => by
    obtain ⟨c, rfl, h1, h2⟩ := h y List.mem_cons_self
    obtain ⟨l, k1, k2, k3⟩ := strs1 r fun z hz => h z (List.mem_cons_of_mem _ hz)
    have e : joinS [] ([c] :: l) = c :: joinS [] l := by
      cases l with
      | nil => rfl
      | cons a q => rfl
    refine ⟨[c] :: l, ?_, ?_, ?_⟩
    · show (match strsOf r with | some l => some ([c] :: l) | none => none) = _
      rw [k1]
    · rw [e]; simp [k2]
    · rw [e]
      intro x hx
      rcases List.mem_cons.mp hx with q | q
      · subst q; exact ⟨h1, h2⟩
      · exact k3 x q
def foundF (w : List Nat) (a f b : Nat) : List (List Nat) := (List.range 26).map fun k => w.take a ++ [97 + (f + b * k) % 26] ++ w.drop (a + 1)
def nOk (w : List Nat) : Bool := !(w == sRows || w == sCols || w == sBlank)
def namesF (w : List Nat) (a f b m : Nat) : List (List Nat) := ((foundF w a f b).filter nOk).take m
/-- what a word of the draws is -/
structure WdOk (w : List Nat) (a f b : Nat) : Prop where
  l1 : 1 ≤ w.length
  l8 : w.length ≤ 8
  low : lowC w
  ha : a < w.length
  hf : f < 26
  hb : b = 1 ∨ b = 3 ∨ b = 5 ∨ b = 7 ∨ b = 11
theorem one_of : ∀ b ∈ [1, 3, 5, 7, 11], ∀ f < 26, ∀ x < 26, (((List.range 26).filter fun k => (f + b * k) % 26 == x)).length ≤ 1 := by decide +kernel
theorem found_len {w : List Nat} {a f b : Nat} (h : WdOk w a f b) : ∀ x ∈ foundF w a f b, x.length = w.length ∧ lowT x := by
  intro x hx
  obtain ⟨k, _, rfl⟩ := List.mem_map.mp hx
  have ha := h.ha
  have l8 := h.l8
  refine ⟨by simp; omega, by simp; omega, fun c hc => ?_⟩
  simp only [List.append_assoc, List.mem_append, List.mem_singleton] at hc
  rcases hc with z | z | z
  · exact h.low c (List.mem_of_mem_take z)
  · subst z; omega
  · exact h.low c (List.mem_of_mem_drop z)
theorem filter_split {α : Type} (p : α → Bool) : ∀ l : List α, (l.filter p).length + (l.filter fun x => !p x).length = l.length
  | [] => rfl
  | a :: r => by
    have := filter_split p r
    cases h : p a <;> simp [List.filter_cons, h] <;> omega
theorem filter_le {α : Type} {p q : α → Bool} : ∀ {l : List α}, (∀ x ∈ l, p x = true → q x = true) → (l.filter p).length ≤ (l.filter q).length
  | [], _ => Nat.le_refl _
  | a :: r, h => by
    have ih := filter_le (p := p) (q := q) (l := r) fun x hx => h x (List.mem_cons_of_mem _ hx)
    have h0 := h a List.mem_cons_self
    cases hp : p a
    · cases hq : q a <;> simp [List.filter_cons, hp, hq] <;> omega
    · rw [hp] at h0
      simp [List.filter_cons, hp, h0 rfl]
      exact ih
theorem found_many {w : List Nat} {a f b : Nat} (h : WdOk w a f b) : 25 ≤ ((foundF w a f b).filter nOk).length := by
  have ha := h.ha
  have hl := h.l8
  -- the word that may stand in the way
  obtain ⟨X, hX⟩ : ∃ X : List Nat, ∀ x ∈ foundF w a f b, nOk x = false → x = X := by
    have fl := fun x hx => (found_len h x hx).1
    by_cases c4 : w.length = 4
    · refine ⟨sRows, fun x hx hn => ?_⟩
      have := fl x hx
      simp only [nOk, Bool.not_eq_false', Bool.or_eq_true, beq_iff_eq] at hn
      rcases hn with (z | z) | z
      · exact z
      · rw [z, c4] at this; simp at this
      · rw [z, c4] at this; simp at this
    · by_cases c7 : w.length = 7
      · refine ⟨sCols, fun x hx hn => ?_⟩
        have := fl x hx
        simp only [nOk, Bool.not_eq_false', Bool.or_eq_true, beq_iff_eq] at hn
        rcases hn with (z | z) | z
        · rw [z, c7] at this; simp at this
        · exact z
        · rw [z, c7] at this; simp at this
      · refine ⟨sBlank, fun x hx hn => ?_⟩
        have := fl x hx
        simp only [nOk, Bool.not_eq_false', Bool.or_eq_true, beq_iff_eq] at hn
        rcases hn with (z | z) | z
        · rw [z] at this; simp at this; omega
        · rw [z] at this; simp at this; omega
        · exact z
  obtain ⟨x0, hx0, hx1⟩ : ∃ x0 < 26, ∀ k < 26, nOk (w.take a ++ [97 + (f + b * k) % 26] ++ w.drop (a + 1)) = false → (f + b * k) % 26 = x0 := by
    refine ⟨(X.getD a 0 - 97) % 26, Nat.mod_lt _ (by omega), fun k hk hn => ?_⟩
    have e := hX _ (List.mem_map.mpr ⟨k, List.mem_range.mpr hk, rfl⟩) hn
    rw [← e]
    have g : (w.take a ++ [97 + (f + b * k) % 26] ++ w.drop (a + 1)).getD a 0 = 97 + (f + b * k) % 26 := by
      rw [List.getD_eq_getElem?_getD, List.append_assoc, List.getElem?_append_right (by simp; omega)]
      simp [show a - min a w.length = 0 by omega]
    rw [g]
    omega
  have n1 := one_of b (by rcases h.hb with z | z | z | z | z <;> simp [z]) f h.hf x0 hx0
  have sp := filter_split (fun k => nOk (w.take a ++ [97 + (f + b * k) % 26] ++ w.drop (a + 1))) (List.range 26)
  have le : ((List.range 26).filter fun k => !nOk (w.take a ++ [97 + (f + b * k) % 26] ++ w.drop (a + 1))).length ≤ ((List.range 26).filter fun k => (f + b * k) % 26 == x0).length := filter_le fun k hk hn => by
    rw [List.mem_range] at hk
    have := hx1 k hk (by simpa using hn)
    simpa using this
  have e : ((foundF w a f b).filter nOk).length = ((List.range 26).filter fun k => nOk (w.take a ++ [97 + (f + b * k) % 26] ++ w.drop (a + 1))).length := by
    unfold foundF
    rw [List.filter_map, List.length_map]
    rfl
  rw [e]
  rw [List.length_range] at sp
  omega
theorem names_len {w : List Nat} {a f b m : Nat} (h : WdOk w a f b) (hm : m ≤ 25) : (namesF w a f b m).length = m := by
  have := found_many h
  unfold namesF
  rw [List.length_take]
  omega
theorem names_low {w : List Nat} {a f b m : Nat} (h : WdOk w a f b) : ∀ x ∈ namesF w a f b m, lowT x := fun x hx => (found_len h x (List.mem_filter.mp (List.mem_of_mem_take hx)).1).2
theorem ixB_nat (n d a : Nat) : ixB n d (some (a : Int)) = min a n := by
  show (if (a : Int) < 0 then ((a : Int) + (n : Int)).toNat else min (a : Int).toNat n) = _
  rw [if_neg (by omega), Int.toNat_natCast]
section
variable {P : Nat → CDef}
theorem share2_sp [K_l_share2 P] (k : Nat) : Pd (calF P (k+2) 116) [] 3 (fun r => ∃ i, r = .int i ∧ 1 ≤ i ∧ i ≤ 100) := ⟨rfl, fun n c p hn => by
  obtain ⟨i1, c1, d1, p1, l1, u1⟩ := drw (P := P) k n 4 (by omega) (by omega) p (by omega)
  obtain ⟨i2, c2, d2, p2, l2, u2⟩ := drw (P := P) k _ 100 (by omega) (by omega) p1 (by omega)
  obtain ⟨i3, c3, d3, p3, l3, u3⟩ := drw (P := P) k _ 3 (by omega) (by omega) p2 (by omega)
  obtain ⟨v, hv, hv1, hv2⟩ : ∃ v : Int, atP [D.int 1, .int (1 + i1), .int (1 + i2)] i3 = some (.int v) ∧ 1 ≤ v ∧ v ≤ 100 := by
    have : i3 = 0 ∨ i3 = 1 ∨ i3 = 2 := by omega
    rcases this with rfl | rfl | rfl
    · exact ⟨1, rfl, by omega, by omega⟩
    · exact ⟨1 + i1, rfl, by omega, by omega⟩
    · exact ⟨1 + i2, rfl, by omega, by omega⟩
  have hb : exs (calF P (k+1)) b_l_share2 ⟨[.cel 0], [c]⟩ = .ok (.rtn (.val (.int v))) ⟨[.cel 0], [c3]⟩ := by
    rw [b_l_share2]
    refine exs_rtn ?_
    simp [d1, d2, d3, hv]
  exact ⟨_, c3, calF_run (K_l_share2.e_l_share2 : P 116 = _) hb (exitC_1 p3.pure), p3, v, rfl, hv1, hv2⟩⟩
theorem names_run [K_l_draw2 P] (k n : Nat) (many : Int) {c : Ce} (p : Pn n c) (hn : n + 12 < 1073741824) : ∃ w a f b c', exs (calF P (k+1)) [s0_l_names3, s1_l_names3, s2_l_names3, s3_l_names3, s4_l_names3] ⟨[.cel 0, .val (.int many), .und, .und, .und, .und, .und, .und, .und, .und], [c]⟩ = .ok .nxt ⟨[.cel 0, .val (.int many), .val (.str sLtr), .val (.str w), .val (.int (a : Nat)), .val (.lst ((foundF w a f b).map .str)), .val (.int (f : Nat)), .val (.int (b : Nat)), .und, .und], [c']⟩ ∧ Pn (n+12) c' ∧ WdOk w a f b := by
  obtain ⟨i0, c0, d0, p0, l0, u0⟩ := drw (P := P) k n 8 (by omega) (by omega) p (by omega)
  have rg : rngOk (1 + i0) = true := by unfold rngOk; simp; omega
  obtain ⟨ys, cs', q1, ⟨_, c1, rfl, p1⟩, q3, q4⟩ := comp_st (cal := calF P (k+1)) (j := 8) (it := .rng1 (.bin 0 .add (.lit (.int 1)) (.call 43 [(.var 0), (.lit (.int 8))]))) (elt := x1_l_names3) (xs := rangeL 0 (1 + i0).toNat) (e := ⟨[.cel 0, .val (.int many), .val (.str sLtr), .und, .und, .und, .und, .und, .und, .und], [c]⟩) (sl0 := [.cel 0, .val (.int many), .val (.str sLtr), .und, .und, .und, .und, .und, .und, .und]) (cs := [c0])
    (fun m cs => m ≤ 8 ∧ ∃ c, cs = [c] ∧ Pn (n + 9 - m) c) (fun _ => True) (fun y => ∃ c, y = .str [c] ∧ 97 ≤ c ∧ c ≤ 122) .und rfl (by simp [d0, rg]) (fun _ _ => trivial) (by
      have : (rangeL 0 (1 + i0).toNat).length = (1 + i0).toNat := by simp [rangeL]
      rw [this]
      exact ⟨by omega, c0, rfl, p0.mono (by omega)⟩) (fun m d cs _ ⟨hm, c2, e2, p2⟩ => by
      subst e2
      obtain ⟨i, c3, d3, p3, l3, u3⟩ := drw (P := P) k _ 26 (by omega) (by omega) p2 (by omega)
      have := ltr_at l3 u3
      simp only [sLtr] at this
      refine ⟨.str [97 + i.toNat], [c3], ?_, ⟨by omega, c3, rfl, p3.mono (by omega)⟩, _, rfl, by omega, by omega⟩
      rw [x1_l_names3]
      simp [d3, this]) (by simp [rangeL]; omega)
  obtain ⟨l, j1, j2, j3⟩ := strs1 ys q4
  have yl : ys.length = (1 + i0).toNat := by rw [q3]; simp [rangeL]
  obtain ⟨w, hw⟩ : ∃ w, w = joinS [] l := ⟨_, rfl⟩
  rw [← hw] at j2 j3
  have wl : w.length = (1 + i0).toNat := by rw [j2, yl]
  have lw := len_s (f := 0) (s := w) (by omega)
  obtain ⟨ia, c4, d4, p4, l4, u4⟩ := drw (P := P) k _ (w.length : Int) (by omega) (by omega) p1 (by omega)
  obtain ⟨i5, c5, d5, p5, l5, u5⟩ := drw (P := P) k _ 26 (by omega) (by omega) p4 (by omega)
  obtain ⟨i6, c6, d6, p6, l6, u6⟩ := drw (P := P) k _ 5 (by omega) (by omega) p5 (by omega)
  obtain ⟨b, hb, hb2⟩ : ∃ b : Nat, atP [D.int 1, .int 3, .int 5, .int 7, .int 11] i6 = some (.int (b : Nat)) ∧ (b = 1 ∨ b = 3 ∨ b = 5 ∨ b = 7 ∨ b = 11) := by
    have : i6 = 0 ∨ i6 = 1 ∨ i6 = 2 ∨ i6 = 3 ∨ i6 = 4 := by omega
    rcases this with rfl | rfl | rfl | rfl | rfl
    · exact ⟨1, rfl, by omega⟩
    · exact ⟨3, rfl, by omega⟩
    · exact ⟨5, rfl, by omega⟩
    · exact ⟨7, rfl, by omega⟩
    · exact ⟨11, rfl, by omega⟩
  obtain ⟨a, rfl⟩ : ∃ a : Nat, ia = a := ⟨ia.toNat, by omega⟩
  obtain ⟨f, rfl⟩ : ∃ f : Nat, i5 = f := ⟨i5.toNat, by omega⟩
  have ok : WdOk w a f b := ⟨by omega, by omega, j3, by omega, by omega, hb2⟩
  have sb : small64 (b : Int) = true := small_lt (by omega) (by omega)
  have k1 : cutL w none (some (a : Int)) = w.take a := by
    unfold cutL
    rw [ixB_nat, show ixB w.length 0 none = 0 from rfl, List.drop_zero, Nat.sub_zero, Nat.min_eq_left (by omega)]
  have k2 : cutL w (some ((a : Int) + 1)) none = w.drop (a + 1) := by
    unfold cutL
    rw [show ((a : Int) + 1) = ((a + 1 : Nat) : Int) from rfl, ixB_nat, show ixB w.length w.length none = w.length from rfl, Nat.min_eq_left (by omega)]
    exact List.take_of_length_le (by simp)
  have cf := comp1 (cal := calF P (k+1)) (j := 8) (it := .rng1 (.lit (.int 26))) (elt := x2_l_names3) (xs := rangeL 0 26) (e := ⟨[.cel 0, .val (.int many), .val (.str sLtr), .val (.str w), .val (.int (a : Nat)), .und, .val (.int (f : Nat)), .val (.int (b : Nat)), .und, .und], [c6]⟩) (e1 := ⟨[.cel 0, .val (.int many), .val (.str sLtr), .val (.str w), .val (.int (a : Nat)), .und, .val (.int (f : Nat)), .val (.int (b : Nat)), .und, .und], [c6]⟩)
    (fun d => match d with | .int i => .str (w.take a ++ [97 + (f + b * i.toNat) % 26] ++ w.drop (a + 1)) | d => d) (by simp [show rngOk 26 = true by decide]) (fun d hd => by
      obtain ⟨i, hi, rfl⟩ := range_mem hd
      have at1 : atP sLtr (((f : Int) + (b : Int) * (i : Nat)) % 26) = some (97 + (f + b * i) % 26) := by
        have e5 : (f : Int) + (b : Int) * (i : Nat) = ((f + b * i : Nat) : Int) := by push_cast; rfl
        rw [e5, ltr_at (by omega) (by omega)]
        exact congrArg (fun z => some (97 + z)) (by omega)
      simp only [sLtr] at at1
      have g1 : w.length ≤ 16777216 := by omega
      have g2 : (w.take a).length + 1 ≤ 16777216 := by simp; omega
      have g3 : (w.take a).length + 1 + (w.drop (a + 1)).length ≤ 16777216 := by simp; omega
      have g4 : min a w.length + 1 ≤ 16777216 := by omega
      have g5 : min a w.length + 1 + (w.length - (a + 1)) ≤ 16777216 := by omega
      rw [x2_l_names3]
      simp [sliceM, k1, k2, g1, at1, sb, g2, g3, g4, g5]) (by simp [rangeL])
  have cfe : (rangeL 0 26).map (fun d => match d with | .int i => .str (w.take a ++ [97 + (f + b * i.toNat) % 26] ++ w.drop (a + 1)) | d => d) = (foundF w a f b).map D.str := by
    unfold foundF rangeL
    rw [List.map_map, List.map_map]
    refine List.map_congr_left fun i _ => ?_
    simp
  rw [cfe] at cf
  refine ⟨w, a, f, b, c6, ?_, p6.mono (by omega), ok⟩
  refine exs_nx (e' := ⟨[.cel 0, .val (.int many), .val (.str sLtr), .und, .und, .und, .und, .und, .und, .und], [c]⟩) (by rw [s0_l_names3]; simp) ?_
  refine exs_nx (e' := ⟨[.cel 0, .val (.int many), .val (.str sLtr), .val (.str w), .und, .und, .und, .und, .und, .und], [c1]⟩) ?_ ?_
  · have g0 : (joinS [] l).length ≤ 16777216 := by rw [← hw]; omega
    simp only [sLtr] at q1
    rw [s1_l_names3, q1_l_names3]
    simp [q1, j1, g0, hw]
  refine exs_nx (e' := ⟨[.cel 0, .val (.int many), .val (.str sLtr), .val (.str w), .val (.int (a : Nat)), .und, .und, .und, .und, .und], [c4]⟩) (by rw [s2_l_names3]; simp [lw, d4]) ?_
  refine exs_nx (e' := ⟨[.cel 0, .val (.int many), .val (.str sLtr), .val (.str w), .val (.int (a : Nat)), .und, .val (.int (f : Nat)), .val (.int (b : Nat)), .und, .und], [c6]⟩) (by rw [s3_l_names3]; simp [d5, d6, hb]) ?_
  refine exs_nx (e' := ⟨[.cel 0, .val (.int many), .val (.str sLtr), .val (.str w), .val (.int (a : Nat)), .val (.lst ((foundF w a f b).map .str)), .val (.int (f : Nat)), .val (.int (b : Nat)), .und, .und], [c6]⟩) ?_ rfl
  simp only [sLtr] at cf
  rw [s4_l_names3, q2_l_names3]
  simp [cf]
theorem names_cut (cal : Nat → Fn) (w : List Nat) (a f b m : Nat) (s0 s1 s2 s3 s4 s6 s7 s8 : Sl) (cs : List Ce) : ev cal (.slc 0 q3_l_names3 none (some (.var 1))) ⟨[s0, .val (.int (m : Nat)), s2, s3, s4, .val (.lst ((foundF w a f b).map .str)), s6, s7, s8, .und], cs⟩ = .ok (.val (.lst ((namesF w a f b m).map .str))) ⟨[s0, .val (.int (m : Nat)), s2, s3, s4, .val (.lst ((foundF w a f b).map .str)), s6, s7, s8, .und], cs⟩ := by
  have inE : ∀ z : List Nat, (!inDs (.str z) [.str sRows, .str sCols, .str sBlank]) = nOk z := fun z => by
    show (!(eqD (.str sRows) (.str z) || (eqD (.str sCols) (.str z) || (eqD (.str sBlank) (.str z) || false)))) = _
    have e : ∀ x y : List Nat, eqD (.str x) (.str y) = (y == x) := fun x y => by
      show (x == y) = _
      exact BEq.comm
    rw [e, e, e]
    unfold nOk
    simp [Bool.or_assoc]
  have cf := comp1F (cal := cal) (j := 9) (it := .seq (.var 5)) (c := t1_l_names3) (elt := x3_l_names3) (xs := (foundF w a f b).map D.str) (e := ⟨[s0, .val (.int (m : Nat)), s2, s3, s4, .val (.lst ((foundF w a f b).map .str)), s6, s7, s8, .und], cs⟩) (e1 := ⟨[s0, .val (.int (m : Nat)), s2, s3, s4, .val (.lst ((foundF w a f b).map .str)), s6, s7, s8, .und], cs⟩) (fun d => match d with | .str z => nOk z | _ => true) (fun d => d) (by simp) (fun d hd => by
    obtain ⟨z, _, rfl⟩ := List.mem_map.mp hd
    have q := cmp_ninT (x := .str z) (ys := [.str sRows, .str sCols, .str sBlank]) rfl
    rw [inE] at q
    simp only [sRows, sCols, sBlank] at q
    rw [t1_l_names3]
    simp [q]) (fun d hd _ => by
    rw [x3_l_names3]; simp) (by simp [foundF])
  have fe : (((foundF w a f b).map D.str).filter fun d => match d with | .str z => nOk z | _ => true).map (fun d => d) = ((foundF w a f b).filter nOk).map D.str := by
    rw [List.map_id', List.filter_map]
    rfl
  rw [fe] at cf
  have ct : cutL (((foundF w a f b).filter nOk).map D.str) none (some (m : Int)) = (namesF w a f b m).map D.str := by
    unfold cutL namesF
    rw [show ixB (((foundF w a f b).filter nOk).map D.str).length (((foundF w a f b).filter nOk).map D.str).length (some (m : Int)) = min m ((foundF w a f b).filter nOk).length by rw [ixB_nat]; simp, show ixB (((foundF w a f b).filter nOk).map D.str).length 0 none = 0 from rfl, List.drop_zero, Nat.sub_zero, List.map_take]
    rcases Nat.le_total m ((foundF w a f b).filter nOk).length with h | h
    · rw [Nat.min_eq_left h]
    · rw [Nat.min_eq_right h, List.take_of_length_le (by simp), List.take_of_length_le (by simpa using h)]
  rw [q3_l_names3]
  simp [cf, sliceM, ct]
end
end DL
/-! a box in which a layout has room -/
namespace DL
mutual
def roomF (g : Int) : Ly → Int × Int
  | .pan _ => (1, 1)
  | .way r ps => (fun q : Int × Int => if r then (q.2, q.1) else q) ((roomFs g r ps.shs.sum ps (1, 1)).1 + ((ps.toL.length : Nat) - 1) * (((1 + depthFs ps : Nat) : Int) * g), (roomFs g r ps.shs.sum ps (1, 1)).2)
def roomFs (g : Int) (r : Bool) (whole : Int) : Lys → Int × Int → Int × Int
  | .nil, q => q
  | .con s l rest, q => roomFs g r whole rest (max q.1 (((if r then (roomF g l).2 else (roomF g l).1) * whole + s - 1) / s + 1), max q.2 (if r then (roomF g l).1 else (roomF g l).2))
end
theorem roomFs_ge (g : Int) (r : Bool) (whole : Int) : ∀ (ps : Lys) (q : Int × Int), q.1 ≤ (roomFs g r whole ps q).1 ∧ q.2 ≤ (roomFs g r whole ps q).2
  | .nil, q => by rw [roomFs]; omega
  | .con s l rest, q => by
    rw [roomFs]
    have := roomFs_ge g r whole rest (max q.1 (((if r then (roomF g l).2 else (roomF g l).1) * whole + s - 1) / s + 1), max q.2 (if r then (roomF g l).1 else (roomF g l).2))
    simp only at this
    omega
section
variable {P : Nat → CDef}
theorem room_loop [K_l_room P] (K : Nat) (g W whole : Int) (r : Bool) (LD : D) (lys : List D) (hw : small64 whole = true) (hLD : LD = .tup [.str (wayS r), .tup lys]) :
    ∀ (ps : Lys) (q : Int × Int) (s6 s7 s8 s9 : Sl), (∀ p ∈ ps.toL, 1 ≤ p.1 ∧ p.1 ≤ 100) → (∀ p ∈ ps.toL, Pu (calF P K 117) [.val (lyD p.2), .val (.int g)] (.tup [.int (roomF g p.2).1, .int (roomF g p.2).2])) →
      ∃ s6' s7' s8' s9', forD (.t [(.v 6), (.v 7)]) (exs (calF P K) b1_l_room) (lysD ps) ⟨[.val LD, .val (.int g), .val (.int W), .val (.int whole), .val (.int q.1), .val (.int q.2), s6, s7, s8, s9], []⟩ = .ok .nxt ⟨[.val LD, .val (.int g), .val (.int W), .val (.int whole), .val (.int (roomFs g r whole ps q).1), .val (.int (roomFs g r whole ps q).2), s6', s7', s8', s9'], []⟩
  | .nil, q, s6, s7, s8, s9, _, _ => ⟨s6, s7, s8, s9, by rw [lysD, roomFs]; rfl⟩
  | .con s l rest, q, s6, s7, s8, s9, hs, ih => by
    have h1 := hs (s, l) (by rw [Lys.toL]; exact List.mem_cons_self)
    simp only at h1
    have c1 := ih (s, l) (by rw [Lys.toL]; exact List.mem_cons_self)
    have g1 : 0 < s := by omega
    have g2 : s < 1073741824 := by omega
    have wr : (wayS r == [114, 111, 119, 115]) = r := by cases r <;> decide
    obtain ⟨t6, t7, t8, t9, qq⟩ := room_loop K g W whole r LD lys hw hLD rest (max q.1 (((if r then (roomF g l).2 else (roomF g l).1) * whole + s - 1) / s + 1), max q.2 (if r then (roomF g l).1 else (roomF g l).2)) (.val (.int s)) (.val (lyD l)) (.val (.int (if r then (roomF g l).2 else (roomF g l).1))) (.val (.int (if r then (roomF g l).1 else (roomF g l).2))) (fun p hp => hs p (by rw [Lys.toL]; exact List.mem_cons_of_mem _ hp)) (fun p hp => ih p (by rw [Lys.toL]; exact List.mem_cons_of_mem _ hp))
    refine ⟨t6, t7, t8, t9, ?_⟩
    rw [lysD, roomFs]
    rw [forD_step (e' := ⟨[.val LD, .val (.int g), .val (.int W), .val (.int whole), .val (.int (max q.1 (((if r then (roomF g l).2 else (roomF g l).1) * whole + s - 1) / s + 1))), .val (.int (max q.2 (if r then (roomF g l).1 else (roomF g l).2))), .val (.int s), .val (lyD l), .val (.int (if r then (roomF g l).2 else (roomF g l).1)), .val (.int (if r then (roomF g l).1 else (roomF g l).2))], []⟩) (fl := .nxt) ?_]
    · exact qq
    · rw [b1_l_room, hLD]
      cases r
      · simp [c1 _, wr, hw, g1, g2]
      · simp [c1 _, wr, hw, g1, g2]
theorem room_sp [K_l_room P] : ∀ (K : Nat) (g : Int) (l : Ly), wfL l → depthF l + 2 ≤ K → depthF l ≤ 1000000 → Pu (calF P K 117) [.val (lyD l), .val (.int g)] (.tup [.int (roomF g l).1, .int (roomF g l).2])
  | 0, g, l, w, h, _ => by omega
  | K + 1, g, .pan n, w, h, _ => by
    rw [lyD, roomF]
    refine Pu.run K_l_room.e_l_room (sl := [.val (.tup [.str sPanel, .str n]), .val (.int g), .und, .und, .und, .und, .und, .und, .und, .und]) (e := ⟨[.val (.tup [.str sPanel, .str n]), .val (.int g), .und, .und, .und, .und, .und, .und, .und, .und], []⟩) ?_
    rw [b_l_room]
    refine exs_rtn ?_
    simp
  | K + 1, g, .way r ps, w, h, hd => by
    have dp := l_depth_sp (P := P) K (.way r ps) w (by omega)
    rw [wfL] at w
    rw [depthF] at h hd
    rw [lyD, depthF] at dp
    rw [lyD, roomF]
    have hs := w.1.sum
    have hne : ps.toL ≠ [] := fun z => by have := w.1.1; rw [shs_len, z] at this; simp at this
    have hlen : ps.toL.length ≤ 1000 := by have := w.1.2.1; rw [shs_len] at this; exact this
    obtain ⟨W, hW⟩ : ∃ W, W = ((1 + depthFs ps : Nat) : Int) * g := ⟨_, rfl⟩
    rw [← hW]
    have sm1' : small64 (1 + (depthFs ps : Int)) = true := small_lt (by omega) (by omega)
    have sm2 : small64 (((ps.toL.length : Nat) : Int) - 1) = true := small_lt (by omega) (by omega)
    have sm3 : small64 ps.shs.sum = true := small_lt (by omega) (by omega)
    have ll : (lysD ps).length = ps.toL.length := by rw [lysD_eq, List.length_map]
    have wn := wayS_ne r
    simp only [sPanel] at wn
    have wr : (wayS r == [114, 111, 119, 115]) = r := by cases r <;> decide
    obtain ⟨LD, hLD⟩ : ∃ LD, LD = D.tup [.str (wayS r), .tup (lysD ps)] := ⟨_, rfl⟩
    have cq := comp2L (cal := calF P K) (i := 6) (j := 7) (it := .seq (.idx (.var 0) (.lit (.int 1)))) (elt := x1_l_room) (by omega) ps.toL (fun p => .int p.1) (fun p => lyD p.2) (fun p => .int p.1) (e := ⟨[.val LD, .val (.int g), .val (.int W), .und, .und, .und, .und, .und, .und, .und], []⟩) (e1 := ⟨[.val LD, .val (.int g), .val (.int W), .und, .und, .und, .und, .und, .und, .und], []⟩) (by rw [hLD]; simp [lysD_eq]) (fun p hp => by rw [x1_l_room]; simp) (by omega)
    have cq' : (ps.toL.map fun p => D.int p.1) = ps.shs.map D.int := by unfold Lys.shs; rw [List.map_map]; rfl
    rw [cq'] at cq
    have sm : biD 0 .sum [.lst (ps.shs.map D.int)] = ret (.val (.int ps.shs.sum)) := by
      show (match intsOf (ps.shs.map D.int) with | some l => ret (.val (.int l.sum)) | none => stk : M Sl) = _
      rw [ints_map0]
    obtain ⟨t6, t7, t8, t9, lq⟩ := room_loop (P := P) K g W ps.shs.sum r LD (lysD ps) sm3 hLD ps (1, 1) .und .und .und .und (fun p hp => w.1.2.2 p.1 (List.mem_map.mpr ⟨p, hp, rfl⟩)) (fun p hp => room_sp K g p.2 (wfLs_mem ps w.2 p hp) (by have := depthFs_mem ps p hp; omega) (by have := depthFs_mem ps p hp; omega))
    have hxy : ∀ X Y : Int, atP [D.tup [.int X, .int Y], .tup [.int Y, .int X]] (if r then 1 else 0) = some (.tup [.int ((fun q : Int × Int => if r then (q.2, q.1) else q) (X, Y)).1, .int ((fun q : Int × Int => if r then (q.2, q.1) else q) (X, Y)).2]) := fun X Y => by cases r <;> rfl
    generalize roomFs g r ps.shs.sum ps (1, 1) = Q at *
    rw [← hLD] at dp
    refine Pu.run K_l_room.e_l_room (sl := [.val LD, .val (.int g), .und, .und, .und, .und, .und, .und, .und, .und]) (e := ⟨[.val LD, .val (.int g), .val (.int W), .val (.int ps.shs.sum), .val (.int (Q.1 + ((ps.toL.length : Nat) - 1) * W)), .val (.int Q.2), t6, t7, t8, t9], []⟩) ?_ rfl (by rw [hLD]; rfl) rfl
    rw [b_l_room_eq]
    refine exs_nx (e' := ⟨[.val LD, .val (.int g), .und, .und, .und, .und, .und, .und, .und, .und], []⟩) (by rw [s0_l_room, hLD]; simp [wn]) ?_
    refine exs_nx (e' := ⟨[.val LD, .val (.int g), .val (.int W), .und, .und, .und, .und, .und, .und, .und], []⟩) (by
      rw [s1_l_room, hW]
      simp only [ex_setv, ev_bin, bnd_o, ev_call, evL_cons, ev_var, getS_e, obind_ok, evL_nil]
      simp [dp _, sm1']) ?_
    refine exs_nx (e' := ⟨[.val LD, .val (.int g), .val (.int W), .val (.int ps.shs.sum), .und, .und, .und, .und, .und, .und], []⟩) (by
      rw [s2_l_room, q1_l_room]
      simp [cq, sm]) ?_
    refine exs_nx (e' := ⟨[.val LD, .val (.int g), .val (.int W), .val (.int ps.shs.sum), .val (.int 1), .val (.int 1), .und, .und, .und, .und], []⟩) (by
      rw [s3_l_room]
      simp) ?_
    refine exs_nx (e' := ⟨[.val LD, .val (.int g), .val (.int W), .val (.int ps.shs.sum), .val (.int Q.1), .val (.int Q.2), t6, t7, t8, t9], []⟩) (by
      rw [s4_l_room, l1_l_room]
      refine ex_fors_at (xs := lysD ps) (e1 := ⟨[.val LD, .val (.int g), .val (.int W), .val (.int ps.shs.sum), .val (.int 1), .val (.int 1), .und, .und, .und, .und], []⟩) ?_ lq
      rw [hLD]
      simp) ?_
    refine exs_nx (e' := ⟨[.val LD, .val (.int g), .val (.int W), .val (.int ps.shs.sum), .val (.int (Q.1 + ((ps.toL.length : Nat) - 1) * W)), .val (.int Q.2), t6, t7, t8, t9], []⟩) (by
      rw [s5_l_room, hLD]
      simp [ll, sm2]) ?_
    refine exs_rtn ?_
    have hx := hxy (Q.1 + ((ps.toL.length : Nat) - 1) * W) Q.2
    rw [s6_l_room, hLD]
    simp only [ex_rtn, ev_idx, ev_lst, evL_cons, evL_nil, ev_tup, ev_var, bnd_o, getS_e, obind_ok]
    simp [wr, hx]
theorem pow6 (f : Nat) : binD f .pow (.int 10) (.int 6) = ret (.val (.int 1000000)) := by
  rw [pow_i]; rfl
/-- a box for a layout of this room -/
structure FrOk (q : Int × Int) (b : Bx4) : Prop where
  wide : ∃ m : Int, 0 ≤ m ∧ m < 400 ∧ b.2.2.1 = min 1000000 (q.1 + m)
  high : ∃ m : Int, 0 ≤ m ∧ m < 400 ∧ b.2.2.2 = min 1000000 (q.2 + m)
  left : -1000000 ≤ b.1 ∧ b.1 ≤ 1000000 - b.2.2.1
  top : -1000000 ≤ b.2.1 ∧ b.2.1 ≤ 1000000 - b.2.2.2
theorem framed_sp [K_l_framed P] (k : Nat) (g : Int) (l : Ly) (w : wfL l) (hd : depthF l ≤ k) (hd2 : depthF l ≤ 1000000) : Pd (calF P (k+3) 118) [.val (lyD l), .val (.int g)] 7 (fun r => ∃ b, r = b4D b ∧ FrOk (roomF g l) b) := ⟨rfl, fun n c p hn => by
  have rm := room_sp (P := P) (k+2) g l w (by omega) hd2
  obtain ⟨i1, c1, d1, p1, l1, u1⟩ := drw (P := P) (k+1) n 9 (by omega) (by omega) p (by omega)
  obtain ⟨i2, c2, d2, p2, l2, u2⟩ := drw (P := P) (k+1) _ 400 (by omega) (by omega) p1 (by omega)
  obtain ⟨i3, c3, d3, p3, l3, u3⟩ := drw (P := P) (k+1) _ 3 (by omega) (by omega) p2 (by omega)
  obtain ⟨i4, c4, d4, p4, l4, u4⟩ := drw (P := P) (k+1) _ 3 (by omega) (by omega) p3 (by omega)
  obtain ⟨i5, c5, d5, p5, l5, u5⟩ := drw (P := P) (k+1) _ 3 (by omega) (by omega) p4 (by omega)
  have at3 : ∀ i : Int, 0 ≤ i → i < 3 → ∃ m : Int, atP [D.int 0, .int i1, .int i2] i = some (.int m) ∧ 0 ≤ m ∧ m < 400 := fun i h1 h2 => by
    have : i = 0 ∨ i = 1 ∨ i = 2 := by omega
    rcases this with rfl | rfl | rfl
    · exact ⟨0, rfl, by omega, by omega⟩
    · exact ⟨i1, rfl, by omega, by omega⟩
    · exact ⟨i2, rfl, by omega, by omega⟩
  obtain ⟨m3, a3, b3, b3'⟩ := at3 i3 l3 u3
  obtain ⟨m4, a4, b4, b4'⟩ := at3 i4 l4 u4
  obtain ⟨far, af, bf, bf'⟩ : ∃ m : Int, atP [D.int 0, .int 50, .int 1000000] i5 = some (.int m) ∧ 0 ≤ m ∧ m ≤ 1000000 := by
    have : i5 = 0 ∨ i5 = 1 ∨ i5 = 2 := by omega
    rcases this with rfl | rfl | rfl
    · exact ⟨0, rfl, by omega, by omega⟩
    · exact ⟨50, rfl, by omega, by omega⟩
    · exact ⟨1000000, rfl, by omega, by omega⟩
  obtain ⟨i6, c6, d6, p6, l6, u6⟩ := drw (P := P) (k+1) _ (2 * far + 1) (by omega) (by omega) p5 (by omega)
  obtain ⟨i7, c7, d7, p7, l7, u7⟩ := drw (P := P) (k+1) _ (2 * far + 1) (by omega) (by omega) p6 (by omega)
  have s2 : small64 (2 : Int) = true := by decide
  have q6 := pow6 0
  generalize roomF g l = R at *
  obtain ⟨x, hx⟩ : ∃ x, x = min 1000000 (R.1 + m3) := ⟨_, rfl⟩
  obtain ⟨y, hy⟩ : ∃ y, y = min 1000000 (R.2 + m4) := ⟨_, rfl⟩
  have hb : exs (calF P (k+2)) b_l_framed ⟨[.cel 0, .val (lyD l), .val (.int g), .und, .und, .und, .und, .und, .und], [c]⟩ = .ok (.rtn (.val (b4D (min (i6 - far) (1000000 - x), min (i7 - far) (1000000 - y), x, y)))) ⟨[.cel 0, .val (lyD l), .val (.int g), .val (.lst [.int 0, .int i1, .int i2]), .val (.int far), .val (.int x), .val (.int y), .val (.int (i6 - far)), .val (.int (i7 - far))], [c7]⟩ := by
    rw [b_l_framed_eq]
    refine exs_nx (e' := ⟨[.cel 0, .val (lyD l), .val (.int g), .und, .und, .val (.int R.1), .val (.int R.2), .und, .und], [c]⟩) (by rw [s0_l_framed]; simp [rm _]) ?_
    refine exs_nx (e' := ⟨[.cel 0, .val (lyD l), .val (.int g), .val (.lst [.int 0, .int i1, .int i2]), .und, .val (.int R.1), .val (.int R.2), .und, .und], [c2]⟩) (by rw [s1_l_framed]; simp [d1, d2]) ?_
    refine exs_nx (e' := ⟨[.cel 0, .val (lyD l), .val (.int g), .val (.lst [.int 0, .int i1, .int i2]), .und, .val (.int x), .val (.int y), .und, .und], [c4]⟩) (by rw [s2_l_framed, hx, hy]; simp [d3, d4, a3, a4, -pow_i, q6]) ?_
    refine exs_nx (e' := ⟨[.cel 0, .val (lyD l), .val (.int g), .val (.lst [.int 0, .int i1, .int i2]), .val (.int far), .val (.int x), .val (.int y), .und, .und], [c5]⟩) (by rw [s3_l_framed]; simp [d5, af, -pow_i, q6]) ?_
    refine exs_nx (e' := ⟨[.cel 0, .val (lyD l), .val (.int g), .val (.lst [.int 0, .int i1, .int i2]), .val (.int far), .val (.int x), .val (.int y), .val (.int (i6 - far)), .val (.int (i7 - far))], [c7]⟩) (by rw [s4_l_framed]; simp [d6, d7, s2]) ?_
    refine exs_rtn ?_
    rw [s5_l_framed]
    simp [-pow_i, q6, b4D]
  refine ⟨_, c7, calF_run (K_l_framed.e_l_framed : P 118 = _) hb (exitC_1 p7.pure), p7, _, rfl, ⟨m3, b3, b3', hx⟩, ⟨m4, b4, b4', hy⟩, ?_, ?_⟩
  · show -1000000 ≤ min (i6 - far) (1000000 - x) ∧ min (i6 - far) (1000000 - x) ≤ 1000000 - x
    omega
  · show -1000000 ≤ min (i7 - far) (1000000 - y) ∧ min (i7 - far) (1000000 - y) ≤ 1000000 - y
    omega⟩
end
end DL
/-! the law's own parting and laying -/
namespace DL
theorem enm_e {cal : Nat → Fn} (a : CE) : evI cal (.enm a) = bnd (ev cal a) fun s => bnd (dOf s) enmM := rfl
@[simp] theorem enmM_l (xs : List D) : enmM (.lst xs) = ret (enumL 0 xs) := id rfl
theorem enumL_range : ∀ (ss : List Int) (k : Nat), enumL k (ss.map D.int) = (List.range ss.length).map fun i => .tup [.int ((k + i : Nat) : Int), .int (ss.getD i 0)]
  | [], k => rfl
  | s :: ss, k => by
    have ih := enumL_range ss (k + 1)
    show .tup [.int (k : Nat), .int s] :: enumL (k + 1) (ss.map D.int) = _
    rw [ih, List.length_cons, List.range_succ_eq_map, List.map_cons, List.map_map]
    congr 1
    refine List.map_congr_left fun i _ => ?_
    show D.tup [.int ((k + 1 + i : Nat) : Int), .int (ss.getD i 0)] = .tup [.int ((k + (i + 1) : Nat) : Int), .int (ss.getD i 0)]
    rw [show k + 1 + i = k + (i + 1) by omega]
section
variable {P : Nat → CDef}
theorem parted_loop (cal : Nat → Fn) (s0 s1 s2 s3 s4 s6 s9 : Sl) : ∀ (ps : List KP) (l : List Int) (s7 s8 : Sl), (∀ p ∈ ps, p.2 < l.length) →
    ∃ s7' s8', forD (.t [(.v 7), (.v 8)]) (exs cal b1_l_parted) (ps.map kpD) ⟨[s0, s1, s2, s3, s4, .cel 0, s6, s7, s8, s9], [.lst (l.map .int)]⟩ = .ok .nxt ⟨[s0, s1, s2, s3, s4, .cel 0, s6, s7', s8', s9], [.lst (((ps.map Prod.snd).foldl inc1 l).map .int)]⟩
  | [], l, s7, s8, _ => ⟨s7, s8, rfl⟩
  | p :: ps, l, s7, s8, h => by
    have hk := h p List.mem_cons_self
    obtain ⟨t7, t8, q⟩ := parted_loop cal s0 s1 s2 s3 s4 s6 s9 ps (inc1 l p.2) (.val (.int p.1)) (.val (.int p.2)) fun x hx => by rw [inc1_len]; exact h x (List.mem_cons_of_mem _ hx)
    refine ⟨t7, t8, ?_⟩
    rw [List.map_cons, List.map_cons, List.foldl_cons]
    have e : (l.map D.int).set p.2 (.int (l[p.2] + 1)) = (inc1 l p.2).map D.int := map_inc1 l p.2 hk
    have z : ixP l.length (p.2 : Int) = some p.2 := by
      unfold ixP
      rw [if_pos (by omega), if_pos (by omega)]; rfl
    rw [forD_step (e' := ⟨[s0, s1, s2, s3, s4, .cel 0, s6, .val (.int p.1), .val (.int p.2), s9], [.lst ((inc1 l p.2).map .int)]⟩) (fl := .nxt) ?_]
    · exact q
    · rw [b1_l_parted, ← e]
      simp [kpD, hk, z]
theorem parted_sp [K_l_parted P] (k : Nat) (size wide : Int) (ss : List Int) (h : Shs ss) : Pu (calF P (k+1) 132) [.val (.int size), .val (.lst (ss.map D.int)), .val (.int wide)] (.lst ((dealtF (size - ((ss.length : Nat) - 1) * wide) ss).map D.int)) := by
  have hs := h.sum
  have hl := h.2.1
  obtain ⟨room, hr⟩ : ∃ room, room = size - (((ss.length : Nat) : Int) - 1) * wide := ⟨_, rfl⟩
  rw [← hr]
  have ex0 := extra_bd room h
  obtain ⟨W, hW⟩ : ∃ W, W = ss.sum := ⟨_, rfl⟩
  rw [← hW] at hs ex0
  have g1 : 0 < W := by omega
  have g2 : W < 1073741824 := by omega
  have smul : ∀ s ∈ ss, small64 s = true := fun s z => small_lt (by have := h.2.2 s z; omega) (by have := h.2.2 s z; omega)
  have sm2 : small64 (((ss.length : Nat) : Int) - 1) = true := small_lt (by omega) (by omega)
  have lr : (reI room W ss).length = ss.length := by simp [reI]
  have lf : (flI room W ss).length = ss.length := by simp [flI]
  have c1 := comp1 (cal := calF P k) (j := 9) (it := .seq (.var 1)) (elt := x1_l_parted) (xs := ss.map D.int) (e := ⟨[.val (.int size), .val (.lst (ss.map D.int)), .val (.int wide), .val (.int room), .val (.int W), .und, .und, .und, .und, .und], []⟩) (e1 := ⟨[.val (.int size), .val (.lst (ss.map D.int)), .val (.int wide), .val (.int room), .val (.int W), .und, .und, .und, .und, .und], []⟩) (fun d => match d with | .int s => .int (room * s / W) | d => d) (by simp) (fun d hd => by
    obtain ⟨s, z, rfl⟩ := List.mem_map.mp hd
    rw [x1_l_parted]
    simp [smul s z, g1, g2]) (by simp; omega)
  have e1 : (ss.map D.int).map (fun d => match d with | .int s => .int (room * s / W) | d => d) = (flI room W ss).map D.int := by
    unfold flI
    simp only [List.map_map]
    exact List.map_congr_left fun _ _ => rfl
  rw [e1] at c1
  have c1' := comp_f1 c1
  have c2 := comp2L (cal := calF P k) (i := 8) (j := 9) (it := .enm (.var 1)) (elt := x2_l_parted) (by omega) (List.range ss.length) (fun i => .int ((0 + i : Nat) : Int)) (fun i => .int (ss.getD i 0)) (fun i => kpD (0 - (reI room W ss).getD i 0, i)) (e := ⟨[.val (.int size), .val (.lst (ss.map D.int)), .val (.int wide), .val (.int room), .val (.int W), .cel 0, .und, .und, .und, .und], [.lst ((flI room W ss).map D.int)]⟩) (e1 := ⟨[.val (.int size), .val (.lst (ss.map D.int)), .val (.int wide), .val (.int room), .val (.int W), .cel 0, .und, .und, .und, .und], [.lst ((flI room W ss).map D.int)]⟩) (by
    rw [enm_e]
    simp [enumL_range]) (fun i hi => by
    rw [List.mem_range] at hi
    have re : (reI room W ss).getD i 0 = room * ss.getD i 0 % W := by
      unfold reI
      rw [List.getD_eq_getElem?_getD, List.getD_eq_getElem?_getD, List.getElem?_map, List.getElem?_eq_getElem hi]
      rfl
    have sz : small64 (ss.getD i 0) = true := by
      rw [List.getD_eq_getElem?_getD, List.getElem?_eq_getElem hi]
      exact smul _ (List.getElem_mem hi)
    rw [re]
    generalize ss.getD i 0 = s at *
    rw [x2_l_parted]
    simp [sz, g1, kpD]) (by simp; omega)
  have c2e : ((List.range ss.length).map fun i => kpD (0 - (reI room W ss).getD i 0, i)) = (kps (reI room W ss)).map kpD := by
    unfold kps
    rw [List.map_map, lr]
    rfl
  rw [c2e] at c2
  have so := srt_kp (kps (reI room W ss)) (by simp [kps, lr]; omega)
  have sd : biD 0 .sorted [.lst ((kps (reI room W ss)).map kpD)] = ret (.val (.lst (((kps (reI room W ss)).mergeSort leK).map kpD))) := by
    show req (srtOk ((kps (reI room W ss)).map kpD)) (newL 0 (((kps (reI room W ss)).map kpD).mergeSort leD)) = _
    rw [so, sort_kp]; rfl
  obtain ⟨t7, t8, q⟩ := parted_loop (calF P k) (.val (.int size)) (.val (.lst (ss.map D.int))) (.val (.int wide)) (.val (.int room)) (.val (.int W)) (.val (.lst (((kps (reI room W ss)).mergeSort leK).map kpD))) .und (((kps (reI room W ss)).mergeSort leK).take (room - (flI room W ss).sum).toNat) (flI room W ss) .und .und (fun p hp => by
    have : p.2 ∈ ordK (reI room W ss) := List.mem_map.mpr ⟨p, List.mem_of_mem_take hp, rfl⟩
    have := (ordK_perm (reI room W ss)).mem_iff.mp this
    rw [List.mem_range] at this
    omega)
  have qd : dealtF room ss = ((((kps (reI room W ss)).mergeSort leK).take (room - (flI room W ss).sum).toNat).map Prod.snd).foldl inc1 (flI room W ss) := by
    rw [hW, List.map_take]; rfl
  rw [← qd] at q
  have lo : ((kps (reI room W ss)).mergeSort leK).length = ss.length := by rw [List.length_mergeSort]; simp [kps, lr]
  have ct : cutL (((kps (reI room W ss)).mergeSort leK).map kpD) none (some (room - (flI room W ss).sum)) = (((kps (reI room W ss)).mergeSort leK).take (room - (flI room W ss).sum).toNat).map kpD := by
    have i1 : ixB ss.length ss.length (some (room - (flI room W ss).sum)) = (room - (flI room W ss).sum).toNat := by
      show (if room - (flI room W ss).sum < 0 then _ else _) = _
      rw [if_neg (by omega), Nat.min_eq_left (by omega)]
    unfold cutL
    rw [List.length_map, lo, i1, show ixB ss.length 0 none = 0 from rfl, List.drop_zero, Nat.sub_zero, List.map_take]
  refine Pu.run K_l_parted.e_l_parted (sl := [.val (.int size), .val (.lst (ss.map D.int)), .val (.int wide), .und, .und, .und, .und, .und, .und, .und]) (e := ⟨[.val (.int size), .val (.lst (ss.map D.int)), .val (.int wide), .val (.int room), .val (.int W), .cel 0, .val (.lst (((kps (reI room W ss)).mergeSort leK).map kpD)), t7, t8, .und], [.gone]⟩) ?_
  rw [b_l_parted_eq]
  refine exs_nx (e' := ⟨[.val (.int size), .val (.lst (ss.map D.int)), .val (.int wide), .val (.int room), .und, .und, .und, .und, .und, .und], []⟩) (by rw [s0_l_parted, hr]; simp [sm2]) ?_
  refine exs_nx (e' := ⟨[.val (.int size), .val (.lst (ss.map D.int)), .val (.int wide), .val (.int room), .val (.int W), .und, .und, .und, .und, .und], []⟩) (by rw [s1_l_parted, hW]; simp [sum_i]) ?_
  refine exs_nx (e' := ⟨[.val (.int size), .val (.lst (ss.map D.int)), .val (.int wide), .val (.int room), .val (.int W), .cel 0, .und, .und, .und, .und], [.lst ((flI room W ss).map D.int)]⟩) (by rw [s2_l_parted, q1_l_parted]; simp [c1']) ?_
  refine exs_nx (e' := ⟨[.val (.int size), .val (.lst (ss.map D.int)), .val (.int wide), .val (.int room), .val (.int W), .cel 0, .val (.lst (((kps (reI room W ss)).mergeSort leK).map kpD)), .und, .und, .und], [.lst ((flI room W ss).map D.int)]⟩) (by rw [s3_l_parted, q2_l_parted]; simp [c2, sd]) ?_
  refine exs_nx (e' := ⟨[.val (.int size), .val (.lst (ss.map D.int)), .val (.int wide), .val (.int room), .val (.int W), .cel 0, .val (.lst (((kps (reI room W ss)).mergeSort leK).map kpD)), t7, t8, .und], [.lst ((dealtF room ss).map D.int)]⟩) ?_ (exs_rtn (by rw [s5_l_parted]; simp [dOf]))
  rw [s4_l_parted, l1_l_parted]
  refine ex_fors_at (e1 := ⟨[.val (.int size), .val (.lst (ss.map D.int)), .val (.int wide), .val (.int room), .val (.int W), .cel 0, .val (.lst (((kps (reI room W ss)).mergeSort leK).map kpD)), .und, .und, .und], [.lst ((flI room W ss).map D.int)]⟩) ?_ q
  simp [sum_i, sliceM, ct]
/-! laying -/
def optP : Option (List PB) → D
  | some l => .lst (l.map pbD)
  | none => .non
mutual
def cntL : Ly → Nat
  | .pan _ => 1
  | .way _ ps => cntLs ps
def cntLs : Lys → Nat
  | .nil => 0
  | .con _ l r => cntL l + cntLs r
end
mutual
theorem laid_cnt (g : Int) (dr : Bool) : ∀ (l : Ly) (b : Bx4) (res : List PB), laidF g dr l b = some res → res.length ≤ cntL l
  | .pan n, b, res, h => by
    rw [laidF] at h
    cases h
    rw [cntL]
    exact Nat.le_refl _
  | .way r ps, b, res, h => by
    rw [laidF] at h
    split at h
    · cases h
    · rw [cntL]
      exact laids_cnt g dr r b _ ps _ 0 res h
theorem laids_cnt (g : Int) (dr r : Bool) (b : Bx4) (W : Int) : ∀ (ps : Lys) (zs : List Int) (a : Int) (res : List PB), laidFs g dr r b W ps zs a = some res → res.length ≤ cntLs ps
  | .nil, zs, a, res, h => by
    rw [laidFs] at h
    cases h
    exact Nat.zero_le _
  | .con s l q, [], a, res, h => by
    rw [laidFs] at h
    cases h
    exact Nat.zero_le _
  | .con s l q, z :: zs, a, res, h => by
    rw [laidFs] at h
    rw [cntLs]
    cases hx : laidF g dr l (partF r dr b a z) with
    | none => rw [hx] at h; cases h
    | some x =>
      rw [hx] at h
      cases hy : laidFs g dr r b W q zs (a + z + W) with
      | none => rw [hy] at h; cases h
      | some y =>
        rw [hy] at h
        have h : some (x ++ y) = some res := h
        injection h with h
        subst h
        have h1 := laid_cnt g dr l _ x hx
        have h2 := laids_cnt g dr r b W q zs _ y hy
        rw [List.length_append]
        omega
end
theorem isN_l (xs : List D) : isNonS (.val (.lst xs)) = false := rfl
theorem dirL (dr : Bool) : (dirT dr == [108, 101, 102, 116]) = !dr := by cases dr <;> decide
def lst18 (s0 : Sl) (b : Bx4) (g : Int) (dr : Bool) (W : Int) (r : Bool) (s6 : Sl) (f : List PB) (a : Int) (s13 s14 s15 s16 s17 : Sl) : En := ⟨[s0, .val (b4D b), .val (.int g), .val (.str (dirT dr)), .val (.int W), .val (.bl r), s6, .val (.lst (f.map pbD)), .val (.int a), .val (.int b.1), .val (.int b.2.1), .val (.int b.2.2.1), .val (.int b.2.2.2), s13, s14, s15, s16, s17], []⟩
theorem laid2_loop [K_l_laid2 P] (K : Nat) (g : Int) (dr r : Bool) (b : Bx4) (W : Int) (s0 s6 : Sl)
    : ∀ (ps : Lys) (zs : List Int) (a : Int) (f : List PB) (s13 s14 s15 s16 s17 : Sl), (∀ p ∈ ps.toL, ∀ b, Pu (calF P K 133) [.val (lyD p.2), .val (b4D b), .val (.int g), .val (.str (dirT dr))] (optP (laidF g dr p.2 b))) →
      f.length + cntLs ps ≤ 1000000 →
      match laidFs g dr r b W ps zs a with
        | some res => ∃ a' t13 t14 t15 t16 t17, forD (.t [(.v 13), (.t [(.v 16), (.v 17)])]) (exs (calF P K) b1_l_laid2) (zipL (zs.map .int) (lysD ps)) (lst18 s0 b g dr W r s6 f a s13 s14 s15 s16 s17) = .ok .nxt (lst18 s0 b g dr W r s6 (f ++ res) a' t13 t14 t15 t16 t17)
        | none => ∃ e', e'.cs = [] ∧ forD (.t [(.v 13), (.t [(.v 16), (.v 17)])]) (exs (calF P K) b1_l_laid2) (zipL (zs.map .int) (lysD ps)) (lst18 s0 b g dr W r s6 f a s13 s14 s15 s16 s17) = .ok (.rtn (.val .non)) e'
  | .nil, zs, a, f, s13, s14, s15, s16, s17, _, h => by
    rw [laidFs]
    refine ⟨a, s13, s14, s15, s16, s17, ?_⟩
    rw [lysD, List.append_nil]
    cases zs <;> simp [zipL]
  | .con s l q, [], a, f, s13, s14, s15, s16, s17, _, h => by
    rw [laidFs]
    refine ⟨a, s13, s14, s15, s16, s17, ?_⟩
    rw [lysD, List.append_nil]
    simp [zipL]
  | .con s l q, z :: zs, a, f, s13, s14, s15, s16, s17, ih, h => by
    rw [cntLs] at h
    have c1 := ih (s, l) (by rw [Lys.toL]; exact List.mem_cons_self) (partF r dr b a z)
    simp only at c1
    have cn := laid_cnt g dr l (partF r dr b a z)
    rw [lysD, List.map_cons]
    have zc : zipL (.int z :: zs.map .int) (.tup [.int s, lyD l] :: lysD q) = .tup [.int z, .tup [.int s, lyD l]] :: zipL (zs.map .int) (lysD q) := rfl
    rw [zc, laidFs]
    -- up to the call
    have t01 : ∀ R : Out Fl, exs (calF P K) [s2_b1_l_laid2, s3_b1_l_laid2, s4_b1_l_laid2, s5_b1_l_laid2] (lst18 s0 b g dr W r s6 f a (.val (.int z)) (.val (b4D (partF r dr b a z))) s15 (.val (.int s)) (.val (lyD l))) = R → exs (calF P K) b1_l_laid2 (lst18 s0 b g dr W r s6 f a (.val (.int z)) s14 s15 (.val (.int s)) (.val (lyD l))) = R := fun R hR => by
      have dl := dirL dr
      rw [b1_l_laid2_eq]
      refine exs_nx (e' := lst18 s0 b g dr W r s6 f a (.val (.int z)) (.val (b4D (b.1 + a, b.2.1, z, b.2.2.2))) s15 (.val (.int s)) (.val (lyD l))) (by rw [s0_b1_l_laid2]; simp [lst18, b4D]) (exs_nx ?_ hR)
      rw [s1_b1_l_laid2]
      cases r <;> cases dr <;> simp [lst18, b4D, partF, dl]
    have bt : ∀ (body : M Fl), bnd (bindT (.t [(.v 13), (.t [(.v 16), (.v 17)])]) (.tup [.int z, .tup [.int s, lyD l]])) (fun _ => body) (lst18 s0 b g dr W r s6 f a s13 s14 s15 s16 s17) = body (lst18 s0 b g dr W r s6 f a (.val (.int z)) s14 s15 (.val (.int s)) (.val (lyD l))) := fun body => rfl
    cases hx : laidF g dr l (partF r dr b a z) with
    | none =>
      rw [hx] at c1
      refine ⟨lst18 s0 b g dr W r s6 f a (.val (.int z)) (.val (b4D (partF r dr b a z))) (.val .non) (.val (.int s)) (.val (lyD l)), rfl, ?_⟩
      rw [forD_step (e' := lst18 s0 b g dr W r s6 f a (.val (.int z)) (.val (b4D (partF r dr b a z))) (.val .non) (.val (.int s)) (.val (lyD l))) (fl := .rtn (.val .non)) ?_]
      · rfl
      · rw [bt]
        refine t01 _ ?_
        refine exs_nx (e' := lst18 s0 b g dr W r s6 f a (.val (.int z)) (.val (b4D (partF r dr b a z))) (.val .non) (.val (.int s)) (.val (lyD l))) (by rw [s2_b1_l_laid2]; simp [lst18, c1 _, optP]) ?_
        refine exs_rtn ?_
        rw [s3_b1_l_laid2]
        simp [lst18, isNonS]
    | some x =>
      rw [hx] at c1
      have cx := cn x hx
      have ihq := laid2_loop K g dr r b W s0 s6 q zs (a + z + W) (f ++ x) (.val (.int z)) (.val (b4D (partF r dr b a z))) (.val (.lst (x.map pbD))) (.val (.int s)) (.val (lyD l)) (fun p hp => ih p (by rw [Lys.toL]; exact List.mem_cons_of_mem _ hp)) (by rw [List.length_append]; omega)
      have fs : forD (.t [(.v 13), (.t [(.v 16), (.v 17)])]) (exs (calF P K) b1_l_laid2) (.tup [.int z, .tup [.int s, lyD l]] :: zipL (zs.map .int) (lysD q)) (lst18 s0 b g dr W r s6 f a s13 s14 s15 s16 s17) = forD (.t [(.v 13), (.t [(.v 16), (.v 17)])]) (exs (calF P K) b1_l_laid2) (zipL (zs.map .int) (lysD q)) (lst18 s0 b g dr W r s6 (f ++ x) (a + z + W) (.val (.int z)) (.val (b4D (partF r dr b a z))) (.val (.lst (x.map pbD))) (.val (.int s)) (.val (lyD l))) := by
        rw [forD_step (e' := lst18 s0 b g dr W r s6 (f ++ x) (a + z + W) (.val (.int z)) (.val (b4D (partF r dr b a z))) (.val (.lst (x.map pbD))) (.val (.int s)) (.val (lyD l))) (fl := .nxt) ?_]
        · rfl
        · rw [bt]
          refine t01 _ ?_
          have g0 : f.length + x.length ≤ 16777216 := by omega
          refine exs_nx (e' := lst18 s0 b g dr W r s6 f a (.val (.int z)) (.val (b4D (partF r dr b a z))) (.val (.lst (x.map pbD))) (.val (.int s)) (.val (lyD l))) (by rw [s2_b1_l_laid2]; simp [lst18, c1 _, optP]) ?_
          refine exs_nx (e' := lst18 s0 b g dr W r s6 f a (.val (.int z)) (.val (b4D (partF r dr b a z))) (.val (.lst (x.map pbD))) (.val (.int s)) (.val (lyD l))) (by rw [s3_b1_l_laid2]; simp [lst18, isNonS]) ?_
          refine exs_nx (e' := lst18 s0 b g dr W r s6 (f ++ x) a (.val (.int z)) (.val (b4D (partF r dr b a z))) (.val (.lst (x.map pbD))) (.val (.int s)) (.val (lyD l))) (by rw [s4_b1_l_laid2]; simp [lst18, g0]) ?_
          refine exs_nx (e' := lst18 s0 b g dr W r s6 (f ++ x) (a + z + W) (.val (.int z)) (.val (b4D (partF r dr b a z))) (.val (.lst (x.map pbD))) (.val (.int s)) (.val (lyD l))) (by rw [s5_b1_l_laid2]; simp [lst18]) rfl
      cases hy : laidFs g dr r b W q zs (a + z + W) with
      | none =>
        rw [hy] at ihq
        obtain ⟨e', h1, h2⟩ := ihq
        exact ⟨e', h1, fs.trans h2⟩
      | some y =>
        rw [hy] at ihq
        obtain ⟨a', t13, t14, t15, t16, t17, h2⟩ := ihq
        refine ⟨a', t13, t14, t15, t16, t17, fs.trans ?_⟩
        rw [h2, List.append_assoc]
theorem cntLs_mem : ∀ (ps : Lys), ∀ p ∈ ps.toL, cntL p.2 ≤ cntLs ps
  | .nil, p, h => by rw [Lys.toL] at h; cases h
  | .con s l r, p, h => by
    rw [Lys.toL] at h
    rw [cntLs]
    rcases List.mem_cons.mp h with e | e
    · subst e; exact Nat.le_add_right _ _
    · have := cntLs_mem r p e; omega
theorem laid2_sp [K_l_laid2 P] : ∀ (K : Nat) (g : Int) (dr : Bool) (l : Ly) (b : Bx4), wfL l → depthF l + 2 ≤ K → depthF l ≤ 1000000 → cntL l ≤ 1000000 → Pu (calF P K 133) [.val (lyD l), .val (b4D b), .val (.int g), .val (.str (dirT dr))] (optP (laidF g dr l b))
  | 0, g, dr, l, b, w, h, _, _ => by omega
  | K + 1, g, dr, .pan n, b, w, h, _, _ => by
    rw [laidF, lyD]
    refine Pu.run K_l_laid2.e_l_laid2 (sl := [.val (.tup [.str sPanel, .str n]), .val (b4D b), .val (.int g), .val (.str (dirT dr)), .und, .und, .und, .und, .und, .und, .und, .und, .und, .und, .und, .und, .und, .und]) (e := ⟨[.val (.tup [.str sPanel, .str n]), .val (b4D b), .val (.int g), .val (.str (dirT dr)), .und, .und, .und, .und, .und, .und, .und, .und, .und, .und, .und, .und, .und, .und], []⟩) ?_
    rw [b_l_laid2]
    refine exs_rtn ?_
    simp [pbD, optP]
  | K + 1, g, dr, .way r ps, b, w, h, hd, hc => by
    have dp := l_depth_sp (P := P) K (.way r ps) w (by omega)
    rw [wfL] at w
    rw [depthF] at h hd
    rw [cntL] at hc
    rw [lyD, depthF] at dp
    rw [lyD, laidF]
    obtain ⟨K', rfl⟩ : ∃ K', K = K' + 1 := ⟨K - 1, by omega⟩
    have hne : ps.toL ≠ [] := fun z => by have := w.1.1; rw [shs_len, z] at this; simp at this
    have hlen : ps.toL.length ≤ 1000 := by have := w.1.2.1; rw [shs_len] at this; exact this
    obtain ⟨W, hW⟩ : ∃ W, W = ((1 + depthFs ps : Nat) : Int) * g := ⟨_, rfl⟩
    have ds := parted_sp (P := P) K' (sideI r b) W ps.shs w.1
    have ro : sideI r b - (((ps.shs.length : Nat) : Int) - 1) * W = roomOf g r ps b := by
      rw [hW, shs_len]; rfl
    rw [ro] at ds
    have zl := dealtF_len (roomOf g r ps b) ps.shs
    rw [← hW]
    have zne : dealtF (roomOf g r ps b) ps.shs ≠ [] := fun z => by rw [z] at zl; have := w.1.1; simp at zl; omega
    generalize dealtF (roomOf g r ps b) ps.shs = zs at *
    have mn := minL_ok zne
    have sm1' : small64 (1 + (depthFs ps : Int)) = true := small_lt (by omega) (by omega)
    obtain ⟨LD, hLD⟩ : ∃ LD, LD = D.tup [.str (wayS r), .tup (lysD ps)] := ⟨_, rfl⟩
    have wn := wayS_ne r
    simp only [sPanel] at wn
    have wr : (wayS r == [114, 111, 119, 115]) = r := by cases r <;> decide
    have sd : atP [D.int b.2.2.1, .int b.2.2.2] (if r then 1 else 0) = some (.int (sideI r b)) := by cases r <;> rfl
    have cq := comp2L (cal := calF P (K' + 1)) (i := 16) (j := 17) (it := .seq (.idx (.var 0) (.lit (.int 1)))) (elt := x1_l_laid2) (by omega) ps.toL (fun p => .int p.1) (fun p => lyD p.2) (fun p => .int p.1) (e := ⟨[.val LD, .val (b4D b), .val (.int g), .val (.str (dirT dr)), .val (.int W), .val (.bl r), .und, .und, .und, .val (.int b.1), .val (.int b.2.1), .val (.int b.2.2.1), .val (.int b.2.2.2), .und, .und, .und, .und, .und], []⟩) (e1 := ⟨[.val LD, .val (b4D b), .val (.int g), .val (.str (dirT dr)), .val (.int W), .val (.bl r), .und, .und, .und, .val (.int b.1), .val (.int b.2.1), .val (.int b.2.2.1), .val (.int b.2.2.2), .und, .und, .und, .und, .und], []⟩) (by rw [hLD]; simp [lysD_eq]) (fun p hp => by rw [x1_l_laid2]; simp) (by omega)
    have cq' : (ps.toL.map fun p => D.int p.1) = ps.shs.map D.int := by unfold Lys.shs; rw [List.map_map]; rfl
    rw [cq'] at cq
    have lq := laid2_loop (P := P) (K' + 1) g dr r b W (.val LD) (.val (.lst (zs.map .int))) ps zs 0 [] .und .und .und .und .und (fun p hp b2 => laid2_sp (K' + 1) g dr p.2 b2 (wfLs_mem ps w.2 p hp) (by have := depthFs_mem ps p hp; omega) (by have := depthFs_mem ps p hp; omega) (by have := cntLs_mem ps p hp; omega)) (by simpa using hc)
    have pre : ∀ R, exs (calF P (K' + 1)) [s5_l_laid2, s6_l_laid2, s7_l_laid2, s8_l_laid2, s9_l_laid2] ⟨[.val LD, .val (b4D b), .val (.int g), .val (.str (dirT dr)), .val (.int W), .val (.bl r), .val (.lst (zs.map .int)), .und, .und, .val (.int b.1), .val (.int b.2.1), .val (.int b.2.2.1), .val (.int b.2.2.2), .und, .und, .und, .und, .und], []⟩ = R → exs (calF P (K' + 1)) b_l_laid2 ⟨[.val LD, .val (b4D b), .val (.int g), .val (.str (dirT dr)), .und, .und, .und, .und, .und, .und, .und, .und, .und, .und, .und, .und, .und, .und], []⟩ = R := fun R hR => by
      rw [b_l_laid2_eq]
      refine exs_nx (e' := ⟨[.val LD, .val (b4D b), .val (.int g), .val (.str (dirT dr)), .und, .und, .und, .und, .und, .und, .und, .und, .und, .und, .und, .und, .und, .und], []⟩) (by rw [s0_l_laid2, hLD]; simp [wn]) ?_
      refine exs_nx (e' := ⟨[.val LD, .val (b4D b), .val (.int g), .val (.str (dirT dr)), .val (.int W), .und, .und, .und, .und, .und, .und, .und, .und, .und, .und, .und, .und, .und], []⟩) (by
        rw [← hLD] at dp
        rw [s1_l_laid2, hW]
        simp only [ex_setv, ev_bin, bnd_o, ev_call, evL_cons, ev_var, getS_e, obind_ok, evL_nil]
        simp [dp _, sm1']) ?_
      refine exs_nx (e' := ⟨[.val LD, .val (b4D b), .val (.int g), .val (.str (dirT dr)), .val (.int W), .und, .und, .und, .und, .val (.int b.1), .val (.int b.2.1), .val (.int b.2.2.1), .val (.int b.2.2.2), .und, .und, .und, .und, .und], []⟩) (by rw [s2_l_laid2]; simp [b4D]) ?_
      refine exs_nx (e' := ⟨[.val LD, .val (b4D b), .val (.int g), .val (.str (dirT dr)), .val (.int W), .val (.bl r), .und, .und, .und, .val (.int b.1), .val (.int b.2.1), .val (.int b.2.2.1), .val (.int b.2.2.2), .und, .und, .und, .und, .und], []⟩) (by rw [s3_l_laid2, hLD]; simp [wr]) ?_
      refine exs_nx ?_ hR
      rw [s4_l_laid2, q1_l_laid2]
      simp [sd, cq, ds _]
    by_cases c : minI zs < 1
    · rw [if_pos c]
      refine Pu.run K_l_laid2.e_l_laid2 (sl := [.val LD, .val (b4D b), .val (.int g), .val (.str (dirT dr)), .und, .und, .und, .und, .und, .und, .und, .und, .und, .und, .und, .und, .und, .und]) (e := ⟨[.val LD, .val (b4D b), .val (.int g), .val (.str (dirT dr)), .val (.int W), .val (.bl r), .val (.lst (zs.map .int)), .und, .und, .val (.int b.1), .val (.int b.2.1), .val (.int b.2.2.1), .val (.int b.2.2.2), .und, .und, .und, .und, .und], []⟩) ?_ rfl (by rw [hLD]; rfl) rfl
      refine pre _ (exs_rtn ?_)
      rw [s5_l_laid2]
      simp [mn, c, optP]
    · rw [if_neg c]
      have pre2 : ∀ R, exs (calF P (K' + 1)) [s8_l_laid2, s9_l_laid2] (lst18 (.val LD) b g dr W r (.val (.lst (zs.map .int))) [] 0 .und .und .und .und .und) = R → exs (calF P (K' + 1)) [s5_l_laid2, s6_l_laid2, s7_l_laid2, s8_l_laid2, s9_l_laid2] ⟨[.val LD, .val (b4D b), .val (.int g), .val (.str (dirT dr)), .val (.int W), .val (.bl r), .val (.lst (zs.map .int)), .und, .und, .val (.int b.1), .val (.int b.2.1), .val (.int b.2.2.1), .val (.int b.2.2.2), .und, .und, .und, .und, .und], []⟩ = R := fun R hR => by
        refine exs_nx (e' := ⟨[.val LD, .val (b4D b), .val (.int g), .val (.str (dirT dr)), .val (.int W), .val (.bl r), .val (.lst (zs.map .int)), .und, .und, .val (.int b.1), .val (.int b.2.1), .val (.int b.2.2.1), .val (.int b.2.2.2), .und, .und, .und, .und, .und], []⟩) (by rw [s5_l_laid2]; simp [mn, c]) ?_
        refine exs_nx (e' := ⟨[.val LD, .val (b4D b), .val (.int g), .val (.str (dirT dr)), .val (.int W), .val (.bl r), .val (.lst (zs.map .int)), .val (.lst []), .und, .val (.int b.1), .val (.int b.2.1), .val (.int b.2.2.1), .val (.int b.2.2.2), .und, .und, .und, .und, .und], []⟩) (by rw [s6_l_laid2]; simp) ?_
        exact exs_nx (by rw [s7_l_laid2]; simp [lst18]) hR
      have zi : evI (calF P (K' + 1)) (.zip (.var 6) (.idx (.var 0) (.lit (.int 1)))) (lst18 (.val LD) b g dr W r (.val (.lst (zs.map .int))) [] 0 .und .und .und .und .und) = .ok (zipL (zs.map .int) (lysD ps)) (lst18 (.val LD) b g dr W r (.val (.lst (zs.map .int))) [] 0 .und .und .und .und .und) := by
        rw [zip_e, hLD]
        simp [lst18]
      cases hy : laidFs g dr r b W ps zs 0 with
      | none =>
        rw [hy] at lq
        obtain ⟨e', h1, h2⟩ := lq
        refine Pu.run K_l_laid2.e_l_laid2 (sl := [.val LD, .val (b4D b), .val (.int g), .val (.str (dirT dr)), .und, .und, .und, .und, .und, .und, .und, .und, .und, .und, .und, .und, .und, .und]) (e := e') ?_ rfl (by rw [hLD]; rfl) rfl
        refine pre _ (pre2 _ (exs_rtn ?_))
        rw [s8_l_laid2, l1_l_laid2]
        exact ex_fors_at zi h2
      | some y =>
        rw [hy] at lq
        obtain ⟨a', t13, t14, t15, t16, t17, h2⟩ := lq
        refine Pu.run K_l_laid2.e_l_laid2 (sl := [.val LD, .val (b4D b), .val (.int g), .val (.str (dirT dr)), .und, .und, .und, .und, .und, .und, .und, .und, .und, .und, .und, .und, .und, .und]) (e := lst18 (.val LD) b g dr W r (.val (.lst (zs.map .int))) ([] ++ y) a' t13 t14 t15 t16 t17) ?_ rfl (by rw [hLD]; rfl) rfl
        refine pre _ (pre2 _ (exs_nx (e' := lst18 (.val LD) b g dr W r (.val (.lst (zs.map .int))) ([] ++ y) a' t13 t14 t15 t16 t17) ?_ (exs_rtn ?_)))
        · rw [s8_l_laid2, l1_l_laid2]
          exact ex_fors_at zi h2
        · rw [s9_l_laid2]
          simp [lst18, optP]
end
end DL
/-! layouts that are drawn, pages -/
namespace DL
/-- a call with two mutable things, the first two -/
theorem callM_01 {fn : Fn} {c c' d d' : Ce} {sl : List Sl} {cs : List Ce} {r : D} {vs : List D} (h : fn (.cel 0 :: .cel 1 :: vs.map Sl.val) [c, d] = .ok (.val r) [c', d']) (p : pureC c = true) (q : pureC d = true) (p' : pureC c' = true) (q' : pureC d' = true) :
    callM fn (.cel 0 :: .cel 1 :: vs.map Sl.val) ⟨sl, c :: d :: cs⟩ = .ok (.val r) ⟨sl, c' :: d' :: cs⟩ := by
  have e1 : celIds (.cel 0 :: .cel 1 :: vs.map Sl.val) = [0, 1] := by
    rw [celIds_c, celIds_c, celIds_vals]; rfl
  have e2 : (Sl.cel 0 :: Sl.cel 1 :: vs.map Sl.val).map (renS [0, 1]) = .cel 0 :: .cel 1 :: vs.map Sl.val := by
    rw [List.map_cons, List.map_cons, List.map_map]
    rfl
  rw [callM_e, e1]
  have e4 : ([0, 1].all fun k => pureC ((c :: d :: cs).getD k .gone)) = true := by simp [p, q]
  show (match ([0, 1].all fun k => pureC ((c :: d :: cs).getD k .gone)) with | true => callB fn (.cel 0 :: .cel 1 :: vs.map Sl.val) [0, 1] ⟨sl, c :: d :: cs⟩ | false => .stuck) = _
  rw [e4]
  show callB fn (.cel 0 :: .cel 1 :: vs.map Sl.val) [0, 1] ⟨sl, c :: d :: cs⟩ = _
  rw [callB_e, e2]
  show (match fn (.cel 0 :: .cel 1 :: vs.map Sl.val) [c, d] with | .ok r cs' => _ | .exc x cs' => _ | .stuck => _) = _
  rw [h]
  simp [p', q']
theorem slc_f1 {cal : Nat → Fn} {a : CE} {lo hi : Option CE} {e e1 : En} {l : List D} (h : ev cal (.slc 0 a lo hi) e = .ok (.val (.lst l)) e1) : ev cal (.slc 1 a lo hi) e = .ok (.cel e1.cs.length) ⟨e1.sl, e1.cs ++ [.lst l]⟩ := by
  have h : bnd (ev cal a) (fun s => bnd (evO cal lo) fun l => bnd (evO cal hi) fun h => sliceM 0 s l h) e = .ok (.val (.lst l)) e1 := h
  show bnd (ev cal a) (fun s => bnd (evO cal lo) fun l => bnd (evO cal hi) fun h => sliceM 1 s l h) e = _
  generalize ev cal a = A at *
  generalize evO cal lo = B at *
  generalize evO cal hi = C at *
  rw [bnd_e] at h ⊢
  cases h1 : A e with
  | stuck => rw [h1] at h; cases h
  | exc x e' => rw [h1] at h; cases h
  | ok s e' =>
    rw [h1] at h
    simp only [bnd_e] at h ⊢
    cases h2 : B e' with
    | stuck => rw [h2] at h; cases h
    | exc x e' => rw [h2] at h; cases h
    | ok lo' e2 =>
      rw [h2] at h
      simp only [bnd_e] at h ⊢
      cases h3 : C e2 with
      | stuck => rw [h3] at h; cases h
      | exc x e' => rw [h3] at h; cases h
      | ok hi' e3 =>
        rw [h3] at h
        simp only at h ⊢
        unfold sliceM at h ⊢
        rw [bnd_e] at h ⊢
        cases h4 : rdOf s e3 with
        | stuck => rw [h4] at h; cases h
        | exc x e' => rw [h4] at h; cases h
        | ok d e4 =>
          rw [h4] at h
          cases d with
          | lst xs =>
            have h : Out.ok (Sl.val (.lst (cutL xs lo' hi'))) e4 = .ok (.val (.lst l)) e1 := h
            injection h with ha hb
            injection ha with ha
            injection ha with ha
            subst ha hb
            rfl
          | frl xs =>
            have h : Out.ok (Sl.val (.lst (cutL xs lo' hi'))) e4 = .ok (.val (.lst l)) e1 := h
            injection h with ha hb
            injection ha with ha
            injection ha with ha
            subst ha hb
            rfl
          | tup xs =>
            have h : Out.ok (Sl.val (.tup (cutL xs lo' hi'))) e4 = .ok (.val (.lst l)) e1 := h
            injection h with ha hb
            injection ha with ha
            cases ha
          | str z =>
            have h : req (decide (z.length ≤ SZ)) (ret (Sl.val (.str (cutL z lo' hi')))) e4 = .ok (Sl.val (.lst l)) e1 := h
            cases hd : decide (z.length ≤ SZ) with
            | false => rw [hd] at h; cases h
            | true =>
              rw [hd] at h
              have h : Out.ok (Sl.val (.str (cutL z lo' hi'))) e4 = .ok (.val (.lst l)) e1 := h
              injection h with ha hb
              injection ha with ha
              cases ha
          | non => cases h
          | bl b => cases h
          | int i => cases h
          | dct ks vs => cases h
theorem unlike_of : ∀ b ∈ [1, 3, 5, 7, 11], ∀ f < 26, ((List.range 26).map fun k => (f + b * k) % 26).Nodup := by decide +kernel
theorem found_nodup {w : List Nat} {a f b : Nat} (h : WdOk w a f b) : (foundF w a f b).Nodup := by
  have u := unlike_of b (by rcases h.hb with z | z | z | z | z <;> simp [z]) f h.hf
  have e : foundF w a f b = ((List.range 26).map fun k => (f + b * k) % 26).map fun x => w.take a ++ [97 + x] ++ w.drop (a + 1) := by
    unfold foundF
    rw [List.map_map]
    rfl
  rw [e]
  refine List.Pairwise.map _ (fun x y hxy he => hxy ?_) u
  have he : w.take a ++ [97 + x] ++ w.drop (a + 1) = w.take a ++ [97 + y] ++ w.drop (a + 1) := he
  rw [List.append_assoc, List.append_assoc] at he
  have he := List.append_cancel_left he
  simp only [List.cons_append, List.nil_append, List.cons.injEq] at he
  omega
theorem names_nodup {w : List Nat} {a f b m : Nat} (h : WdOk w a f b) : (namesF w a f b m).Nodup := ((found_nodup h).sublist List.filter_sublist).sublist (List.take_sublist _ _)
mutual
def namesL : Ly → List (List Nat)
  | .pan n => [n]
  | .way _ ps => namesLs ps
def namesLs : Lys → List (List Nat)
  | .nil => []
  | .con _ l r => namesL l ++ namesLs r
end
mutual
theorem cnt_names : ∀ l : Ly, cntL l = (namesL l).length
  | .pan n => by rw [cntL, namesL]; rfl
  | .way r ps => by rw [cntL, namesL, cnts_names ps]
theorem cnts_names : ∀ ps : Lys, cntLs ps = (namesLs ps).length
  | .nil => by rw [cntLs, namesLs]; rfl
  | .con s l r => by rw [cntLs, namesLs, cnt_names l, cnts_names r, List.length_append]
end
def ofL : List (Int × Ly) → Lys
  | [] => .nil
  | p :: r => .con p.1 p.2 (ofL r)
theorem ofL_toL : ∀ ps : List (Int × Ly), (ofL ps).toL = ps
  | [] => by rw [ofL, Lys.toL]
  | p :: r => by rw [ofL, Lys.toL, ofL_toL r]
def namesP (ps : List (Int × Ly)) : List (List Nat) := ps.flatMap fun p => namesL p.2
theorem ofL_names : ∀ ps : List (Int × Ly), namesLs (ofL ps) = namesP ps
  | [] => by rw [ofL, namesLs]; rfl
  | p :: r => by rw [ofL, namesLs, ofL_names r]; rfl
theorem ofL_wf : ∀ ps : List (Int × Ly), (∀ p ∈ ps, wfL p.2) → wfLs (ofL ps)
  | [], _ => by rw [ofL, wfLs]; trivial
  | p :: r, h => by
    rw [ofL, wfLs]
    exact ⟨h p List.mem_cons_self, ofL_wf r fun x hx => h x (List.mem_cons_of_mem _ hx)⟩
theorem ofL_dep (d : Nat) : ∀ ps : List (Int × Ly), (∀ p ∈ ps, depthF p.2 ≤ d) → depthFs (ofL ps) ≤ d
  | [], _ => by rw [ofL, depthFs]; exact Nat.zero_le _
  | p :: r, h => by
    rw [ofL, depthFs]
    have h1 := h p List.mem_cons_self
    have h2 := ofL_dep d r fun x hx => h x (List.mem_cons_of_mem _ hx)
    omega
mutual
/-- ways alternate, two to six parts -/
def frmL : Bool → Ly → Prop
  | _, .pan _ => True
  | r, .way q ps => q = r ∧ 2 ≤ ps.toL.length ∧ ps.toL.length ≤ 6 ∧ frmLs (!r) ps
def frmLs : Bool → Lys → Prop
  | _, .nil => True
  | r, .con _ l q => frmL r l ∧ frmLs r q
end
theorem ofL_frm (r : Bool) : ∀ ps : List (Int × Ly), (∀ p ∈ ps, frmL r p.2) → frmLs r (ofL ps)
  | [], _ => by rw [ofL, frmLs]; trivial
  | p :: q, h => by
    rw [ofL, frmLs]
    exact ⟨h p List.mem_cons_self, ofL_frm r q fun x hx => h x (List.mem_cons_of_mem _ hx)⟩
section
variable {P : Nat → CDef}
theorem names3_c [K_l_names3 P] (k n m : Nat) (hm : m ≤ 25) {c : Ce} (p : Pn n c) (hn : n + 12 < 1073741824) : ∃ (c' : Ce) (ns : List (List Nat)), (∀ sl, callM (calF P (k+2) 129) [.cel 0, .val (.int (m : Nat))] ⟨sl, [c]⟩ = .ok (.cel 1) ⟨sl, [c', .lst (ns.map .str)]⟩) ∧ Pn (n+12) c' ∧ ns.length = m ∧ (∀ x ∈ ns, lowT x) ∧ ns.Nodup := by
  obtain ⟨w, a, f, b, c', q, p', ok⟩ := names_run (P := P) k n (m : Nat) p hn
  have ct := slc_f1 (names_cut (calF P (k+1)) w a f b m (.cel 0) .und (.val (.str sLtr)) (.val (.str w)) (.val (.int (a : Nat))) (.val (.int (f : Nat))) (.val (.int (b : Nat))) .und [c'])
  have hb : exs (calF P (k+1)) b_l_names3 ⟨[.cel 0, .val (.int (m : Nat)), .und, .und, .und, .und, .und, .und, .und, .und], [c]⟩ = .ok (.rtn (.cel 1)) ⟨[.cel 0, .val (.int (m : Nat)), .val (.str sLtr), .val (.str w), .val (.int (a : Nat)), .val (.lst ((foundF w a f b).map .str)), .val (.int (f : Nat)), .val (.int (b : Nat)), .und, .und], [c', .lst ((namesF w a f b m).map .str)]⟩ := by
    have e : b_l_names3 = [s0_l_names3, s1_l_names3, s2_l_names3, s3_l_names3, s4_l_names3] ++ [s5_l_names3] := rfl
    rw [e, exs_app q]
    refine exs_rtn ?_
    show bnd (ev (calF P (k+1)) (.slc 1 q3_l_names3 none (some (.var 1)))) (fun s => ret (Fl.rtn s)) _ = _
    rw [bnd_at ct]
    rfl
  have hf : calF P (k+2) 129 [.cel 0, .val (.int (m : Nat))] [c] = .ok (.cel 1) [c', .lst ((namesF w a f b m).map .str)] := by
    rw [calF_e, (K_l_names3.e_l_names3 : P 129 = _)]
    show exitF 1 (exs (calF P (k+1)) b_l_names3 ⟨[.cel 0, .val (.int (m : Nat)), .und, .und, .und, .und, .und, .und, .und, .und], [c]⟩) = _
    rw [hb]
    simp [p'.pure]
  refine ⟨c', namesF w a f b m, fun sl => ?_, p', names_len ok hm, names_low ok, names_nodup ok⟩
  rw [callM_e]
  simp [callB_e, p.pure, hf, p'.pure]
abbrev stL (r : Bool) (d most many : Nat) (sp : Int) (s8 s9 s10 : Sl) (c : Ce) (ns : List (List Nat)) (ps : List (Int × Ly)) : En := ⟨[.cel 0, .cel 1, .val (.str (wayS r)), .val (.int (d : Nat)), .val (.int (most : Nat)), .val (.int (many : Nat)), .val (.int sp), .cel 2, s8, s9, s10], [c, .lst (ns.map .str), .lst (ps.map fun p => .tup [.int p.1, lyD p.2])]⟩
/-- what is drawn of a layout -/
structure LyOk (r : Bool) (d most n : Nat) (ns ns' : List (List Nat)) (L : Ly) (c' : Ce) : Prop where
  pn : Pn (n + 9 * (most - 1)) c'
  nm : ns = ns' ++ (namesL L).reverse
  cnt : (namesL L).length ≤ most
  wf : wfL L
  dep : depthF L ≤ d
  frm : frmL r L
theorem layout_sp [K_l_layout2 P] : ∀ (d K : Nat) (r : Bool) (most n : Nat) (ns : List (List Nat)) (c : Ce), d + 3 ≤ K → 1 ≤ most → most ≤ 1000 → most ≤ ns.length → Pn n c → n + 9 * most < 1073741824 →
    ∃ L c' ns', calF P K 130 [.cel 0, .cel 1, .val (.str (wayS r)), .val (.int (d : Nat)), .val (.int (most : Nat))] [c, .lst (ns.map .str)] = .ok (.val (lyD L)) [c', .lst (ns'.map .str)] ∧ LyOk r d most n ns ns' L c' := by
  have panel : ∀ (d K : Nat) (r : Bool) (most n : Nat) (ns : List (List Nat)) (c : Ce), (d = 0 ∨ most < 2) → 1 ≤ K → 1 ≤ most → most ≤ ns.length → Pn n c → ∃ L c' ns', calF P K 130 [.cel 0, .cel 1, .val (.str (wayS r)), .val (.int (d : Nat)), .val (.int (most : Nat))] [c, .lst (ns.map .str)] = .ok (.val (lyD L)) [c', .lst (ns'.map .str)] ∧ LyOk r d most n ns ns' L c' := by
    intro d K r most n ns c hc hK hm hl p
    obtain ⟨k, rfl⟩ : ∃ k, K = k + 1 := ⟨K - 1, by omega⟩
    rcases List.eq_nil_or_concat ns with e | ⟨ns', x, e⟩
    · subst e; simp at hl; omega
    · rw [List.concat_eq_append] at e
      subst e
      refine ⟨.pan x, c, ns', ?_, ⟨p.mono (by omega), by rw [namesL]; rfl, by rw [namesL]; exact hm, by rw [wfL]; trivial, by rw [depthF]; exact Nat.zero_le _, by rw [frmL]; trivial⟩⟩
      have hb : exs (calF P k) b_l_layout2 ⟨[.cel 0, .cel 1, .val (.str (wayS r)), .val (.int (d : Nat)), .val (.int (most : Nat)), .und, .und, .und, .und, .und, .und], [c, .lst ((ns' ++ [x]).map .str)]⟩ = .ok (.rtn (.val (lyD (.pan x)))) ⟨[.cel 0, .cel 1, .val (.str (wayS r)), .val (.int (d : Nat)), .val (.int (most : Nat)), .und, .und, .und, .und, .und, .und], [c, .lst (ns'.map .str)]⟩ := by
        have la : ((ns' ++ [x]).map D.str)[((ns' ++ [x]).map D.str).length - 1]? = some (.str x) := by simp
        have lb : ((ns' ++ [x]).map D.str).dropLast = ns'.map .str := by rw [List.map_append, List.map_singleton, List.dropLast_concat]
        rw [b_l_layout2_eq, lyD]
        refine exs_rtn ?_
        rw [s0_l_layout2]
        generalize (ns' ++ [x]).map D.str = XS at *
        by_cases c0 : (d : Int) = 0
        · simp [c0, la, lb]
        · have c1 : (most : Int) < 2 := by omega
          have c0' : ((d : Int) == 0) = false := by simpa using c0
          simp only [ex_ite, ev_or, ev_cmp, bnd_o, ev_var, ev_lit, getS_e, obind_ok]
          simp [c0', c1, la, lb]
      exact calF_run (K_l_layout2.e_l_layout2 : P 130 = _) hb (by simp [p.pure])
  intro d
  induction d with
  | zero => exact fun K r most n ns c hK hm hm2 hl p hn => panel 0 K r most n ns c (.inl rfl) (by omega) hm hl p
  | succ d ihd =>
    intro K r most n ns c hK hm hm2 hl p hn
    by_cases hc : most < 2
    · exact panel (d + 1) K r most n ns c (.inr hc) (by omega) hm hl p
    obtain ⟨k, rfl⟩ : ∃ k, K = k + 3 + 1 := ⟨K - 4, by omega⟩
    obtain ⟨i0, c0, d0, p0, l0, u0⟩ := drwN (P := P) (k + 2) n (min 5 ((most : Int) - 1)) [.lst (ns.map .str)] (by omega) (by omega) p (by omega)
    obtain ⟨many, hmany⟩ : ∃ many : Nat, 2 + i0 = many := ⟨(2 + i0).toNat, by omega⟩
    obtain ⟨sp0, hsp0⟩ : ∃ sp0 : Nat, most = many + sp0 := ⟨most - many, by omega⟩
    have wr : (wayS r == [114, 111, 119, 115]) = r := by cases r <;> decide
    have aw : atP [D.str [114, 111, 119, 115], .str [99, 111, 108, 117, 109, 110, 115]] (if r then 1 else 0) = some (.str (wayS (!r))) := by cases r <;> rfl
    obtain ⟨e', g1, hI⟩ := forD_range (tg := .v 8) (body := exs (calF P (k + 3)) b1_l_layout2) (lo := 0) (n := many) (fun i e => ∃ (ps : List (Int × Ly)) (sp : Nat) (c' : Ce) (ns' : List (List Nat)) (s8 s9 s10 : Sl), e = stL r (d + 1) most many (sp : Nat) s8 s9 s10 c' ns' ps ∧ ps.length = i ∧ sp ≤ sp0 ∧ Pn (n + 1 + 4 * i + 9 * (sp0 - sp)) c' ∧ ns = ns' ++ (namesP ps).reverse ∧ (namesP ps).length ≤ i + (sp0 - sp) ∧ (∀ p ∈ ps, (1 ≤ p.1 ∧ p.1 ≤ 100) ∧ wfL p.2 ∧ depthF p.2 ≤ d ∧ frmL (!r) p.2)) (fun i e hi ⟨ps, sp, c1, ns1, s8, s9, s10, he, h1, h2, h3, h4, h5, h6⟩ => by
      subst he
      obtain ⟨i1, c2, d1, p1, l1, u1⟩ := drwN (P := P) (k + 2) _ ((sp : Int) + 1) [.lst (ns1.map .str), .lst (ps.map fun p => .tup [.int p.1, lyD p.2])] (by omega) (by omega) h3 (by omega)
      obtain ⟨mo, rfl⟩ : ∃ mo : Nat, i1 = mo := ⟨i1.toNat, by omega⟩
      obtain ⟨_, c3, d2, p2, sh, rfl, l2, u2⟩ := (share2_sp (P := P) (k + 1)).nth (cs := [c2, .lst (ns1.map .str), .lst (ps.map fun p => .tup [.int p.1, lyD p.2])]) (j := 0) rfl p1 (by omega)
      have ln : ns.length = ns1.length + (namesP ps).length := by rw [h4]; simp
      obtain ⟨L, c4, ns2, q, ok⟩ := ihd (k + 3) (!r) (1 + mo) _ ns1 c3 (by omega) (by omega) (by omega) (by omega) p2 (by omega)
      have cq := fun sl => callM_01 (sl := sl) (cs := [.lst (ps.map fun p => .tup [.int p.1, lyD p.2])]) (vs := [.str (wayS (!r)), .int (d : Nat), .int ((1 + mo : Nat) : Int)]) q p2.pure rfl ok.pn.pure rfl
      have g0 : ps.length < 16777216 := by omega
      refine ⟨stL r (d + 1) most many ((sp - mo : Nat) : Int) (.val (.int (i : Nat))) (.val (.int (mo : Nat))) (.val (.str (wayS (!r)))) c4 ns2 (ps ++ [(sh, L)]), ?_, ps ++ [(sh, L)], sp - mo, c4, ns2, _, _, _, rfl, by simp [h1], by omega, ok.pn.mono (by omega), ?_, ?_, ?_⟩
      · rw [bnd_v, Int.zero_add, b1_l_layout2]
        have e1 : (sp : Int) - (mo : Nat) = ((sp - mo : Nat) : Int) := by omega
        refine exs_nx (e' := stL r (d + 1) most many (sp : Nat) (.val (.int (i : Nat))) (.val (.int (mo : Nat))) s10 c2 ns1 ps) (by simp [d1]) ?_
        refine exs_nx (e' := stL r (d + 1) most many ((sp - mo : Nat) : Int) (.val (.int (i : Nat))) (.val (.int (mo : Nat))) s10 c2 ns1 ps) (by simp [e1]) ?_
        refine exs_nx (e' := stL r (d + 1) most many ((sp - mo : Nat) : Int) (.val (.int (i : Nat))) (.val (.int (mo : Nat))) (.val (.str (wayS (!r)))) c2 ns1 ps) (by simp [wr, aw]) ?_
        refine exs_nx (e' := stL r (d + 1) most many ((sp - mo : Nat) : Int) (.val (.int (i : Nat))) (.val (.int (mo : Nat))) (.val (.str (wayS (!r)))) c4 ns2 (ps ++ [(sh, L)])) ?_ rfl
        have e2 : (((d + 1 : Nat) : Int) - 1) = (d : Nat) := by omega
        have e3 : (1 + ((mo : Nat) : Int)) = ((1 + mo : Nat) : Int) := by omega
        simp only [List.map_cons, List.map_nil] at cq
        simp only [ex_expr, ev_mt, bnd_o, ev_var, getS_e, obind_ok, stL]
        simp [d2, -Int.natCast_add, e2, e3, cq, g0]
      · rw [h4, ok.nm]
        unfold namesP
        rw [List.flatMap_append]
        simp
      · have e9 : (namesP (ps ++ [(sh, L)])).length = (namesP ps).length + (namesL L).length := by
          unfold namesP
          rw [List.flatMap_append, List.length_append, List.flatMap_singleton]
        rw [e9]
        have := ok.cnt
        omega
      · intro x hx
        rcases List.mem_append.mp hx with z | z
        · exact h6 x z
        · rw [List.mem_singleton] at z
          subst z
          exact ⟨⟨l2, u2⟩, ok.wf, ok.dep, ok.frm⟩) (stL r (d + 1) most many (sp0 : Nat) .und .und .und c0 ns []) ⟨[], sp0, c0, ns, .und, .und, .und, rfl, rfl, Nat.le_refl _, p0.mono (by omega), by simp [namesP], by simp [namesP], fun _ h => by cases h⟩
    obtain ⟨ps, sp, c1, ns1, s8, s9, s10, he, h1, h2, h3, h4, h5, h6⟩ := hI
    subst he
    have shs : (ofL ps).shs = ps.map Prod.fst := by unfold Lys.shs; rw [ofL_toL]
    refine ⟨.way r (ofL ps), c1, ns1, ?_, ⟨h3.mono (by omega), by rw [namesL, ofL_names]; exact h4, by rw [namesL, ofL_names]; omega, ?_, ?_, ?_⟩⟩
    · have hb : exs (calF P (k + 3)) b_l_layout2 ⟨[.cel 0, .cel 1, .val (.str (wayS r)), .val (.int ((d + 1 : Nat) : Int)), .val (.int (most : Nat)), .und, .und, .und, .und, .und, .und], [c, .lst (ns.map .str)]⟩ = .ok (.rtn (.val (lyD (.way r (ofL ps))))) (stL r (d + 1) most many (sp : Nat) s8 s9 s10 c1 ns1 ps) := by
        have n0 : (((d + 1 : Nat) : Int) == 0) = false := by simp; omega
        have n1 : ¬ (most : Int) < 2 := by omega
        have rg : rngOk (many : Int) = true := by unfold rngOk; simp; omega
        have e1 : (most : Int) - (many : Nat) = (sp0 : Nat) := by omega
        rw [b_l_layout2_eq]
        refine exs_nx (e' := ⟨[.cel 0, .cel 1, .val (.str (wayS r)), .val (.int ((d + 1 : Nat) : Int)), .val (.int (most : Nat)), .und, .und, .und, .und, .und, .und], [c, .lst (ns.map .str)]⟩) (by
          rw [s0_l_layout2]
          simp only [ex_ite, ev_or, ev_cmp, bnd_o, ev_var, ev_lit, getS_e, obind_ok]
          simp [-Int.natCast_add, n0, n1]) ?_
        refine exs_nx (e' := ⟨[.cel 0, .cel 1, .val (.str (wayS r)), .val (.int ((d + 1 : Nat) : Int)), .val (.int (most : Nat)), .val (.int (many : Nat)), .und, .und, .und, .und, .und], [c0, .lst (ns.map .str)]⟩) (by rw [s1_l_layout2, ← hmany]; simp [d0]) ?_
        refine exs_nx (e' := ⟨[.cel 0, .cel 1, .val (.str (wayS r)), .val (.int ((d + 1 : Nat) : Int)), .val (.int (most : Nat)), .val (.int (many : Nat)), .val (.int (sp0 : Nat)), .und, .und, .und, .und], [c0, .lst (ns.map .str)]⟩) (by rw [s2_l_layout2]; simp [e1]) ?_
        refine exs_nx (e' := stL r (d + 1) most many (sp0 : Nat) .und .und .und c0 ns []) (by rw [s3_l_layout2]; simp) ?_
        refine exs_nx (e' := stL r (d + 1) most many (sp : Nat) s8 s9 s10 c1 ns1 ps) ?_ (exs_rtn ?_)
        · rw [s4_l_layout2, l1_l_layout2]
          exact ex_fors_at (xs := rangeL 0 many) (e1 := stL r (d + 1) most many (sp0 : Nat) .und .und .und c0 ns []) (by simp [rg]) g1
        · rw [s5_l_layout2, lyD, lysD_eq, ofL_toL]
          simp
      exact calF_run (K_l_layout2.e_l_layout2 : P 130 = _) hb (by simp [h3.pure])
    · rw [wfL, shs]
      refine ⟨⟨by simp; omega, by simp; omega, fun s hs => ?_⟩, ofL_wf ps fun p hp => (h6 p hp).2.1⟩
      obtain ⟨q, hq, rfl⟩ := List.mem_map.mp hs
      exact (h6 q hq).1
    · rw [depthF]
      have := ofL_dep d ps fun p hp => (h6 p hp).2.2.1
      omega
    · rw [frmL, ofL_toL]
      exact ⟨rfl, by omega, by omega, ofL_frm (!r) ps fun p hp => (h6 p hp).2.2.2⟩
end
end DL
/-! unlike names, layouts drawn (the laws of pages) -/
namespace DL
/-- a comprehension of one name whose items draw, item by item -/
theorem compG_fa {α β : Type} {j : Nat} {elt : M D} (I : Nat → List Ce → Prop) (inp : α → D) (out : α → β → D) (Q : β → Prop) (sl0 : List Sl) :
    ∀ (xs : List α) (acc : List D) (cs : List Ce) (s : Sl), (∀ n a cs, a ∈ xs → I (n+1) cs → ∃ y cs', elt ⟨sl0.set j (.val (inp a)), cs⟩ = .ok (out a y) ⟨sl0.set j (.val (inp a)), cs'⟩ ∧ I n cs' ∧ Q y) → acc.length + xs.length ≤ 16777216 → I xs.length cs →
      ∃ (ps : List (α × β)) (cs' : List Ce) (s' : Sl), compG [j] (.v j) (ret true) elt (xs.map inp) acc ⟨sl0.set j s, cs⟩ = .ok (acc ++ ps.map fun p => out p.1 p.2) ⟨sl0.set j s', cs'⟩ ∧ I 0 cs' ∧ ps.map Prod.fst = xs ∧ ∀ p ∈ ps, Q p.2
  | [], acc, cs, s, _, _, h => ⟨[], cs, s, by simp [compG], h, rfl, fun _ q => by cases q⟩
  | d :: r, acc, cs, s, step, hl, h => by
    simp only [List.length_cons] at hl
    obtain ⟨y, cs1, h1, h2, h3⟩ := step r.length d cs List.mem_cons_self h
    obtain ⟨ys, cs2, s2, q1, q2, q3, q4⟩ := compG_fa I inp out Q sl0 r (acc ++ [out d y]) cs1 (.val (inp d)) (fun n a cs ha => step n a cs (List.mem_cons_of_mem _ ha)) (by simp; omega) h2
    refine ⟨(d, y) :: ys, cs2, s2, ?_, q2, by simp [q3], fun z hz => ?_⟩
    · have e1 : (((sl0.set j s).set j .und).set j (.val (inp d))) = sl0.set j (.val (inp d)) := by rw [List.set_set, List.set_set]
      show bnd elt (fun y => req (decide (acc.length < SZ)) (compG [j] (.v j) (ret true) elt (r.map inp) (acc ++ [y]))) ⟨((sl0.set j s).set j .und).set j (.val (inp d)), cs⟩ = _
      have : decide (acc.length < SZ) = true := decide_eq_true (show acc.length < 16777216 by omega)
      rw [e1, bnd_at h1, this, req_t, q1]
      simp
    · rcases List.mem_cons.mp hz with e | e
      · subst e; exact h3
      · exact q4 z e
theorem comp_fa {cal : Nat → Fn} {it : CI} {elt : CE} {e : En} {α β : Type} {j : Nat} {sl0 : List Sl} {cs : List Ce} (I : Nat → List Ce → Prop) (xs : List α) (inp : α → D) (out : α → β → D) (Q : β → Prop) (s0 : Sl) (hs : sl0 = sl0.set j s0) (hi : evI cal it e = .ok (xs.map inp) ⟨sl0, cs⟩) (h1 : I xs.length cs)
    (step : ∀ n a cs, a ∈ xs → I (n+1) cs → ∃ y cs', bnd (ev cal elt) dOf ⟨sl0.set j (.val (inp a)), cs⟩ = .ok (out a y) ⟨sl0.set j (.val (inp a)), cs'⟩ ∧ I n cs' ∧ Q y) (hl : xs.length ≤ 16777216) :
    ∃ (ps : List (α × β)) (cs' : List Ce), ev cal (.comp 0 [j] (.v j) it none elt) e = .ok (.val (.lst (ps.map fun p => out p.1 p.2))) ⟨sl0, cs'⟩ ∧ I 0 cs' ∧ ps.map Prod.fst = xs ∧ ∀ p ∈ ps, Q p.2 := by
  obtain ⟨ys, cs', s', q1, q2, q3, q4⟩ := compG_fa I inp out Q sl0 xs [] cs s0 step (by simpa using hl) h1
  refine ⟨ys, cs', ?_, q2, q3, q4⟩
  show bnd (evI cal it) (fun xs => bnd (blockM (compG [j] (.v j) (evC cal none) (bnd (ev cal elt) dOf) xs [])) fun l => newL 0 l) e = _
  rw [bnd_at hi]
  have : blockM (compG [j] (.v j) (evC cal none) (bnd (ev cal elt) dOf) (xs.map inp) []) ⟨sl0, cs⟩ = .ok (ys.map fun p => out p.1 p.2) ⟨sl0, cs'⟩ := by
    rw [← hs] at q1
    have ec : evC cal none = ret true := id rfl
    rw [ec]
    unfold blockM
    rw [q1]; rfl
  rw [bnd_at this]; rfl
/-! names -/
def nameV (a t f k : Nat) : List Nat := List.replicate a 113 ++ [97 + (f + 7 * k) % 26] ++ List.replicate (min (k * 3 % 5) t) 122
def namesV (a t f m : Nat) : List (List Nat) := (List.range m).map (nameV a t f)
/-- names that are names -/
structure NmOk (ns : List (List Nat)) : Prop where
  low : ∀ x ∈ ns, lowT x
  pos : ∀ x ∈ ns, x ≠ []
  no : ∀ x ∈ ns, x ≠ sRows ∧ x ≠ sCols ∧ x ≠ sBlank
  nd : ns.Nodup
theorem NmOk.sub {ns ms : List (List Nat)} (h : NmOk ns) (s : ms.Sublist ns) : NmOk ms := ⟨fun x hx => h.low x (s.subset hx), fun x hx => h.pos x (s.subset hx), fun x hx => h.no x (s.subset hx), h.nd.sublist s⟩
theorem namesV_ok {a t f m : Nat} (ha : a ≤ 3) (ht : t ≤ 4) (hf : f < 26) (hm : m ≤ 26) : NmOk (namesV a t f m) := by
  have mem : ∀ x ∈ namesV a t f m, ∃ k, k < m ∧ x = nameV a t f k := fun x hx => by
    obtain ⟨k, hk, rfl⟩ := List.mem_map.mp hx
    exact ⟨k, List.mem_range.mp hk, rfl⟩
  refine ⟨fun x hx => ?_, fun x hx => ?_, fun x hx => ?_, ?_⟩
  · obtain ⟨k, _, rfl⟩ := mem x hx
    refine ⟨by simp [nameV]; omega, fun c hc => ?_⟩
    simp only [nameV, List.append_assoc, List.mem_append, List.mem_singleton, List.mem_replicate] at hc
    omega
  · obtain ⟨k, _, rfl⟩ := mem x hx
    simp [nameV]
  · obtain ⟨k, _, rfl⟩ := mem x hx
    have h1 : ∀ w : List Nat, nameV a t f k = w → w.length = a + 1 + min (k * 3 % 5) t ∧ (∀ i, i < a → w.getD i 0 = 113) ∧ ∀ i, a < i → i < w.length → w.getD i 0 = 122 := fun w e => by
      subst e
      refine ⟨by simp [nameV]; omega, fun i hi => ?_, fun i hi hl => ?_⟩
      · simp [nameV, List.getD_eq_getElem?_getD, List.getElem?_append, hi, List.getElem?_replicate]
      · obtain ⟨j, rfl⟩ : ∃ j, i = a + 1 + j := ⟨i - a - 1, by omega⟩
        have hj : j < min (k * 3 % 5) t := by simp [nameV] at hl; omega
        unfold nameV
        rw [List.getD_eq_getElem?_getD, List.getElem?_append_right (by simp), List.getElem?_replicate, if_pos (by simp; omega)]
        rfl
    refine ⟨fun e => ?_, fun e => ?_, fun e => ?_⟩
    · obtain ⟨l, p, q⟩ := h1 _ e
      have l : (4 : Nat) = a + 1 + min (k * 3 % 5) t := l
      by_cases c : 0 < a
      · have := p 0 c; simp at this
      · have := q 1 (by omega) (by decide); simp at this
    · obtain ⟨l, p, q⟩ := h1 _ e
      have l : (7 : Nat) = a + 1 + min (k * 3 % 5) t := l
      by_cases c : 0 < a
      · have := p 0 c; simp at this
      · have := q 1 (by omega) (by decide); simp at this
    · obtain ⟨l, p, q⟩ := h1 _ e
      have l : (5 : Nat) = a + 1 + min (k * 3 % 5) t := l
      by_cases c : 0 < a
      · have := p 0 c; simp at this
      · have := q 1 (by omega) (by decide); simp at this
  · have u := (unlike_of 7 (by simp) f hf).sublist (List.Sublist.map (fun k => (f + 7 * k) % 26) (List.range_sublist.mpr hm))
    have e : namesV a t f m = (List.range m).map (nameV a t f) := rfl
    rw [e]
    have u2 : (List.range m).Pairwise fun j k => (f + 7 * j) % 26 ≠ (f + 7 * k) % 26 := List.pairwise_map.mp u
    refine List.pairwise_map.mpr (u2.imp fun {j k} h he => h ?_)
    have g : ∀ k, (nameV a t f k).getD a 0 = 97 + (f + 7 * k) % 26 := fun k => by
      simp [nameV, List.getD_eq_getElem?_getD, List.getElem?_append]
    have := g j
    rw [he, g k] at this
    omega
section
variable {P : Nat → CDef}
theorem l_namesV_sp [K_l_names P] (k : Nat) (m : Nat) (hm : m ≤ 26) : Pd (calF P (k+2) 63) [.val (.int (m : Nat))] 3 (fun r => ∃ ns, r = .lst (ns.map D.str) ∧ ns.length = m ∧ NmOk ns) := ⟨rfl, fun n c p hn => by
  obtain ⟨i1, c1, d1, p1, l1, u1⟩ := drw (P := P) k n 26 (by omega) (by omega) p (by omega)
  obtain ⟨i2, c2, d2, p2, l2, u2⟩ := drw (P := P) k _ 4 (by omega) (by omega) p1 (by omega)
  obtain ⟨i3, c3, d3, p3, l3, u3⟩ := drw (P := P) k _ 5 (by omega) (by omega) p2 (by omega)
  obtain ⟨f, rfl⟩ : ∃ f : Nat, i1 = f := ⟨i1.toNat, by omega⟩
  obtain ⟨a, rfl⟩ : ∃ f : Nat, i2 = f := ⟨i2.toNat, by omega⟩
  obtain ⟨t, rfl⟩ : ∃ f : Nat, i3 = f := ⟨i3.toNat, by omega⟩
  have hA : cutL ([113, 113, 113] : List Nat) none (some (a : Int)) = List.replicate a 113 := by
    have : a = 0 ∨ a = 1 ∨ a = 2 ∨ a = 3 := by omega
    rcases this with rfl | rfl | rfl | rfl <;> rfl
  have hT : cutL ([122, 122, 122, 122] : List Nat) none (some (t : Int)) = List.replicate t 122 := by
    have : t = 0 ∨ t = 1 ∨ t = 2 ∨ t = 3 ∨ t = 4 := by omega
    rcases this with rfl | rfl | rfl | rfl | rfl <;> rfl
  have lA : (List.replicate a 113).length = a := List.length_replicate
  have lT : (List.replicate t 122).length = t := List.length_replicate
  have co := comp1 (cal := calF P (k+1)) (j := 5) (it := .rng1 (.var 1)) (elt := x1_l_names) (xs := rangeL 0 m) (e := ⟨[.cel 0, .val (.int (m : Nat)), .val (.int (f : Nat)), .val (.str (List.replicate a 113)), .val (.str (List.replicate t 122)), .und], [c3]⟩) (e1 := ⟨[.cel 0, .val (.int (m : Nat)), .val (.int (f : Nat)), .val (.str (List.replicate a 113)), .val (.str (List.replicate t 122)), .und], [c3]⟩) (fun d => match d with | .int i => .str (nameV a t f i.toNat) | d => d) (by
      have rg : rngOk (m : Int) = true := by unfold rngOk; simp; omega
      simp [rg]) (fun d hd => by
      obtain ⟨i, hi, rfl⟩ := range_mem hd
      have e0 : (0 : Int) + (i : Nat) = ((i : Nat) : Int) := by omega
      rw [e0]
      have hx : atP sLtr (((f : Int) + 7 * (i : Int)) % 26) = some (97 + (f + 7 * i) % 26) := by
        have e5 : (f : Int) + 7 * (i : Int) = ((f + 7 * i : Nat) : Int) := by push_cast; rfl
        rw [e5, ltr_at (by omega) (by omega)]
        exact congrArg (fun z => some (97 + z)) (by omega)
      have hC : cutL (List.replicate t 122) none (some ((i : Int) * 3 % 5)) = List.replicate (min (i * 3 % 5) t) 122 := by
        unfold cutL
        have e6 : (i : Int) * 3 % 5 = ((i * 3 % 5 : Nat) : Int) := by push_cast; rfl
        rw [e6, ixB_nat, show ixB (List.replicate t 122).length 0 none = 0 from rfl, lT, List.drop_zero, Nat.sub_zero, List.take_replicate]
        congr 1
        omega
      have lC : (List.replicate (min (i * 3 % 5) t) 122).length = min (i * 3 % 5) t := List.length_replicate
      simp only [sLtr] at hx
      have z1 : small64 (7 : Int) = true := by decide
      have z2 : small64 (3 : Int) = true := by decide
      have e7 : nameV a t f i = List.replicate a 113 ++ [97 + (f + 7 * i) % 26] ++ List.replicate (min (i * 3 % 5) t) 122 := rfl
      show _ = Out.ok (D.str (nameV a t f i)) _
      rw [e7]
      generalize List.replicate a 113 = A at *
      generalize List.replicate t 122 = T at *
      generalize List.replicate (min (i * 3 % 5) t) 122 = C at *
      generalize (f + 7 * i) % 26 = x at *
      have b1 : A.length + 1 ≤ 16777216 := by omega
      have b1' : A.length ≤ 16777215 := by omega
      have b2 : A.length + 1 + C.length ≤ 16777216 := by omega
      have b3 : T.length ≤ 16777216 := by omega
      rw [x1_l_names]
      simp [z1, z2, hx, hC, b1, b1', b2, b3]) (by simp [rangeL]; omega)
  have ce : (rangeL 0 m).map (fun d => match d with | .int i => .str (nameV a t f i.toNat) | d => d) = (namesV a t f m).map D.str := by
    unfold namesV rangeL
    rw [List.map_map, List.map_map]
    refine List.map_congr_left fun i _ => ?_
    simp
  rw [ce] at co
  refine ⟨.lst ((namesV a t f m).map D.str), c3, ?_, p3, _, rfl, by simp [namesV], namesV_ok (by omega) (by omega) (by omega) hm⟩
  have run : exs (calF P (k+1)) b_l_names ⟨[.cel 0, .val (.int (m : Nat)), .und, .und, .und, .und], [c]⟩ = .ok (.rtn (.val (.lst ((namesV a t f m).map D.str)))) ⟨[.cel 0, .val (.int (m : Nat)), .val (.int (f : Nat)), .val (.str (List.replicate a 113)), .val (.str (List.replicate t 122)), .und], [c3]⟩ := by
    generalize namesV a t f m = NS at *
    generalize List.replicate a 113 = A at *
    generalize List.replicate t 122 = T at *
    rw [b_l_names]
    refine exs_nx (e' := ⟨[.cel 0, .val (.int (m : Nat)), .val (.int (f : Nat)), .und, .und, .und], [c1]⟩) (by simp [d1]) ?_
    refine exs_nx (e' := ⟨[.cel 0, .val (.int (m : Nat)), .val (.int (f : Nat)), .val (.str A), .und, .und], [c2]⟩) (by simp [d2, hA]) ?_
    refine exs_nx (e' := ⟨[.cel 0, .val (.int (m : Nat)), .val (.int (f : Nat)), .val (.str A), .val (.str T), .und], [c3]⟩) (by simp [d3, hT]) ?_
    refine exs_rtn ?_
    rw [q1_l_names]
    simp [co]
  exact calF_run K_l_names.e_l_names run (exitC_1 p3.pure)⟩
theorem l_shareV_sp [K_l_share P] (k : Nat) : Pd (calF P (k+2) 99) [] 3 (fun r => ∃ i, r = .int i ∧ 1 ≤ i ∧ i ≤ 100) := ⟨rfl, fun n c p hn => by
  obtain ⟨i1, c1, d1, p1, l1, u1⟩ := drw (P := P) k n 9 (by omega) (by omega) p (by omega)
  obtain ⟨i2, c2, d2, p2, l2, u2⟩ := drw (P := P) k _ 100 (by omega) (by omega) p1 (by omega)
  obtain ⟨i3, c3, d3, p3, l3, u3⟩ := drw (P := P) k _ 5 (by omega) (by omega) p2 (by omega)
  obtain ⟨v, hv, hv1, hv2⟩ : ∃ v : Int, atP [D.int 1, .int 1, .int 2, .int (1 + i1), .int (1 + i2)] i3 = some (.int v) ∧ 1 ≤ v ∧ v ≤ 100 := by
    have : i3 = 0 ∨ i3 = 1 ∨ i3 = 2 ∨ i3 = 3 ∨ i3 = 4 := by omega
    rcases this with rfl | rfl | rfl | rfl | rfl
    · exact ⟨1, rfl, by omega, by omega⟩
    · exact ⟨1, rfl, by omega, by omega⟩
    · exact ⟨2, rfl, by omega, by omega⟩
    · exact ⟨1 + i1, rfl, by omega, by omega⟩
    · exact ⟨1 + i2, rfl, by omega, by omega⟩
  have hb : exs (calF P (k+1)) b_l_share ⟨[.cel 0], [c]⟩ = .ok (.rtn (.val (.int v))) ⟨[.cel 0], [c3]⟩ := by
    rw [b_l_share]
    refine exs_rtn ?_
    simp [d1, d2, d3, hv]
  exact ⟨_, c3, calF_run (K_l_share.e_l_share : P 99 = _) hb (exitC_1 p3.pure), p3.mono (by omega), v, rfl, hv1, hv2⟩⟩
end
end DL
/-! bands of bubbles, plainly -/
namespace DL
structure Bu where
  nm : List Nat
  bx : Bx4
  tip : D
  tx : D
def buD (b : Bu) : D := .tup [.str b.nm, b4D b.bx, b.tip, b.tx]
def tpB (b : Bu) : Int := b.bx.2.1
def enB (b : Bu) : Int := b.bx.2.1 + b.bx.2.2.2
def sdB (left : Bool) (b : Bu) : Int := if left then 0 - b.bx.1 - b.bx.2.2.1 else b.bx.1
/-! order by keys: two numbers, a name -/
abbrev Ky := Int × Int × List Nat
def kyD (k : Ky) : D := .tup [.int k.1, .int k.2.1, .str k.2.2]
def leY (a b : Ky) : Bool := leD (kyD a) (kyD b)
theorem strlt_tri (a b : List Nat) : a < b ∨ a = b ∨ b < a := by
  rcases List.le_total a b with h | h
  · by_cases c : a = b
    · exact .inr (.inl c)
    · by_cases d : a < b
      · exact .inl d
      · exact absurd (List.le_antisymm h (List.not_lt.mp d)) c
  · by_cases c : a = b
    · exact .inr (.inl c)
    · by_cases d : b < a
      · exact .inr (.inr d)
      · exact absurd (List.le_antisymm (List.not_lt.mp d) h) c
theorem eqDi (x y : Int) : eqD (.int x) (.int y) = decide (x = y) := by
  show (x == y) = _
  by_cases h : x = y <;> simp [h]
theorem leY_eq (a b : Ky) : leY a b = true ↔ a.1 < b.1 ∨ (a.1 = b.1 ∧ (a.2.1 < b.2.1 ∨ (a.2.1 = b.2.1 ∧ ¬ b.2.2 < a.2.2))) := by
  show (!(ltDs [.int b.1, .int b.2.1, .str b.2.2] [.int a.1, .int a.2.1, .str a.2.2])) = true ↔ _
  unfold ltDs
  rw [eqDi]
  by_cases h : b.1 = a.1
  · rw [h]
    simp only [decide_true, if_true]
    unfold ltDs
    rw [eqDi]
    by_cases h2 : b.2.1 = a.2.1
    · rw [h2]
      simp only [decide_true, if_true]
      unfold ltDs
      have es : eqD (.str b.2.2) (.str a.2.2) = decide (b.2.2 = a.2.2) := by
        show (b.2.2 == a.2.2) = _
        by_cases h : b.2.2 = a.2.2 <;> simp [h]
      rw [es]
      by_cases h3 : b.2.2 = a.2.2
      · rw [h3]
        simp [ltDs]
      · rw [decide_eq_false h3]
        simp [ltD]
    · rw [decide_eq_false h2]
      simp [ltD]
      omega
  · rw [decide_eq_false h]
    simp [ltD]
    omega
theorem leY_trans (a b c : Ky) (h1 : leY a b = true) (h2 : leY b c = true) : leY a c = true := by
  rw [leY_eq] at *
  rcases h1 with h1 | ⟨h1, h1'⟩
  · rcases h2 with h2 | ⟨h2, _⟩ <;> exact .inl (by omega)
  · rcases h2 with h2 | ⟨h2, h2'⟩
    · exact .inl (by omega)
    · refine .inr ⟨by omega, ?_⟩
      rcases h1' with h1' | ⟨h1', n1⟩
      · rcases h2' with h2' | ⟨h2', _⟩ <;> exact .inl (by omega)
      · rcases h2' with h2' | ⟨h2', n2⟩
        · exact .inl (by omega)
        · exact .inr ⟨by omega, List.not_lt.mpr (List.le_trans (List.not_lt.mp n1) (List.not_lt.mp n2))⟩
theorem leY_total (a b : Ky) : (leY a b || leY b a) = true := by
  rw [Bool.or_eq_true, leY_eq, leY_eq]
  rcases Int.lt_trichotomy a.1 b.1 with h | h | h
  · exact .inl (.inl h)
  · rcases Int.lt_trichotomy a.2.1 b.2.1 with h2 | h2 | h2
    · exact .inl (.inr ⟨h, .inl h2⟩)
    · rcases strlt_tri a.2.2 b.2.2 with h3 | h3 | h3
      · exact .inl (.inr ⟨h, .inr ⟨h2, List.lt_asymm h3⟩⟩)
      · exact .inl (.inr ⟨h, .inr ⟨h2, by rw [h3]; exact List.lt_irrefl _⟩⟩)
      · exact .inr (.inr ⟨h.symm, .inr ⟨h2.symm, List.lt_asymm h3⟩⟩)
    · exact .inr (.inr ⟨h.symm, .inl h2⟩)
  · exact .inr (.inl h)
theorem leY_anti {a b : Ky} (h1 : leY a b = true) (h2 : leY b a = true) : a.2.2 = b.2.2 := by
  rw [leY_eq] at *
  rcases h1 with h1 | ⟨h1, h1'⟩
  · omega
  · rcases h1' with h1' | ⟨h1', n1⟩
    · omega
    · rcases h2 with h2 | ⟨h2, h2'⟩
      · omega
      · rcases h2' with h2' | ⟨h2', n2⟩
        · omega
        · rcases strlt_tri a.2.2 b.2.2 with h3 | h3 | h3
          · exact absurd h3 n2
          · exact h3
          · exact absurd h3 n1
/-- by a key that has the name -/
structure KyOk (f : Bu → Ky) : Prop where
  nm : ∀ b, (f b).2.2 = b.nm
def srtK (f : Bu → Ky) (l : List Bu) : List Bu := l.mergeSort fun a b => leY (f a) (f b)
theorem srtK_perm (f : Bu → Ky) (l : List Bu) : (srtK f l).Perm l := List.mergeSort_perm _ _
theorem srtK_pw (f : Bu → Ky) (l : List Bu) : (srtK f l).Pairwise fun a b => leY (f a) (f b) = true := List.pairwise_mergeSort (fun a b c => leY_trans (f a) (f b) (f c)) (fun a b => leY_total (f a) (f b)) l
theorem nm_inj {l : List Bu} (h : (l.map Bu.nm).Nodup) {a b : Bu} (ha : a ∈ l) (hb : b ∈ l) (e : a.nm = b.nm) : a = b := by
  induction l with
  | nil => cases ha
  | cons x r ih =>
    have h' := List.nodup_cons.mp (show (x.nm :: r.map Bu.nm).Nodup from h)
    rcases List.mem_cons.mp ha with ea | ha2
    · rcases List.mem_cons.mp hb with eb | hb2
      · rw [ea, eb]
      · exact absurd (List.mem_map.mpr ⟨b, hb2, by rw [← e, ea]⟩) h'.1
    · rcases List.mem_cons.mp hb with eb | hb2
      · exact absurd (List.mem_map.mpr ⟨a, ha2, by rw [e, eb]⟩) h'.1
      · exact ih h'.2 ha2 hb2
theorem srtK_uniq {f : Bu → Ky} (kf : KyOk f) {l m : List Bu} (p : l.Perm m) (nd : (l.map Bu.nm).Nodup) : srtK f l = srtK f m := by
  have p2 : (srtK f l).Perm (srtK f m) := ((srtK_perm f l).trans p).trans (srtK_perm f m).symm
  refine List.Perm.eq_of_pairwise (le := fun a b => leY (f a) (f b) = true) (fun a b ha hb h1 h2 => ?_) (srtK_pw f l) (srtK_pw f m) p2
  have e := leY_anti h1 h2
  rw [kf.nm, kf.nm] at e
  exact nm_inj nd ((srtK_perm f l).mem_iff.mp ha) (p.mem_iff.mpr ((srtK_perm f m).mem_iff.mp hb)) e
/-! bands -/
def spnU : Int → List Bu → List Bu × List Bu
  | _, [] => ([], [])
  | e, x :: r => if tpB x < e then (x :: (spnU (max e (enB x)) r).1, (spnU (max e (enB x)) r).2) else ([], x :: r)
theorem span_app : ∀ (l : List Bu) (e : Int), (spnU e l).1 ++ (spnU e l).2 = l
  | [], e => rfl
  | x :: r, e => by
    unfold spnU
    split
    · show x :: ((spnU (max e (enB x)) r).1 ++ (spnU (max e (enB x)) r).2) = _
      rw [span_app r]
    · rfl
theorem span_len (l : List Bu) (e : Int) : (spnU e l).2.length ≤ l.length := by
  have := congrArg List.length (span_app l e)
  rw [List.length_append] at this
  omega
/-- tops rise -/
def Ris (l : List Bu) : Prop := l.Pairwise fun a b => tpB a ≤ tpB b
theorem span_off : ∀ {l : List Bu} {e : Int}, Ris l → ∀ q ∈ (spnU e l).2, e ≤ tpB q ∧ ∀ p ∈ (spnU e l).1, enB p ≤ tpB q
  | [], e, _, q, h => by cases h
  | x :: r, e, hr, q, h => by
    have hr' := List.pairwise_cons.mp hr
    unfold spnU at h ⊢
    split at h
    · rename_i c
      rw [if_pos c]
      have ih := span_off hr'.2 q h
      refine ⟨by omega, fun p hp => ?_⟩
      rcases List.mem_cons.mp hp with rfl | hp
      · omega
      · exact ih.2 p hp
    · rename_i c
      rw [if_neg c]
      refine ⟨?_, fun p hp => by cases hp⟩
      rcases List.mem_cons.mp h with rfl | h
      · omega
      · have := hr'.1 q h
        omega
/-- nothing within parts it -/
theorem span_in : ∀ {l P Q : List Bu} {e : Int}, (spnU e l).1 = P ++ Q → Q ≠ [] → ∃ q ∈ Q, tpB q < e ∨ ∃ p ∈ P, tpB q < enB p
  | [], P, Q, e, h, hq => by
    have h : [] = P ++ Q := h
    exact absurd (List.append_eq_nil_iff.mp h.symm).2 hq
  | x :: r, P, Q, e, h, hq => by
    unfold spnU at h
    split at h
    · rename_i c
      cases P with
      | nil =>
        have h : x :: (spnU (max e (enB x)) r).1 = Q := h
        exact ⟨x, by rw [← h]; exact List.mem_cons_self, .inl c⟩
      | cons p P =>
        have h : x :: (spnU (max e (enB x)) r).1 = p :: (P ++ Q) := h
        injection h with h1 h2
        obtain ⟨q, hq1, hq2⟩ := span_in h2 hq
        refine ⟨q, hq1, ?_⟩
        rcases hq2 with z | ⟨y, hy, z⟩
        · by_cases d : tpB q < e
          · exact .inl d
          · exact .inr ⟨p, List.mem_cons_self, by rw [← h1]; omega⟩
        · exact .inr ⟨y, List.mem_cons_of_mem _ hy, z⟩
    · have h : [] = P ++ Q := h
      exact absurd (List.append_eq_nil_iff.mp h.symm).2 hq
def bandsN : Nat → List Bu → List (List Bu)
  | 0, _ => []
  | _ + 1, [] => []
  | n + 1, x :: r => (x :: (spnU (enB x) r).1) :: bandsN n (spnU (enB x) r).2
/-- of two in other orders the first bands have the same ones -/
theorem first_perm {x y : Bu} {r t : List Bu} (p : (x :: r).Perm (y :: t)) (h1 : Ris (x :: r)) (h2 : Ris (y :: t)) (hh : ∀ b ∈ x :: r, tpB b < enB b) (nd : ((x :: r).map Bu.nm).Nodup) :
    (x :: (spnU (enB x) r).1).Perm (y :: (spnU (enB y) t).1) ∧ (spnU (enB x) r).2.Perm (spnU (enB y) t).2 := by
  -- the first band of the one lies within the first band of the other
  have key : ∀ {x y : Bu} {r t : List Bu}, (x :: r).Perm (y :: t) → Ris (x :: r) → Ris (y :: t) → (∀ b ∈ x :: r, tpB b < enB b) → ∀ b ∈ x :: (spnU (enB x) r).1, b ∈ y :: (spnU (enB y) t).1 := by
    intro x y r t p h1 h2 hh
    have a1 := span_app r (enB x)
    have a2 := span_app t (enB y)
    have o2 := span_off (e := enB y) (List.pairwise_cons.mp h2).2
    have yle : ∀ b ∈ y :: t, tpB y ≤ tpB b := fun b hb => by
      rcases List.mem_cons.mp hb with rfl | hb
      · exact Int.le_refl _
      · exact (List.pairwise_cons.mp h2).1 b hb
    have xle : ∀ b ∈ x :: r, tpB x ≤ tpB b := fun b hb => by
      rcases List.mem_cons.mp hb with rfl | hb
      · exact Int.le_refl _
      · exact (List.pairwise_cons.mp h1).1 b hb
    -- who is behind y's band begins below all of it
    have far : ∀ q, q ∈ (spnU (enB y) t).2 → ∀ b ∈ y :: (spnU (enB y) t).1, enB b ≤ tpB q := fun q hq b hb => by
      have := o2 q hq
      rcases List.mem_cons.mp hb with rfl | hb
      · exact this.1
      · exact this.2 b hb
    -- by how far the band of x agrees
    have go : ∀ (P Q : List Bu), x :: (spnU (enB x) r).1 = P ++ Q → P ≠ [] → (∀ b ∈ P, b ∈ y :: (spnU (enB y) t).1) → ∀ b ∈ Q, b ∈ y :: (spnU (enB y) t).1 := by
      intro P Q
      induction Q generalizing P with
      | nil => intro _ _ _ b hb; cases hb
      | cons q Q ih =>
        intro e hP hin b hb
        have hq : q ∈ y :: (spnU (enB y) t).1 := by
          cases P with
          | nil => exact absurd rfl hP
          | cons p P =>
            injection e with e1 e2
            subst e1
            have hqx : q ∈ x :: r := List.mem_cons_of_mem _ (by rw [← a1, e2]; simp)
            have hqy : q ∈ y :: t := p.mem_iff.mp hqx
            have : q ∈ (y :: (spnU (enB y) t).1) ++ (spnU (enB y) t).2 := by rw [List.cons_append, a2]; exact hqy
            rcases List.mem_append.mp this with z | z
            · exact z
            · exfalso
              -- everything from q on is behind, as tops rise
              have e3 : (spnU (enB x) r).1 = P ++ (q :: Q) := e2
              obtain ⟨q', hq', hz⟩ := span_in e3 (by simp)
              have rq : tpB q ≤ tpB q' := by
                have pw : Ris ((P ++ (q :: Q)) ++ (spnU (enB x) r).2) := by
                  rw [← e3, a1]; exact (List.pairwise_cons.mp h1).2
                have pw2 := (List.pairwise_append.mp (List.pairwise_append.mp pw).1).2.1
                rcases List.mem_cons.mp hq' with rfl | hq'
                · exact Int.le_refl _
                · exact (List.pairwise_cons.mp pw2).1 q' hq'
              rcases hz with hz | ⟨p2, hp2, hz⟩
              · have := far q z x (hin x List.mem_cons_self)
                omega
              · have := far q z p2 (hin p2 (List.mem_cons_of_mem _ hp2))
                omega
        rcases List.mem_cons.mp hb with rfl | hb
        · exact hq
        · refine ih (P ++ [q]) (by rw [e]; simp) (by simp) (fun c hc => ?_) b hb
          rcases List.mem_append.mp hc with z | z
          · exact hin c z
          · rw [List.mem_singleton.mp z]; exact hq
    have hx : x ∈ y :: (spnU (enB y) t).1 := by
      have : x ∈ (y :: (spnU (enB y) t).1) ++ (spnU (enB y) t).2 := by rw [List.cons_append, a2]; exact p.mem_iff.mp List.mem_cons_self
      rcases List.mem_append.mp this with z | z
      · exact z
      · exfalso
        have h3 := far x z y List.mem_cons_self
        have h4 := xle y (p.mem_iff.mpr List.mem_cons_self)
        have h5 := hh y (p.mem_iff.mpr List.mem_cons_self)
        omega
    intro b hb
    rcases List.mem_cons.mp hb with rfl | hb
    · exact hx
    · exact go [x] (spnU (enB x) r).1 rfl (by simp) (fun c hc => by rw [List.mem_singleton.mp hc]; exact hx) b hb
  have k1 := key p h1 h2 hh
  have k2 := key p.symm h2 h1 fun b hb => hh b (p.mem_iff.mpr hb)
  have a1 := span_app r (enB x)
  have a2 := span_app t (enB y)
  have ndl : ∀ {l : List Bu}, (l.map Bu.nm).Nodup → l.Nodup := fun {l} h => List.Pairwise.of_map Bu.nm (fun a b hab e => hab (by rw [e])) h
  have n1 : (x :: r).Nodup := ndl nd
  have n2 : (y :: t).Nodup := p.nodup_iff.mp n1
  have s1 : (x :: (spnU (enB x) r).1).Sublist (x :: r) := by
    refine List.Sublist.cons₂ x ?_
    have := List.sublist_append_left (spnU (enB x) r).1 (spnU (enB x) r).2
    rw [a1] at this
    exact this
  have s2 : (y :: (spnU (enB y) t).1).Sublist (y :: t) := by
    refine List.Sublist.cons₂ y ?_
    have := List.sublist_append_left (spnU (enB y) t).1 (spnU (enB y) t).2
    rw [a2] at this
    exact this
  have pa : (x :: (spnU (enB x) r).1).Perm (y :: (spnU (enB y) t).1) := (List.perm_ext_iff_of_nodup (n1.sublist s1) (n2.sublist s2)).mpr fun a => ⟨k1 a, k2 a⟩
  refine ⟨pa, ?_⟩
  have p2 : ((x :: (spnU (enB x) r).1) ++ (spnU (enB x) r).2).Perm ((y :: (spnU (enB y) t).1) ++ (spnU (enB y) t).2) := by
    rw [List.cons_append, a1, List.cons_append, a2]; exact p
  exact (List.perm_append_left_iff _).mp ((pa.symm.append_right _).trans p2)
/-- bands, each in order, hang on no order -/
theorem bands_perm {f : Bu → Ky} (kf : KyOk f) : ∀ (n : Nat) {S T : List Bu}, S.Perm T → Ris S → Ris T → (∀ b ∈ S, tpB b < enB b) → (S.map Bu.nm).Nodup → (bandsN n S).map (srtK f) = (bandsN n T).map (srtK f)
  | 0, S, T, _, _, _, _, _ => by rw [bandsN, bandsN]
  | n + 1, [], T, p, _, _, _, _ => by
    rw [p.nil_eq]
  | n + 1, x :: r, [], p, _, _, _, _ => by
    have := p.length_eq
    simp at this
  | n + 1, x :: r, y :: t, p, h1, h2, hh, nd => by
    obtain ⟨k1, k2⟩ := first_perm p h1 h2 hh nd
    have a1 := span_app r (enB x)
    have a2 := span_app t (enB y)
    have sb : (spnU (enB x) r).2.Sublist (x :: r) := by
      have := List.sublist_append_right (spnU (enB x) r).1 (spnU (enB x) r).2
      rw [a1] at this
      exact this.trans (List.sublist_cons_self x r)
    have sb2 : (spnU (enB y) t).2.Sublist (y :: t) := by
      have := List.sublist_append_right (spnU (enB y) t).1 (spnU (enB y) t).2
      rw [a2] at this
      exact this.trans (List.sublist_cons_self y t)
    have sa : (x :: (spnU (enB x) r).1).Sublist (x :: r) := by
      refine List.Sublist.cons₂ x ?_
      have := List.sublist_append_left (spnU (enB x) r).1 (spnU (enB x) r).2
      rw [a1] at this
      exact this
    rw [bandsN, bandsN, List.map_cons, List.map_cons, srtK_uniq kf k1 (nd.sublist (sa.map _)), bands_perm kf n k2 (h1.sublist sb) (h2.sublist sb2) (fun b hb => hh b (sb.subset hb)) (nd.sublist (sb.map _))]
/-- the order of bands -/
def rkK (left : Bool) (b : Bu) : Ky := (sdB left b, tpB b, b.nm)
theorem rkK_ok (left : Bool) : KyOk (rkK left) := ⟨fun _ => rfl⟩
def ordB (left : Bool) (n : Nat) (S : List Bu) : List Bu := ((bandsN n S).map (srtK (rkK left))).flatten
end DL
/-! walks over a list that lives on -/
namespace DL
theorem chk_at {α : Type} {c : Option Nat × List D} {a : α} {e : En} (h : ∀ k, c.1 = some k → e.cs[k]? = some (.lst c.2)) : chk c a e = .ok a e := by
  obtain ⟨c1, c2⟩ := c
  cases c1 with
  | none => rfl
  | some k =>
    unfold chk
    simp only
    rw [if_pos (h k rfl)]
theorem livM_c {k : Nat} {e : En} {xs : List D} (h : e.cs[k]? = some (.lst xs)) : livM (.cel k) e = .ok (some k, xs) e := by
  show (match e.cs[k]? with | some (.lst xs) => Out.ok (some k, xs) e | _ => .stuck) = _
  rw [h]
theorem livM_v (xs : List D) : livM (.val (.lst xs)) = ret (none, xs) := rfl
section
variable {cal : Nat → Fn} {a elt : CE} {xs : List D} {e e1 : En} {o : Option Nat}
theorem compC_all0 {vs : List Nat} {tg : Tg} (I : En → Prop) (f : D → D) (hI : ∀ e, I e → e.cs = e1.cs) (h1 : I e1) (hi : bnd (ev cal a) livM e = .ok (o, xs) e1) (hk : ∀ k, o = some k → e1.cs[k]? = some (.lst xs))
    (step : ∀ d ∈ xs, ∀ e, I e → ∃ e2, bnd (wipS vs) (fun _ => bindT tg d) e = .ok () e2 ∧ I e2 ∧ bnd (ev cal elt) dOf e2 = .ok (f d) e2) (hl : xs.length ≤ 16777216) :
    ev cal (.compC 0 vs tg a none elt) e = .ok (.val (.lst (xs.map f))) e1 := by
  have hc : ∀ {α : Type} (b : α) e2, I e2 → chk (o, xs) b e2 = .ok b e2 := fun b e2 h => chk_at (fun k z => by rw [hI e2 h]; exact hk k z)
  obtain ⟨e', q1, q2⟩ := compG_fil (vs := vs) (tg := tg) (cond := bnd (evC cal none) (chk (o, xs))) (elt := bnd (bnd (ev cal elt) dOf) (chk (o, xs))) I (fun _ => true) f xs [] e1 (fun d hd e he => by
    obtain ⟨e2, k1, k2, k4⟩ := step d hd e he
    refine ⟨e2, e2, k1, ?_, fun _ => k2, fun hp => ⟨e2, ?_, k2⟩⟩
    · exact hc true e2 k2
    · rw [bnd_at k4]; exact hc _ e2 k2) (by simpa using hl) h1
  show bnd (bnd (ev cal a) livM) (fun c => compCM 0 vs tg (evC cal none) (ev cal elt) c) e = _
  rw [bnd_at hi]
  show bnd (chk (o, xs) ()) (fun _ => bnd (blockM (compG vs tg (bnd (evC cal none) (chk (o, xs))) (bnd (bnd (ev cal elt) dOf) (chk (o, xs))) xs [])) fun l => newL 0 l) e1 = _
  rw [bnd_at (hc () e1 h1)]
  have : blockM (compG vs tg (bnd (evC cal none) (chk (o, xs))) (bnd (bnd (ev cal elt) dOf) (chk (o, xs))) xs []) e1 = .ok (xs.map f) e1 := by
    unfold blockM; rw [q1]
    show Out.ok ([] ++ _) ⟨e1.sl, e'.cs⟩ = _
    rw [hI e' q2, List.filter_eq_self.mpr fun _ _ => rfl]; rfl
  rw [bnd_at this]; rfl
theorem compC1 {j : Nat} (f : D → D) (hi : bnd (ev cal a) livM e = .ok (o, xs) e1) (hk : ∀ k, o = some k → e1.cs[k]? = some (.lst xs)) (step : ∀ d ∈ xs, bnd (ev cal elt) dOf ⟨e1.sl.set j (.val d), e1.cs⟩ = .ok (f d) ⟨e1.sl.set j (.val d), e1.cs⟩) (hl : xs.length ≤ 16777216) :
    ev cal (.compC 0 [j] (.v j) a none elt) e = .ok (.val (.lst (xs.map f))) e1 :=
  compC_all0 (fun e => e.cs = e1.cs ∧ ∀ s, e.sl.set j s = e1.sl.set j s) f (fun e h => h.1) ⟨rfl, fun _ => rfl⟩ hi hk (fun d hd e he => by
    refine ⟨⟨e1.sl.set j (.val d), e1.cs⟩, ?_, ⟨rfl, fun s => by simp⟩, step d hd⟩
    show Out.ok () ⟨(e.sl.set j .und).set j (.val d), e.cs⟩ = _
    rw [he.1, List.set_set, he.2]) hl
theorem ex_forC_at {tg : Tg} {b : List CS} {R : Out Fl} (hi : bnd (ev cal a) livM e = .ok (o, xs) e1) (hk : ∀ k, o = some k → e1.cs[k]? = some (.lst xs)) (h : forD tg (bnd (exs cal b) (chk (o, xs))) xs e1 = R) : ex cal (.forC tg a b) e = R := by
  show bnd (bnd (ev cal a) livM) (fun c => bnd (chk c ()) fun _ => forD tg (bnd (exs cal b) (chk c)) c.2) e = _
  rw [bnd_at hi]
  show bnd (chk (o, xs) ()) (fun _ => forD tg (bnd (exs cal b) (chk (o, xs))) xs) e1 = _
  rw [bnd_at (chk_at hk)]; exact h
/-- a turn of it -/
theorem chk_turn {b : List CS} {e2 : En} {fl : Fl} (h : exs cal b e = .ok fl e2) (hk : ∀ k, o = some k → e2.cs[k]? = some (.lst xs)) : bnd (exs cal b) (chk (o, xs)) e = .ok fl e2 := by
  rw [bnd_at h]; exact chk_at hk
/-- a cell's walk -/
theorem liv_var {i k : Nat} {sl : List Sl} {cs : List Ce} (h1 : sl[i]? = some (.cel k)) (h2 : cs[k]? = some (.lst xs)) : bnd (ev cal (.var i)) livM ⟨sl, cs⟩ = .ok (some k, xs) ⟨sl, cs⟩ := by
  have : ev cal (.var i) ⟨sl, cs⟩ = .ok (.cel k) ⟨sl, cs⟩ := by simp [h1]
  rw [bnd_at this]
  exact livM_c h2
theorem liv_val {i : Nat} {sl : List Sl} {cs : List Ce} (h1 : sl[i]? = some (.val (.lst xs))) : bnd (ev cal (.var i)) livM ⟨sl, cs⟩ = .ok (none, xs) ⟨sl, cs⟩ := by
  have : ev cal (.var i) ⟨sl, cs⟩ = .ok (.val (.lst xs)) ⟨sl, cs⟩ := by simp [h1]
  rw [bnd_at this]
  rfl
end
/-- a def of data that tells a new list -/
abbrev PuC (fn : Fn) (args : List Sl) (xs : List D) : Prop := ∀ sl cs, callM fn args ⟨sl, cs⟩ = .ok (.cel cs.length) ⟨sl, cs ++ [.lst xs]⟩
theorem calF_runC {P : Nat → CDef} {k f n np j : Nat} {body : List CS} {args sl : List Sl} {xs : List D} {e : En} (hP : P f = ⟨n, np, body⟩) (hb : exs (calF P k) body ⟨sl, []⟩ = .ok (.rtn (.cel j)) e) (hc : e.cs[j]? = some (.lst xs))
    (hl : args.length = np := by rfl) (hs : args ++ List.replicate (n - args.length) .und = sl := by rfl) : calF P (k+1) f args [] = .ok (.cel 0) [.lst xs] := by
  rw [calF_e, hP]
  simp only
  rw [if_pos hl, hs, hb]
  show (match exitC 0 e.cs with | some cs => (if j < 0 then FOut.ok (.cel j) cs else (match e.cs[j]? with | some c => (if pureC c then FOut.ok (.cel 0) (cs ++ [c]) else .stuck) | none => .stuck)) | none => .stuck) = _
  rw [exitC_0, hc]
  rfl
theorem PuC.run {P : Nat → CDef} {k f n np j : Nat} {body : List CS} {args sl : List Sl} {xs : List D} {e : En} (hP : P f = ⟨n, np, body⟩) (hb : exs (calF P k) body ⟨sl, []⟩ = .ok (.rtn (.cel j)) e) (hc : e.cs[j]? = some (.lst xs))
    (hl : args.length = np := by rfl) (hs : args ++ List.replicate (n - args.length) .und = sl := by rfl) (hv : args.all isV = true := by rfl) : PuC (calF P (k+1) f) args xs := fun sl' cs => by
  have h := calF_runC hP hb hc hl hs
  obtain ⟨vs, rfl⟩ := vals_of hv
  exact callM_vc h rfl
theorem extend_cc {f k j : Nat} {e : En} {xs ys : List D} (hk : e.cs[k]? = some (.lst xs)) (hj : e.cs[j]? = some (.lst ys)) (hl : xs.length + ys.length ≤ 16777216) : mtM f .extend (.cel k) [.cel j] e = .ok (.val .non) ⟨e.sl, e.cs.set k (.lst (xs ++ ys))⟩ := by
  simp only [mtM, bnd_e]
  rw [rdOf_c, hj]
  simp [hk, hl]
end DL
/-! the program's bands -/
namespace DL
/-- what the program may sort them by -/
structure SrtBy {α : Type} (kd : α → D) (le : α → α → Bool) : Prop where
  le : ∀ a b, leD (kd a) (kd b) = le a b
  alk : ∀ a b, alkD (kd a) (kd b) = true
  tn : (∀ a, isTup1 (kd a) = true) ∨ (∀ a, notTupD (kd a) = true)
theorem deps_le {α : Type} {kd : α → D} : ∀ {l : List α}, (∀ a ∈ l, dep (kd a) ≤ 60) → deps (l.map kd) ≤ 60
  | [], _ => Nat.zero_le _
  | a :: r, h => by
    have h1 := h a List.mem_cons_self
    have h2 := deps_le fun x hx => h x (List.mem_cons_of_mem _ hx)
    show max (dep (kd a)) (deps (r.map kd)) ≤ 60
    omega
theorem SrtBy.ok {α : Type} {kd : α → D} {le : α → α → Bool} (h : SrtBy kd le) (l : List α) (hd : ∀ a ∈ l, dep (kd a) ≤ 60) (hl : l.length ≤ 16777216) : srtOk (l.map kd) = true := by
  unfold srtOk
  have h1 : (l.map kd).all (fun x => (l.map kd).all fun y => alkD x y) = true := by
    rw [List.all_eq_true]
    intro x hx
    rw [List.all_eq_true]
    intro y hy
    obtain ⟨p, _, rfl⟩ := List.mem_map.mp hx
    obtain ⟨q, _, rfl⟩ := List.mem_map.mp hy
    exact h.alk p q
  have h2 : ((l.map kd).all isTup1 || (l.map kd).all notTupD) = true := by
    rw [Bool.or_eq_true, List.all_eq_true, List.all_eq_true]
    rcases h.tn with z | z
    · exact .inl fun x hx => by obtain ⟨p, _, rfl⟩ := List.mem_map.mp hx; exact z p
    · exact .inr fun x hx => by obtain ⟨p, _, rfl⟩ := List.mem_map.mp hx; exact z p
  rw [h1, h2, decide_eq_true (show deps (l.map kd) ≤ 60 from deps_le hd), decide_eq_true (show (l.map kd).length ≤ SZ by rw [List.length_map]; exact hl)]
  rfl
theorem SrtBy.srt {α : Type} {kd : α → D} {le : α → α → Bool} (h : SrtBy kd le) (g : α → D) (l : List α) : srtBy (l.map kd) (l.map g) = (l.mergeSort le).map g := by
  have e : (l.map kd).zip (l.map g) = l.map fun p => (kd p, g p) := by
    induction l with
    | nil => rfl
    | cons a r ih => simp [ih]
  unfold srtBy
  rw [e, ← List.map_mergeSort (r := le) (s := fun a b : D × D => leD a.1 b.1) (f := fun p : α => (kd p, g p)) fun a _ b _ => (h.le a b).symm, List.map_map]
  rfl
theorem fzOks_of {α : Type} {g : α → D} : ∀ {l : List α}, (∀ a ∈ l, fzOk (g a) = true) → fzOks (l.map g) = true
  | [], _ => rfl
  | a :: r, h => by
    show (fzOk (g a) && fzOks (r.map g)) = true
    rw [h a List.mem_cons_self, fzOks_of fun x hx => h x (List.mem_cons_of_mem _ hx)]
    rfl
theorem keysM_map {α : Type} {g : α → D} {kd : α → D} {m : M Sl} {i : Nat} {sl : List Sl} : ∀ {l : List α}, (∀ a ∈ l, keyM m i sl (g a) = some (kd a)) → keysM m i sl (l.map g) = some (l.map kd)
  | [], _ => rfl
  | d :: r, h => by
    show (match keyM m i sl (g d), keysM m i sl (r.map g) with | some k, some l => some (k :: l) | _, _ => none) = _
    rw [h d List.mem_cons_self, keysM_map fun x hx => h x (List.mem_cons_of_mem _ hx)]
    rfl
theorem srtLM_any {α : Type} {g kd : α → D} {le : α → α → Bool} (h : SrtBy kd le) {m : M Sl} {i : Nat} {l : List α} {e : En} (hk : ∀ a ∈ l, keyM m i (e.sl.map (fzS e.cs)) (g a) = some (kd a)) (hd : ∀ a ∈ l, DL.dep (kd a) ≤ 60) (hf : ∀ a ∈ l, fzOk (g a) = true) (hl : l.length ≤ 16777216) :
    srtLM 0 i m (l.map g) e = .ok (.val (.lst ((l.mergeSort le).map g))) e := by
  unfold srtLM
  rw [keysM_map hk]
  show req (srtOk _ && fzOks _ && decide ((l.map g).length ≤ SZ)) (newL 0 (srtBy _ _)) _ = _
  rw [h.ok l hd hl, fzOks_of hf, List.length_map, decide_eq_true (show l.length ≤ SZ from hl), h.srt]
  rfl
/-- of data -/
theorem srt_v {α : Type} {g kd : α → D} {le : α → α → Bool} (h : SrtBy kd le) {m : M Sl} {i : Nat} {l : List α} {e : En} (hk : ∀ a ∈ l, keyM m i (e.sl.map (fzS e.cs)) (g a) = some (kd a)) (hd : ∀ a ∈ l, DL.dep (kd a) ≤ 60) (hf : ∀ a ∈ l, fzOk (g a) = true) (hl : l.length ≤ 16777216) :
    srtKM false 0 i m (.val (.lst (l.map g))) e = .ok (.val (.lst ((l.mergeSort le).map g))) e := srtLM_any h hk hd hf hl
/-- .. in a cell -/
theorem srt_c {α : Type} {g kd : α → D} {le : α → α → Bool} (h : SrtBy kd le) {m : M Sl} {i c : Nat} {l : List α} {e : En} (hc : e.cs[c]? = some (.lst (l.map g))) (hk : ∀ a ∈ l, keyM m i (e.sl.map (fzS e.cs)) (g a) = some (kd a)) (hd : ∀ a ∈ l, DL.dep (kd a) ≤ 60) (hf : ∀ a ∈ l, fzOk (g a) = true) (hl : l.length ≤ 16777216) :
    srtKM false 0 i m (.cel c) e = .ok (.val (.lst ((l.mergeSort le).map g))) e := by
  show bnd (rdOf (.cel c)) (fun d => match d with | .lst xs => srtLM 0 i m xs | .frl xs => srtLM 0 i m xs | _ => stk) e = _
  have : rdOf (.cel c) e = .ok (.lst (l.map g)) e := by rw [rdOf_c, hc]
  rw [bnd_at this]
  exact srtLM_any h hk hd hf hl
/-- a bubble's own data may be frozen -/
def BuFz (b : Bu) : Prop := fzOk b.tip = true ∧ fzOk b.tx = true ∧ b.nm.all (· < 1114112) = true
theorem BuFz.ok {b : Bu} (h : BuFz b) : fzOk (buD b) = true := by
  show (true && (true && (fzOk b.tip && (fzOk b.tx && true)))) = true
  rw [h.1, h.2.1]; rfl
theorem BuFz.fz {b : Bu} (h : BuFz b) : fzV (buD b) = .val (.tup [.str b.nm, b4D b.bx, fzD b.tip, fzD b.tx]) := by
  unfold fzV
  rw [h.ok]
  rfl
/-- by top, then name -/
def tnD (b : Bu) : D := .tup [.int (tpB b), .str b.nm]
def tnK (b : Bu) : Ky := (0, tpB b, b.nm)
theorem tnK_ok : KyOk tnK := ⟨fun _ => rfl⟩
theorem tn_srt : SrtBy tnD fun a b => leY (tnK a) (tnK b) where
  le := fun a b => by
    show (!(ltDs [.int (tpB b), .str b.nm] [.int (tpB a), .str a.nm])) = (!(ltDs [.int 0, .int (tpB b), .str b.nm] [.int 0, .int (tpB a), .str a.nm]))
    congr 1
  alk := fun _ _ => rfl
  tn := .inl fun _ => rfl
/-- by rank -/
theorem rk_srt (left : Bool) : SrtBy (fun b => kyD (rkK left b)) fun a b => leY (rkK left a) (rkK left b) where
  le := fun _ _ => rfl
  alk := fun _ _ => rfl
  tn := .inl fun _ => rfl
theorem BuFz.tn {b : Bu} (h : BuFz b) : dep (tnD b) ≤ 60 := by
  have := h.2.2
  unfold tnD
  simp only [dep, deps, this, if_true]
  omega
theorem BuFz.rk {b : Bu} (h : BuFz b) (left : Bool) : dep (kyD (rkK left b)) ≤ 60 := by
  have := h.2.2
  unfold kyD rkK
  simp only [dep, deps, this, if_true]
  omega
theorem tn_ris (l : List Bu) : Ris (srtK tnK l) := by
  refine (srtK_pw tnK l).imp fun {a b} h => ?_
  rw [leY_eq] at h
  show tpB a ≤ tpB b
  simp only [tnK] at h
  omega
/-! bands in cells -/
def blC (q : List Bu) : Ce := .lst (q.map buD)
def Bnds (bs : List (List Bu)) : List Ce := .rls ((List.range bs.length).map (· + 1)) :: bs.map blC
theorem Bnds_len (bs : List (List Bu)) : (Bnds bs).length = bs.length + 1 := by simp [Bnds]
theorem Bnds_new (bs : List (List Bu)) : (Bnds bs ++ [Ce.lst []]).set 0 (.rls ((List.range bs.length).map (· + 1) ++ [bs.length + 1])) = Bnds (bs ++ [[]]) := by
  unfold Bnds
  simp [List.range_succ, blC]
theorem Bnds_put (bs : List (List Bu)) (cur : List Bu) (q : List Bu) : (Bnds (bs ++ [cur])).set (bs.length + 1) (blC q) = Bnds (bs ++ [q]) := by
  unfold Bnds
  simp [List.set_append]
theorem Bnds_at (bs : List (List Bu)) (cur : List Bu) : (Bnds (bs ++ [cur]))[bs.length + 1]? = some (blC cur) := by
  unfold Bnds
  simp
theorem inner_bl : ∀ (cs : List Ce) (ids : List Nat) (bs : List (List Bu)), ids.length = bs.length → (∀ (i c : Nat), ids[i]? = some c → ∃ q, bs[i]? = some q ∧ cs[c]? = some (blC q)) → inner cs ids = some (bs.map fun q => D.lst (q.map buD))
  | cs, [], [], _, _ => rfl
  | cs, [], _ :: _, h, _ => by simp at h
  | cs, _ :: _, [], h, _ => by simp at h
  | cs, c :: ids, q :: bs, h, k => by
    obtain ⟨q', h1, h2⟩ := k 0 c rfl
    simp at h1
    subst h1
    have ih := inner_bl cs ids bs (by simpa using h) fun i d hi => by
      obtain ⟨r, r1, r2⟩ := k (i+1) d (by simpa using hi)
      exact ⟨r, by simpa using r1, r2⟩
    unfold inner
    rw [h2, ih]
    rfl
theorem Bnds_dOf (bs : List (List Bu)) (sl : List Sl) : ∃ cs', DL.dOf (.cel 0) ⟨sl, Bnds bs⟩ = .ok (.lst (bs.map fun q => D.lst (q.map buD))) ⟨sl, cs'⟩ := by
  have hin := inner_bl (Bnds bs) ((List.range bs.length).map (· + 1)) bs (by simp) fun i c hi => by
    rw [List.getElem?_map] at hi
    by_cases h : i < bs.length
    · rw [List.getElem?_range h] at hi
      have hi : some (i + 1) = some c := hi
      injection hi with hi
      subst hi
      exact ⟨bs[i], by simp [h], by simp [Bnds, h]⟩
    · rw [List.getElem?_eq_none (by simp; omega)] at hi
      cases hi
  have hnd : (0 :: (List.range bs.length).map (· + 1)).Nodup := by
    rw [List.nodup_cons]
    refine ⟨by simp, ?_⟩
    exact List.Pairwise.map _ (fun a b (h : a ≠ b) => by show a + 1 ≠ b + 1; omega) List.nodup_range
  refine ⟨(gones (Bnds bs) ((List.range bs.length).map (· + 1))).set 0 .gone, ?_⟩
  have h0 : (Bnds bs)[0]? = some (.rls ((List.range bs.length).map (· + 1))) := rfl
  simp only [DL.dOf, h0, hin, decide_eq_true hnd]
section
variable {P : Nat → CDef}
abbrev bst (s0 s2 s3 s4 s5 s6 s7 s8 : Sl) (bs : List (List Bu)) : En := ⟨[s0, .cel 0, s2, s3, s4, s5, s6, s7, s8], Bnds bs⟩
theorem ix_last (n : Nat) : ixP (n + 1) (-1) = some n := by
  unfold ixP
  rw [if_neg (by omega), if_pos (by omega)]
  congr 1
  omega
theorem put_last (cal : Nat → Fn) (b : Bu) (bs : List (List Bu)) (cur : List Bu) (s0 s2 s4 s5 s6 s7 s8 : Sl) (h : cur.length < 1000000) :
    ex cal (.expr (.mt .append 0 (.idx (.var 1) (.neg (.lit (.int 1)))) [(.var 3)])) (bst s0 s2 (.val (buD b)) s4 s5 s6 s7 s8 (bs ++ [cur])) = .ok .nxt (bst s0 s2 (.val (buD b)) s4 s5 s6 s7 s8 (bs ++ [cur ++ [b]])) := by
  have h0 : (Bnds (bs ++ [cur]))[0]? = some (.rls ((List.range (bs.length + 1)).map (· + 1))) := by
    show some (Ce.rls ((List.range (bs ++ [cur]).length).map (· + 1))) = _
    rw [List.length_append]; rfl
  have h1 := Bnds_at bs cur
  have h2 := Bnds_put bs cur (cur ++ [b])
  have hl := Bnds_len (bs ++ [cur])
  rw [List.length_append] at hl
  unfold bst at *
  generalize Bnds (bs ++ [cur]) = CS at *
  generalize Bnds (bs ++ [cur ++ [b]]) = CS2 at *
  have h1 : CS[bs.length + 1]? = some (.lst (cur.map buD)) := h1
  have h2 : CS.set (bs.length + 1) (.lst (cur.map buD ++ [buD b])) = CS2 := by
    rw [← h2]; unfold blC; rw [List.map_append]; rfl
  have h3 := ix_last bs.length
  unfold bst at *
  generalize buD b = B at *
  have hc : (cur.map buD).length < 16777216 := by rw [List.length_map]; omega
  generalize cur.map buD = X at *
  have hi : atP ((List.range (bs.length + 1)).map (· + 1)) (-1) = some (bs.length + 1) := by
    unfold atP
    rw [List.length_map, List.length_range, h3]
    simp
  simp [h0, h1, hi, hc, h2]
theorem new_last (cal : Nat → Fn) (bs : List (List Bu)) (s0 s2 s3 s4 s5 s6 s7 s8 : Sl) (h : bs.length < 1000000) :
    ex cal (.expr (.mt .append 0 (.var 1) [(.lst 1 [])])) (bst s0 s2 s3 s4 s5 s6 s7 s8 bs) = .ok .nxt (bst s0 s2 s3 s4 s5 s6 s7 s8 (bs ++ [[]])) := by
  have h2 := Bnds_new bs
  have hl := Bnds_len bs
  have h0 : (Bnds bs)[0]? = some (.rls ((List.range bs.length).map (· + 1))) := rfl
  have hc : ((List.range bs.length).map (· + 1)).length < 16777216 := by rw [List.length_map, List.length_range]; omega
  unfold bst
  generalize (List.range bs.length).map (· + 1) = X at *
  generalize Bnds (bs ++ [[]]) = CS2 at *
  rw [← hl] at h2
  unfold bst at *
  generalize Bnds bs = CS at *
  have h3 : (CS ++ [Ce.lst []])[0]? = some (.rls X) := by
    rw [List.getElem?_append_left (List.getElem?_eq_some_iff.mp h0).1]; exact h0
  have ap : ∀ sl, mtM 0 .append (.cel 0) [.cel CS.length] ⟨sl, CS ++ [.lst []]⟩ = .ok (.val .non) ⟨sl, CS2⟩ := fun sl => by
    have g : getC 0 ⟨sl, CS ++ [.lst []]⟩ = .ok (.rls X) ⟨sl, CS ++ [.lst []]⟩ := by unfold getC; simp only [h3]
    show bnd (getC 0) _ _ = _
    rw [bnd_at g, ← h2]
    show req (decide (X.length < 16777216)) _ _ = _
    rw [decide_eq_true hc]
    rfl
  simp [h0, ap]
theorem fld_st (cal : Nat → Fn) (b : Bu) (s0 s2 s4 s5 s6 s7 s8 : Sl) (bs : List (List Bu)) :
    ex cal (.setT [(.v 5), (.v 6), (.v 7), (.v 8)] (.idx (.var 3) (.lit (.int 1)))) (bst s0 s2 (.val (buD b)) s4 s5 s6 s7 s8 bs) = .ok .nxt (bst s0 s2 (.val (buD b)) s4 (.val (.int b.bx.1)) (.val (.int (tpB b))) (.val (.int b.bx.2.2.1)) (.val (.int b.bx.2.2.2)) bs) := by
  unfold bst at *
  generalize Bnds bs = CS
  simp [buD, b4D, tpB]
/-- one more of the last band -/
theorem band_same (cal : Nat → Fn) (b : Bu) (bs : List (List Bu)) (cur : List Bu) (e : Int) (s0 s4 s5 s6 s7 s8 : Sl) (h : cur.length < 1000000) (hb : tpB b < e) :
    ∃ s5' s6' s7' s8', exs cal b1_bands_of (bst s0 (.val (.int e)) (.val (buD b)) s4 s5 s6 s7 s8 (bs ++ [cur])) = .ok .nxt (bst s0 (.val (.int (max e (enB b)))) (.val (buD b)) s4 s5' s6' s7' s8' (bs ++ [cur ++ [b]])) := by
  refine ⟨.val (.int b.bx.1), .val (.int (tpB b)), .val (.int b.bx.2.2.1), .val (.int b.bx.2.2.2), ?_⟩
  rw [b1_bands_of]
  refine exs_nx (fld_st cal b s0 _ s4 s5 s6 s7 s8 _) ?_
  refine exs_nx (e' := bst s0 (.val (.int e)) (.val (buD b)) s4 (.val (.int b.bx.1)) (.val (.int (tpB b))) (.val (.int b.bx.2.2.1)) (.val (.int b.bx.2.2.2)) (bs ++ [cur])) ?_ ?_
  · unfold bst at *
    generalize buD b = B
    generalize Bnds (bs ++ [cur]) = CS
    have z : ¬ e ≤ tpB b := by omega
    have y : isNonS (.val (.int e)) = false := rfl
    simp [z, y]
  · refine exs_nx (put_last cal b bs cur s0 _ s4 _ _ _ _ h) ?_
    refine exs_nx (e' := bst s0 (.val (.int (max e (enB b)))) (.val (buD b)) s4 (.val (.int b.bx.1)) (.val (.int (tpB b))) (.val (.int b.bx.2.2.1)) (.val (.int b.bx.2.2.2)) (bs ++ [cur ++ [b]])) ?_ rfl
    unfold bst at *
    generalize buD b = B
    generalize Bnds (bs ++ [cur ++ [b]]) = CS
    simp [enB, tpB]
/-- the first of a new band -/
theorem band_new (cal : Nat → Fn) (b : Bu) (bs : List (List Bu)) (eD : D) (s0 s4 s5 s6 s7 s8 : Sl) (h : bs.length < 1000000) (hb : eD = .non ∨ ∃ e : Int, eD = .int e ∧ e ≤ tpB b) :
    ∃ s5' s6' s7' s8', exs cal b1_bands_of (bst s0 (.val eD) (.val (buD b)) s4 s5 s6 s7 s8 bs) = .ok .nxt (bst s0 (.val (.int (enB b))) (.val (buD b)) s4 s5' s6' s7' s8' (bs ++ [[b]])) := by
  refine ⟨.val (.int b.bx.1), .val (.int (tpB b)), .val (.int b.bx.2.2.1), .val (.int b.bx.2.2.2), ?_⟩
  rw [b1_bands_of]
  refine exs_nx (fld_st cal b s0 _ s4 s5 s6 s7 s8 _) ?_
  refine exs_nx (e' := bst s0 (.val (.int (enB b))) (.val (buD b)) s4 (.val (.int b.bx.1)) (.val (.int (tpB b))) (.val (.int b.bx.2.2.1)) (.val (.int b.bx.2.2.2)) (bs ++ [[]])) ?_ ?_
  · have q := new_last cal bs s0 (.val eD) (.val (buD b)) s4 (.val (.int b.bx.1)) (.val (.int (tpB b))) (.val (.int b.bx.2.2.1)) (.val (.int b.bx.2.2.2)) h
    unfold bst at *
    generalize buD b = B at *
    have hc : bnd (ev cal (.or2 (.cmp .isN (.var 2) (.lit .non)) (.cmp .ge (.var 6) (.var 2)))) truM (bst s0 (.val eD) (.val B) s4 (.val (.int b.bx.1)) (.val (.int (tpB b))) (.val (.int b.bx.2.2.1)) (.val (.int b.bx.2.2.2)) bs) = .ok true (bst s0 (.val eD) (.val B) s4 (.val (.int b.bx.1)) (.val (.int (tpB b))) (.val (.int b.bx.2.2.1)) (.val (.int b.bx.2.2.2)) bs) := by
      unfold bst at *
      generalize Bnds bs = CS
      rcases hb with rfl | ⟨e, rfl, z⟩
      · simp [show isNonS (.val .non) = true from rfl]
      · simp [z, show isNonS (.val (.int e)) = false from rfl]
    show bnd (bnd (ev cal _) truM) (fun t => iteM t (exs cal _) (exs cal _)) _ = _
    rw [bnd_at hc]
    show exs cal _ _ = _
    refine exs_nx q (exs_nx (e' := bst s0 (.val (.int (enB b))) (.val B) s4 (.val (.int b.bx.1)) (.val (.int (tpB b))) (.val (.int b.bx.2.2.1)) (.val (.int b.bx.2.2.2)) (bs ++ [[]])) ?_ rfl)
    unfold bst at *
    generalize Bnds (bs ++ [[]]) = CS2
    simp [enB, tpB]
  · refine exs_nx (put_last cal b bs [] s0 _ s4 _ _ _ _ (by simp)) ?_
    refine exs_nx (e' := bst s0 (.val (.int (enB b))) (.val (buD b)) s4 (.val (.int b.bx.1)) (.val (.int (tpB b))) (.val (.int b.bx.2.2.1)) (.val (.int b.bx.2.2.2)) (bs ++ [[b]])) ?_ rfl
    rw [List.nil_append]
    unfold bst at *
    generalize buD b = B
    generalize Bnds (bs ++ [[b]]) = CS
    simp [enB, tpB]
theorem band_step {cal : Nat → Fn} {b : Bu} {r : List Bu} {s0 s2 s3 s4 s5 s6 s7 s8 : Sl} {bs : List (List Bu)} {e' : En} (h : exs cal b1_bands_of (bst s0 s2 (.val (buD b)) s4 s5 s6 s7 s8 bs) = .ok .nxt e') :
    forD (.v 3) (exs cal b1_bands_of) ((b :: r).map buD) (bst s0 s2 s3 s4 s5 s6 s7 s8 bs) = forD (.v 3) (exs cal b1_bands_of) (r.map buD) e' := by
  show bnd (exs cal b1_bands_of) (fun fl => forK fl (forD (.v 3) (exs cal b1_bands_of) (r.map buD))) (bst s0 s2 (.val (buD b)) s4 s5 s6 s7 s8 bs) = _
  rw [bnd_at h]
  rfl
theorem band_loop (cal : Nat → Fn) (s0 s4 : Sl) : ∀ (r : List Bu) (bs : List (List Bu)) (cur : List Bu) (e : Int) (n : Nat) (s3 s5 s6 s7 s8 : Sl), r.length ≤ n → bs.length + cur.length + 2 * r.length + 1 < 1000000 →
    ∃ s2' s3' s5' s6' s7' s8', forD (.v 3) (exs cal b1_bands_of) (r.map buD) (bst s0 (.val (.int e)) s3 s4 s5 s6 s7 s8 (bs ++ [cur])) = .ok .nxt (bst s0 s2' s3' s4 s5' s6' s7' s8' (bs ++ (cur ++ (spnU e r).1) :: bandsN n (spnU e r).2))
  | [], bs, cur, e, n, s3, s5, s6, s7, s8, _, _ => by
    refine ⟨.val (.int e), s3, s5, s6, s7, s8, ?_⟩
    have : bandsN n (spnU e []).2 = [] := by cases n <;> rfl
    rw [this]
    show Out.ok Fl.nxt _ = Out.ok Fl.nxt (bst _ _ _ _ _ _ _ _ (bs ++ [cur ++ []]))
    rw [List.append_nil]
  | b :: r, bs, cur, e, n, s3, s5, s6, s7, s8, hn, hl => by
    simp only [List.length_cons] at hn hl
    unfold spnU
    by_cases c : tpB b < e
    · rw [if_pos c]
      obtain ⟨t5, t6, t7, t8, h⟩ := band_same cal b bs cur e s0 s4 s5 s6 s7 s8 (by omega) c
      obtain ⟨u2, u3, u5, u6, u7, u8, q⟩ := band_loop cal s0 s4 r bs (cur ++ [b]) (max e (enB b)) n (.val (buD b)) t5 t6 t7 t8 (by omega) (by simp; omega)
      refine ⟨u2, u3, u5, u6, u7, u8, ?_⟩
      rw [band_step h, q, List.append_assoc]
      rfl
    · rw [if_neg c]
      obtain ⟨t5, t6, t7, t8, h⟩ := band_new cal b (bs ++ [cur]) (.int e) s0 s4 s5 s6 s7 s8 (by simp; omega) (.inr ⟨e, rfl, by omega⟩)
      obtain ⟨m, rfl⟩ : ∃ m, n = m + 1 := ⟨n - 1, by omega⟩
      obtain ⟨u2, u3, u5, u6, u7, u8, q⟩ := band_loop cal s0 s4 r (bs ++ [cur]) [b] (enB b) m (.val (buD b)) t5 t6 t7 t8 (by omega) (by simp; omega)
      refine ⟨u2, u3, u5, u6, u7, u8, ?_⟩
      rw [band_step h, q, List.append_assoc, List.append_nil]
      rfl
def bndD (bs : List (List Bu)) : List D := bs.map fun q => D.lst (q.map buD)
theorem bands_loop (cal : Nat → Fn) (s0 s4 s3 s5 s6 s7 s8 : Sl) (S : List Bu) (hl : S.length < 100000) :
    ∃ s2' s3' s5' s6' s7' s8', forD (.v 3) (exs cal b1_bands_of) (S.map buD) (bst s0 (.val .non) s3 s4 s5 s6 s7 s8 []) = .ok .nxt (bst s0 s2' s3' s4 s5' s6' s7' s8' (bandsN S.length S)) := by
  cases S with
  | nil => exact ⟨.val .non, s3, s5, s6, s7, s8, rfl⟩
  | cons b r =>
    simp only [List.length_cons] at hl
    obtain ⟨t5, t6, t7, t8, h⟩ := band_new cal b [] .non s0 s4 s5 s6 s7 s8 (by simp) (.inl rfl)
    obtain ⟨u2, u3, u5, u6, u7, u8, q⟩ := band_loop cal s0 s4 r [] [b] (enB b) r.length (.val (buD b)) t5 t6 t7 t8 (Nat.le_refl _) (by simp; omega)
    refine ⟨u2, u3, u5, u6, u7, u8, ?_⟩
    rw [band_step h]
    exact q
theorem bands_key (cal : Nat → Fn) (b : Bu) (hb : BuFz b) (a0 a1 a2 a3 a4 a5 a6 a7 a8 : Sl) : keyM (ev cal k1_bands_of) 4 [a0, a1, a2, a3, a4, a5, a6, a7, a8] (buD b) = some (tnD b) := by
  unfold keyM
  rw [hb.fz, k1_bands_of]
  simp [b4D, tnD, tpB]
theorem bands_sp [K_bands_of P] (k : Nat) (l : List Bu) (hf : ∀ b ∈ l, BuFz b) (hl : l.length < 100000) : Pu (calF P (k+1) 121) [.val (.lst (l.map buD))] (.lst (bndD (bandsN l.length (srtK tnK l)))) := by
  have hs : (srtK tnK l).length = l.length := (srtK_perm tnK l).length_eq
  obtain ⟨u2, u3, u5, u6, u7, u8, q⟩ := bands_loop (calF P k) (.val (.lst (l.map buD))) .und .und .und .und .und .und (srtK tnK l) (by omega)
  rw [hs] at q
  obtain ⟨cs', d⟩ := Bnds_dOf (bandsN l.length (srtK tnK l)) [.val (.lst (l.map buD)), .cel 0, u2, u3, .und, u5, u6, u7, u8]
  have srt : srtKM false 0 4 (ev (calF P k) k1_bands_of) (.val (.lst (l.map buD))) ⟨[.val (.lst (l.map buD)), .cel 0, .val .non, .und, .und, .und, .und, .und, .und], [.rls []]⟩ = .ok (.val (.lst ((srtK tnK l).map buD))) ⟨[.val (.lst (l.map buD)), .cel 0, .val .non, .und, .und, .und, .und, .und, .und], [.rls []]⟩ :=
    srt_v tn_srt (fun b hb => bands_key (calF P k) b (hf b hb) _ _ _ _ _ _ _ _ _) (fun b hb => (hf b hb).tn) (fun b hb => (hf b hb).ok) (by omega)
  refine Pu.run K_bands_of.e_bands_of (sl := [.val (.lst (l.map buD)), .und, .und, .und, .und, .und, .und, .und, .und]) (e := ⟨[.val (.lst (l.map buD)), .cel 0, u2, u3, .und, u5, u6, u7, u8], cs'⟩) ?_
  rw [b_bands_of]
  refine exs_nx (e' := ⟨[.val (.lst (l.map buD)), .cel 0, .und, .und, .und, .und, .und, .und, .und], [.rls []]⟩) (by generalize l.map buD = L; simp [lstM, celsOf, newC]) ?_
  refine exs_nx (e' := ⟨[.val (.lst (l.map buD)), .cel 0, .val .non, .und, .und, .und, .und, .und, .und], [.rls []]⟩) (by generalize l.map buD = L; simp) ?_
  refine exs_nx (e' := bst (.val (.lst (l.map buD))) u2 u3 .und u5 u6 u7 u8 (bandsN l.length (srtK tnK l))) ?_ ?_
  · rw [l1_bands_of]
    refine ex_fors_at (xs := (srtK tnK l).map buD) (e1 := ⟨[.val (.lst (l.map buD)), .cel 0, .val .non, .und, .und, .und, .und, .und, .und], [.rls []]⟩) ?_ q
    generalize l.map buD = L at *
    generalize (srtK tnK l).map buD = L2 at *
    simp [ev_srtK, srt]
  · refine exs_rtn ?_
    unfold bndD
    generalize bandsN l.length (srtK tnK l) = BS at *
    generalize l.map buD = L at *
    show bnd (bnd (dOf (.cel 0)) fun d => ret (Sl.val d)) (fun s => ret (Fl.rtn s)) _ = _
    have : bnd (dOf (.cel 0)) (fun d => ret (Sl.val d)) ⟨[.val (.lst L), .cel 0, u2, u3, .und, u5, u6, u7, u8], Bnds BS⟩ = .ok (.val (.lst (BS.map fun q => D.lst (q.map buD)))) ⟨[.val (.lst L), .cel 0, u2, u3, .und, u5, u6, u7, u8], cs'⟩ := by
      rw [bnd_at d]; all_goals rfl
    rw [bnd_at this]; all_goals rfl
/-! the side -/
theorem side_sp [K_side_of P] (k : Nat) (left : Bool) (b : Bu) : Pu (calF P (k+1) 122) [.val (b4D b.bx), .val (.str (dirT (!left)))] (.int (sdB left b)) := Pu.of <| by
  cases left <;> simp [calF_e, K_side_of.e_side_of, b_side_of, dirT, b4D, sdB]
theorem order_key [K_side_of P] (k : Nat) (left : Bool) (b : Bu) (hb : BuFz b) (a0 a2 a3 a4 : Sl) : keyM (ev (calF P (k+1)) k1_band_order) 4 [a0, .val (.str (dirT (!left))), a2, a3, a4] (buD b) = some (kyD (rkK left b)) := by
  have h := fun e => side_sp (P := P) k left b e
  unfold keyM
  rw [hb.fz, k1_band_order]
  generalize dirT (!left) = dd at *
  generalize hB : b4D b.bx = B at *
  simp [h _]
  rw [← hB]
  simp [b4D, kyD, rkK, tpB]
theorem order_loop [K_side_of P] (k : Nat) (left : Bool) (s0 : Sl) : ∀ (bs : List (List Bu)) (f : List Bu) (s3 : Sl), (∀ q ∈ bs, ∀ b ∈ q, BuFz b) → f.length + bs.flatten.length < 1000000 →
    ∃ s3', forD (.v 3) (exs (calF P (k+1)) b1_band_order) (bndD bs) ⟨[s0, .val (.str (dirT (!left))), .cel 0, s3, .und], [.lst (f.map buD)]⟩ = .ok .nxt ⟨[s0, .val (.str (dirT (!left))), .cel 0, s3', .und], [.lst ((f ++ (bs.map (srtK (rkK left))).flatten).map buD)]⟩
  | [], f, s3, _, _ => ⟨s3, by simp [bndD, forD]⟩
  | q :: bs, f, s3, h, hl => by
    rw [List.flatten_cons, List.length_append] at hl
    have hq : (srtK (rkK left) q).length = q.length := (srtK_perm _ q).length_eq
    obtain ⟨t3, ih⟩ := order_loop k left s0 bs (f ++ srtK (rkK left) q) (.val (.lst (q.map buD))) (fun z hz => h z (List.mem_cons_of_mem _ hz)) (by rw [List.length_append]; omega)
    refine ⟨t3, ?_⟩
    have srt := srt_v (i := 4) (m := ev (calF P (k+1)) k1_band_order) (g := buD) (rk_srt left) (l := q) (e := ⟨[s0, .val (.str (dirT (!left))), .cel 0, .val (.lst (q.map buD)), .und], [.lst (f.map buD)]⟩) (fun b hb => order_key k left b (h q List.mem_cons_self b hb) _ _ _ _) (fun b hb => (h q List.mem_cons_self b hb).rk left) (fun b hb => (h q List.mem_cons_self b hb).ok) (by omega)
    have hb : exs (calF P (k+1)) b1_band_order ⟨[s0, .val (.str (dirT (!left))), .cel 0, .val (.lst (q.map buD)), .und], [.lst (f.map buD)]⟩ = .ok .nxt ⟨[s0, .val (.str (dirT (!left))), .cel 0, .val (.lst (q.map buD)), .und], [.lst ((f ++ srtK (rkK left) q).map buD)]⟩ := by
      have z : (f.map buD).length + ((srtK (rkK left) q).map buD).length ≤ 16777216 := by rw [List.length_map, List.length_map]; omega
      rw [b1_band_order, List.map_append]
      have srt : srtKM false 0 4 (ev (calF P (k+1)) k1_band_order) (.val (.lst (q.map buD))) ⟨[s0, .val (.str (dirT (!left))), .cel 0, .val (.lst (q.map buD)), .und], [.lst (f.map buD)]⟩ = .ok (.val (.lst ((srtK (rkK left) q).map buD))) _ := srt
      generalize (srtK (rkK left) q).map buD = L2 at *
      generalize q.map buD = L at *
      generalize f.map buD = F at *
      generalize dirT (!left) = dd at *
      generalize k1_band_order = kk at *
      simp [ev_srtK, srt, z]
    show bnd (exs (calF P (k+1)) b1_band_order) (fun fl => forK fl (forD (.v 3) (exs (calF P (k+1)) b1_band_order) (bndD bs))) ⟨[s0, .val (.str (dirT (!left))), .cel 0, .val (.lst (q.map buD)), .und], [.lst (f.map buD)]⟩ = _
    rw [bnd_at hb]
    show forD (.v 3) (exs (calF P (k+1)) b1_band_order) (bndD bs) _ = _
    rw [ih, List.append_assoc]
    rfl
theorem bands_flat : ∀ (n : Nat) (S : List Bu), S.length ≤ n → (bandsN n S).flatten = S
  | 0, S, h => by
    have : S = [] := List.length_eq_zero_iff.mp (by omega)
    rw [this]; rfl
  | n + 1, [], _ => rfl
  | n + 1, x :: r, h => by
    simp only [List.length_cons] at h
    have := span_len r (enB x)
    rw [bandsN, List.flatten_cons, bands_flat n _ (by omega), List.cons_append, span_app]
theorem order_sp [K_band_order P] (k : Nat) (left : Bool) (l : List Bu) (hf : ∀ b ∈ l, BuFz b) (hl : l.length < 100000) : PuC (calF P (k+2) 123) [.val (.lst (l.map buD)), .val (.str (dirT (!left)))] ((ordB left l.length (srtK tnK l)).map buD) := by
  have hb := fun e => bands_sp (P := P) k l hf hl e
  have pm := srtK_perm tnK l
  have fl := bands_flat l.length (srtK tnK l) (by rw [pm.length_eq]; exact Nat.le_refl _)
  obtain ⟨s3, q⟩ := order_loop (P := P) k left (.val (.lst (l.map buD))) (bandsN l.length (srtK tnK l)) [] .und (fun z hz b hb => hf b (pm.mem_iff.mp (by rw [← fl]; exact List.mem_flatten_of_mem hz hb))) (by rw [fl, pm.length_eq]; simp; omega)
  rw [List.nil_append] at q
  refine PuC.run K_band_order.e_band_order (sl := [.val (.lst (l.map buD)), .val (.str (dirT (!left))), .und, .und, .und]) (e := ⟨[.val (.lst (l.map buD)), .val (.str (dirT (!left))), .cel 0, s3, .und], [.lst ((ordB left l.length (srtK tnK l)).map buD)]⟩) (j := 0) ?_ rfl
  unfold ordB
  rw [b_band_order]
  generalize (((bandsN l.length (srtK tnK l)).map (srtK (rkK left))).flatten).map buD = R at *
  generalize bndD (bandsN l.length (srtK tnK l)) = BD at *
  generalize dirT (!left) = dd at *
  generalize l.map buD = L at *
  refine exs_nx (e' := ⟨[.val (.lst L), .val (.str dd), .cel 0, .und, .und], [.lst []]⟩) (by simp) (exs_nx (e' := ⟨[.val (.lst L), .val (.str dd), .cel 0, s3, .und], [.lst R]⟩) ?_ (exs_rtn (by simp)))
  rw [l1_band_order]
  exact ex_fors_at (xs := BD) (e1 := ⟨[.val (.lst L), .val (.str dd), .cel 0, .und, .und], [.lst []]⟩) (by simp [hb _]) q
end
end DL
/-! the law's bands -/
namespace DL
def meetB (a b : Bu) : Bool := decide (tpB a < enB b) && decide (tpB b < enB a)
def hasB (B : List Bu) (y : Bu) : Bool := B.any fun q => q.nm == y.nm
def bstep (B : List Bu) (y : Bu) : List Bu := if (!hasB B y) && B.any (meetB y) then B ++ [y] else B
theorem has_mem {B : List Bu} {y : Bu} (h : y ∈ B) : hasB B y = true := List.any_eq_true.mpr ⟨y, h, by simp⟩
theorem has_not {B : List Bu} {y : Bu} (h : y.nm ∉ B.map Bu.nm) : hasB B y = false := by
  unfold hasB
  rw [List.any_eq_false]
  intro q hq e
  exact h (List.mem_map.mpr ⟨q, hq, by simpa using e⟩)
theorem pass_none : ∀ (r B : List Bu), (∀ y ∈ r, hasB B y = true ∨ ∀ b ∈ B, enB b ≤ tpB y) → r.foldl bstep B = B
  | [], B, _ => rfl
  | y :: r, B, h => by
    have hs : bstep B y = B := by
      unfold bstep
      rcases h y List.mem_cons_self with z | z
      · rw [z]; rfl
      · have : B.any (meetB y) = false := by
          rw [List.any_eq_false]
          intro b hb e
          have := z b hb
          unfold meetB at e
          simp at e
          omega
        rw [this, Bool.and_false]; rfl
    rw [List.foldl_cons, hs]
    exact pass_none r B fun z hz => h z (List.mem_cons_of_mem _ hz)
theorem pass_more : ∀ (r B : List Bu) (e : Int), Ris r → (∀ b ∈ B, enB b ≤ e) → (∃ p ∈ B, enB p = e) → (∀ p ∈ B, ∀ y ∈ r, tpB p ≤ tpB y) → (∀ y ∈ r, tpB y < enB y) → ((B ++ r).map Bu.nm).Nodup → r.foldl bstep B = B ++ (spnU e r).1
  | [], B, e, _, _, _, _, _, _ => (List.append_nil B).symm
  | y :: r, B, e, hr, h1, h2, h3, h4, nd => by
    have hr' := List.pairwise_cons.mp hr
    unfold spnU
    by_cases c : tpB y < e
    · rw [if_pos c]
      obtain ⟨p, hp, ep⟩ := h2
      have hn : hasB B y = false := has_not fun z => by
        rw [List.map_append, List.nodup_append] at nd
        exact nd.2.2 _ z _ (List.mem_map.mpr ⟨y, List.mem_cons_self, rfl⟩) rfl
      have hm : B.any (meetB y) = true := List.any_eq_true.mpr ⟨p, hp, by
        have a := h3 p hp y List.mem_cons_self
        have b := h4 y List.mem_cons_self
        unfold meetB
        simp
        omega⟩
      have hs : bstep B y = B ++ [y] := by
        unfold bstep
        rw [hn, hm]; rfl
      have eq : B ++ y :: r = (B ++ [y]) ++ r := by simp
      rw [List.foldl_cons, hs, pass_more r (B ++ [y]) (max e (enB y)) hr'.2 (fun b hb => by
        rcases List.mem_append.mp hb with z | z
        · have := h1 b z; omega
        · rw [List.mem_singleton.mp z]; omega) (by
        by_cases d : e ≤ enB y
        · exact ⟨y, by simp, by omega⟩
        · exact ⟨p, by simp [hp], by omega⟩) (fun q hq z hz => by
        rcases List.mem_append.mp hq with w | w
        · exact h3 q w z (List.mem_cons_of_mem _ hz)
        · rw [List.mem_singleton.mp w]; exact hr'.1 z hz) (fun z hz => h4 z (List.mem_cons_of_mem _ hz)) (by rw [← eq]; exact nd)]
      simp
    · rw [if_neg c, List.append_nil]
      refine pass_none (y :: r) B fun z hz => .inr fun b hb => ?_
      have a := h1 b hb
      rcases List.mem_cons.mp hz with rfl | hz
      · omega
      · have := hr'.1 z hz
        omega
theorem round_one {x : Bu} {r : List Bu} (hr : Ris (x :: r)) (hh : ∀ b ∈ x :: r, tpB b < enB b) (nd : ((x :: r).map Bu.nm).Nodup) :
    (x :: r).foldl bstep [x] = x :: (spnU (enB x) r).1 ∧ (x :: r).foldl bstep (x :: (spnU (enB x) r).1) = x :: (spnU (enB x) r).1 ∧ (x :: r).filter (fun y => !hasB (x :: (spnU (enB x) r).1) y) = (spnU (enB x) r).2 := by
  have hr' := List.pairwise_cons.mp hr
  have a := span_app r (enB x)
  have o := span_off (e := enB x) hr'.2
  have h0 : bstep [x] x = [x] := by
    unfold bstep
    rw [has_mem List.mem_cons_self]; rfl
  refine ⟨?_, pass_none _ _ fun y hy => ?_, ?_⟩
  · rw [List.foldl_cons, h0, pass_more r [x] (enB x) hr'.2 (fun b hb => by rw [List.mem_singleton.mp hb]; exact Int.le_refl _) ⟨x, List.mem_cons_self, rfl⟩ (fun p hp y hy => by rw [List.mem_singleton.mp hp]; exact hr'.1 y hy) (fun y hy => hh y (List.mem_cons_of_mem _ hy)) nd]
    rfl
  · rcases List.mem_cons.mp hy with rfl | hy
    · exact .inl (has_mem List.mem_cons_self)
    · rw [← a] at hy
      rcases List.mem_append.mp hy with z | z
      · exact .inl (has_mem (List.mem_cons_of_mem _ z))
      · refine .inr fun b hb => ?_
        have := o y z
        rcases List.mem_cons.mp hb with rfl | hb
        · exact this.1
        · exact this.2 b hb
  · have e : x :: r = (x :: (spnU (enB x) r).1) ++ (spnU (enB x) r).2 := by rw [List.cons_append, a]
    rw [e] at nd
    rw [List.map_append, List.nodup_append] at nd
    have : (x :: r).filter (fun y => !hasB (x :: (spnU (enB x) r).1) y) = ((x :: (spnU (enB x) r).1) ++ (spnU (enB x) r).2).filter (fun y => !hasB (x :: (spnU (enB x) r).1) y) := by rw [← e]
    rw [this, List.filter_append, List.filter_eq_nil_iff.mpr, List.filter_eq_self.mpr, List.nil_append]
    · intro y hy
      rw [has_not fun z => nd.2.2 _ z _ (List.mem_map.mpr ⟨y, hy, rfl⟩) rfl]; rfl
    · intro y hy
      rw [has_mem hy]; simp
/-! bubbles as data -/
structure BuOk (b : Bu) : Prop where
  fz : BuFz b
  dt : dep b.tip ≤ 60
  dx : dep b.tx ≤ 60
  et : eqD b.tip b.tip = true
  ex : eqD b.tx b.tx = true
theorem BuOk.dep {b : Bu} (h : BuOk b) : DL.dep (buD b) ≤ 62 := by
  have h1 := h.fz.2.2
  have h2 := h.dt
  have h3 := h.dx
  unfold buD b4D
  simp only [DL.dep, deps, h1, if_true]
  omega
theorem deps_bu : ∀ {l : List Bu}, (∀ b ∈ l, BuOk b) → deps (l.map buD) ≤ 62
  | [], _ => Nat.zero_le _
  | a :: r, h => by
    have h1 := (h a List.mem_cons_self).dep
    have h2 := deps_bu fun x hx => h x (List.mem_cons_of_mem _ hx)
    show max (dep (buD a)) (deps (r.map buD)) ≤ 62
    omega
theorem dep_bul {l : List Bu} (h : ∀ b ∈ l, BuOk b) : dep (.lst (l.map buD)) ≤ 64 := by
  have := deps_bu h
  show 1 + deps (l.map buD) ≤ 64
  omega
theorem BuOk.refl {b : Bu} (h : BuOk b) : eqD (buD b) (buD b) = true := by
  show ((b.nm == b.nm) && (((b.bx.1 == b.bx.1) && ((b.bx.2.1 == b.bx.2.1) && ((b.bx.2.2.1 == b.bx.2.2.1) && ((b.bx.2.2.2 == b.bx.2.2.2) && true)))) && (eqD b.tip b.tip && (eqD b.tx b.tx && true)))) = true
  rw [h.et, h.ex]
  simp
theorem eqD_bu {T : List Bu} (hT : ∀ b ∈ T, BuOk b) (nd : (T.map Bu.nm).Nodup) {a b : Bu} (ha : a ∈ T) (hb : b ∈ T) : eqD (buD a) (buD b) = (a.nm == b.nm) := by
  by_cases h : a.nm = b.nm
  · have := nm_inj nd ha hb h
    subst this
    rw [(hT a ha).refl]; simp
  · have e : (a.nm == b.nm) = false := by simp [h]
    show ((a.nm == b.nm) && _) = _
    rw [e]; rfl
theorem in_bu {T B : List Bu} (hT : ∀ b ∈ T, BuOk b) (nd : (T.map Bu.nm).Nodup) (hB : ∀ b ∈ B, b ∈ T) {y : Bu} (hy : y ∈ T) : inDs (buD y) (B.map buD) = hasB B y := by
  unfold inDs hasB
  rw [List.any_map]
  induction B with
  | nil => rfl
  | cons b r ih =>
    rw [List.any_cons, List.any_cons, ih fun z hz => hB z (List.mem_cons_of_mem _ hz)]
    show (eqD (buD b) (buD y) || _) = _
    rw [eqD_bu hT nd (hB b List.mem_cons_self) hy]
theorem eqDs_bu : ∀ {l : List Bu}, (∀ b ∈ l, BuOk b) → eqDs (l.map buD) (l.map buD) = true
  | [], _ => rfl
  | a :: r, h => by
    show (eqD (buD a) (buD a) && eqDs (r.map buD) (r.map buD)) = true
    rw [(h a List.mem_cons_self).refl, eqDs_bu fun x hx => h x (List.mem_cons_of_mem _ hx)]
    rfl
section
variable {cal : Nat → Fn} {a elt c : CE} {xs : List D} {e e1 : En} {o : Option Nat}
theorem compC1F {j : Nat} (p : D → Bool) (f : D → D) (hi : bnd (ev cal a) livM e = .ok (o, xs) e1) (hk : ∀ k, o = some k → e1.cs[k]? = some (.lst xs)) (hp : ∀ d ∈ xs, bnd (ev cal c) truM ⟨e1.sl.set j (.val d), e1.cs⟩ = .ok (p d) ⟨e1.sl.set j (.val d), e1.cs⟩)
    (step : ∀ d ∈ xs, p d = true → bnd (ev cal elt) dOf ⟨e1.sl.set j (.val d), e1.cs⟩ = .ok (f d) ⟨e1.sl.set j (.val d), e1.cs⟩) (hl : xs.length ≤ 16777216) :
    ev cal (.compC 0 [j] (.v j) a (some c) elt) e = .ok (.val (.lst ((xs.filter p).map f))) e1 := by
  have hc : ∀ {α : Type} (b : α) e2, e2.cs = e1.cs → chk (o, xs) b e2 = .ok b e2 := fun b e2 h => chk_at (fun k z => by rw [h]; exact hk k z)
  obtain ⟨e', q1, q2⟩ := compG_fil (vs := [j]) (tg := .v j) (cond := bnd (evC cal (some c)) (chk (o, xs))) (elt := bnd (bnd (ev cal elt) dOf) (chk (o, xs))) (fun e => e.cs = e1.cs ∧ ∀ s, e.sl.set j s = e1.sl.set j s) p f xs [] e1 (fun d hd e he => by
    refine ⟨⟨e1.sl.set j (.val d), e1.cs⟩, ⟨e1.sl.set j (.val d), e1.cs⟩, ?_, ?_, fun _ => ⟨rfl, fun s => by simp⟩, fun hpd => ⟨⟨e1.sl.set j (.val d), e1.cs⟩, ?_, rfl, fun s => by simp⟩⟩
    · show Out.ok () ⟨(e.sl.set j .und).set j (.val d), e.cs⟩ = _
      rw [he.1, List.set_set, he.2]
    · show bnd (bnd (ev cal c) truM) (chk (o, xs)) _ = _
      rw [bnd_at (hp d hd)]
      exact hc _ _ rfl
    · rw [bnd_at (step d hd hpd)]
      exact hc _ _ rfl) (by simpa using hl) ⟨rfl, fun _ => rfl⟩
  show bnd (bnd (ev cal a) livM) (fun z => compCM 0 [j] (.v j) (evC cal (some c)) (ev cal elt) z) e = _
  rw [bnd_at hi]
  show bnd (chk (o, xs) ()) (fun _ => bnd (blockM (compG [j] (.v j) (bnd (evC cal (some c)) (chk (o, xs))) (bnd (bnd (ev cal elt) dOf) (chk (o, xs))) xs [])) fun l => newL 0 l) e1 = _
  rw [bnd_at (hc () e1 rfl)]
  have : blockM (compG [j] (.v j) (bnd (evC cal (some c)) (chk (o, xs))) (bnd (bnd (ev cal elt) dOf) (chk (o, xs))) xs []) e1 = .ok ((xs.filter p).map f) e1 := by
    unfold blockM; rw [q1]
    show Out.ok ([] ++ _) ⟨e1.sl, e'.cs⟩ = _
    rw [q2.1]; rfl
  rw [bnd_at this]; rfl
end
theorem whu_t {c : M Bool} {body : M Fl} {n : Nat} {e e1 e2 : En} (hc : c e = .ok true e1) (hb : body e1 = .ok .nxt e2) : whl c body (n + 1) e = whl c body n e2 := by
  show bnd c (fun b => whlK b (bnd body fun fl => forK fl (whl c body n))) e = _
  rw [bnd_at hc]
  show bnd body (fun fl => forK fl (whl c body n)) e1 = _
  rw [bnd_at hb]
  rfl
theorem whu_f {c : M Bool} {body : M Fl} {n : Nat} {e e1 : En} (hc : c e = .ok false e1) : whl c body (n + 1) e = .ok .nxt e1 := by
  show bnd c (fun b => whlK b (bnd body fun fl => forK fl (whl c body n))) e = _
  rw [bnd_at hc]
  rfl
def mtD (y : Bu) : D → Bool
  | .tup [_, .tup [_, .int t, _, .int h], _, _] => decide (tpB y < t + h) && decide (t < enB y)
  | _ => false
theorem mt_fil (y : Bu) (B : List Bu) : ((B.map buD).filter (mtD y)).map id = (B.filter (meetB y)).map buD := by
  rw [List.map_id, List.filter_map]
  congr 1
section
variable {P : Nat → CDef}
theorem l_meet_sp [K_l_meet P] (k : Nat) (a b : Bu) : Pu (calF P (k+1) 124) [.val (buD a), .val (buD b)] (.bl (meetB a b)) := Pu.of <| by
  simp [calF_e, K_l_meet.e_l_meet, b_l_meet, buD, b4D, meetB, tpB, enB]
  all_goals rfl
theorem ne_nil {X : List D} (h : dep (.lst X) ≤ 64) : cmpM .ne (.val (.lst X)) (.val (.lst [])) = ret (.val (.bl (!X.isEmpty))) := by
  rw [cmp_neD h (by decide)]
  cases X <;> rfl
theorem fil_any (f : Bu → Bool) : ∀ B : List Bu, ((B.filter f).map buD).isEmpty = !(B.any f)
  | [] => rfl
  | b :: r => by
    rw [List.filter_cons, List.any_cons]
    by_cases z : f b = true
    · rw [if_pos z, z]; rfl
    · rw [if_neg z, fil_any f r, (Bool.not_eq_true _).mp z]; rfl
/-- a turn of a pass -/
theorem met_turn [K_l_meet P] (k : Nat) {T B : List Bu} (hT : ∀ b ∈ T, BuOk b) (nd : (T.map Bu.nm).Nodup) (hB : ∀ b ∈ B, b ∈ T) {y : Bu} (hy : y ∈ T) (hl : B.length < 100000) (C0 : Ce) (J : List Ce) (s1 s2 s3 s5 s6 s7 s9 s10 s11 s12 : Sl) :
    ∃ s9', exs (calF P (k+1)) b1_l_bands2 ⟨[.cel 0, s1, s2, s3, .cel (J.length + 1), s5, s6, s7, .val (buD y), s9, s10, s11, s12], C0 :: (J ++ [.lst (B.map buD)])⟩ = .ok .nxt ⟨[.cel 0, s1, s2, s3, .cel (J.length + 1), s5, s6, s7, .val (buD y), s9', s10, s11, s12], C0 :: (J ++ [.lst ((bstep B y).map buD)])⟩ := by
  have hc : (C0 :: (J ++ [Ce.lst (B.map buD)]))[J.length + 1]? = some (.lst (B.map buD)) := by simp
  have mt := fun b => l_meet_sp (P := P) k y b
  have e := compC1F (cal := calF P (k+1)) (a := .var 4) (c := t2_l_bands2) (elt := x1_l_bands2) (j := 10) (xs := B.map buD) (o := some (J.length + 1)) (e := ⟨[.cel 0, s1, s2, s3, .cel (J.length + 1), s5, s6, s7, .val (buD y), s9, s10, s11, s12], C0 :: (J ++ [.lst (B.map buD)])⟩) (e1 := ⟨[.cel 0, s1, s2, s3, .cel (J.length + 1), s5, s6, s7, .val (buD y), s9, s10, s11, s12], C0 :: (J ++ [.lst (B.map buD)])⟩) (mtD y) id
    (liv_var rfl hc) (fun i h => by injection h with h; subst h; exact hc) (fun d hd => by
      obtain ⟨b, _, rfl⟩ := List.mem_map.mp hd
      have h := mt b
      have e : mtD y (buD b) = meetB y b := rfl
      rw [e]
      generalize buD b = BD at *
      generalize buD y = YD at *
      generalize meetB y b = mb at *
      generalize C0 :: (J ++ [Ce.lst (B.map buD)]) = CS at *
      simp [t2_l_bands2, h _]) (fun d hd _ => by
      obtain ⟨b, _, rfl⟩ := List.mem_map.mp hd
      generalize buD b = BD at *
      generalize buD y = YD at *
      generalize C0 :: (J ++ [Ce.lst (B.map buD)]) = CS at *
      simp [x1_l_bands2]) (by rw [List.length_map]; omega)
  rw [mt_fil, ← q1_l_bands2] at e
  have hne := ne_nil (X := (B.filter (meetB y)).map buD) (dep_bul fun b hb => hT b (hB b (List.mem_filter.mp hb).1))
  have hin : cmpM .nin (.val (buD y)) (.cel (J.length + 1)) ⟨[.cel 0, s1, s2, s3, .cel (J.length + 1), s5, s6, s7, .val (buD y), .val (.lst ((B.filter (meetB y)).map buD)), s10, s11, s12], C0 :: (J ++ [.lst (B.map buD)])⟩ = .ok (.val (.bl (!hasB B y))) ⟨[.cel 0, s1, s2, s3, .cel (J.length + 1), s5, s6, s7, .val (buD y), .val (.lst ((B.filter (meetB y)).map buD)), s10, s11, s12], C0 :: (J ++ [.lst (B.map buD)])⟩ := by
    rw [← in_bu hT nd hB hy]
    refine cmp_rd (by simp) (by simp) (x := buD y) (y := .lst (B.map buD)) rfl ?_ (inL_deep ⟨by have := (hT y hy).dep; omega, dep_bul fun b hb => hT b (hB b hb)⟩).2
    rw [rdOf_c, hc]
  have hem := fil_any (meetB y) B
  rw [hem, Bool.not_not] at hne
  refine ⟨.val (.lst ((B.filter (meetB y)).map buD)), ?_⟩
  rw [b1_l_bands2]
  refine exs_nx (e' := ⟨[.cel 0, s1, s2, s3, .cel (J.length + 1), s5, s6, s7, .val (buD y), .val (.lst ((B.filter (meetB y)).map buD)), s10, s11, s12], C0 :: (J ++ [.lst (B.map buD)])⟩) ?_ (exs_nx ?_ rfl)
  · generalize (B.filter (meetB y)).map buD = FD at *
    generalize buD y = YD at *
    generalize C0 :: (J ++ [Ce.lst (B.map buD)]) = CS at *
    simp [e]
  · unfold bstep
    have hset : (C0 :: (J ++ [Ce.lst (B.map buD)])).set (J.length + 1) (.lst (B.map buD ++ [buD y])) = C0 :: (J ++ [.lst (B.map buD ++ [buD y])]) := by simp
    have hlen : (B.map buD).length < 16777216 := by rw [List.length_map]; omega
    have hmap : (B ++ [y]).map buD = B.map buD ++ [buD y] := by simp
    generalize (B.filter (meetB y)).map buD = FD at *
    cases h1 : hasB B y <;> cases h2 : B.any (meetB y)
    · rw [h1] at hin; rw [h2] at hne
      show _ = Out.ok Fl.nxt ⟨_, C0 :: (J ++ [.lst (B.map buD)])⟩
      generalize B.map buD = BL at *
      generalize buD y = YD at *
      generalize hCS : C0 :: (J ++ [Ce.lst BL]) = CS at *
      simp [hin, hne]
    · rw [h1] at hin; rw [h2] at hne
      show _ = Out.ok Fl.nxt ⟨_, C0 :: (J ++ [.lst ((B ++ [y]).map buD)])⟩
      rw [hmap]
      generalize B.map buD = BL at *
      generalize buD y = YD at *
      rw [← hset]
      generalize hCS : C0 :: (J ++ [Ce.lst BL]) = CS at *
      simp [hin, hne, hc, hlen]
    · rw [h1] at hin; rw [h2] at hne
      show _ = Out.ok Fl.nxt ⟨_, C0 :: (J ++ [.lst (B.map buD)])⟩
      generalize B.map buD = BL at *
      generalize buD y = YD at *
      generalize hCS : C0 :: (J ++ [Ce.lst BL]) = CS at *
      simp [hin, hne]
    · rw [h1] at hin; rw [h2] at hne
      show _ = Out.ok Fl.nxt ⟨_, C0 :: (J ++ [.lst (B.map buD)])⟩
      generalize B.map buD = BL at *
      generalize buD y = YD at *
      generalize hCS : C0 :: (J ++ [Ce.lst BL]) = CS at *
      simp [hin, hne]
theorem bstep_sub {T B : List Bu} (hB : ∀ b ∈ B, b ∈ T) {y : Bu} (hy : y ∈ T) : ∀ b ∈ bstep B y, b ∈ T := by
  intro b hb
  unfold bstep at hb
  split at hb
  · rcases List.mem_append.mp hb with z | z
    · exact hB b z
    · rw [List.mem_singleton.mp z]; exact hy
  · exact hB b hb
theorem bstep_len (B : List Bu) (y : Bu) : (bstep B y).length ≤ B.length + 1 := by
  unfold bstep
  split <;> simp
theorem pass_sp [K_l_meet P] (k : Nat) {T : List Bu} (hT : ∀ b ∈ T, BuOk b) (nd : (T.map Bu.nm).Nodup) (C0 : Ce) (J : List Ce) (s1 s2 s3 s5 s6 s7 s10 s11 s12 : Sl) : ∀ (l B : List Bu) (s8 s9 : Sl), (∀ b ∈ B, b ∈ T) → (∀ y ∈ l, y ∈ T) → B.length + l.length < 100000 →
    ∃ s8' s9', forD (.v 8) (exs (calF P (k+1)) b1_l_bands2) (l.map buD) ⟨[.cel 0, s1, s2, s3, .cel (J.length + 1), s5, s6, s7, s8, s9, s10, s11, s12], C0 :: (J ++ [.lst (B.map buD)])⟩ = .ok .nxt ⟨[.cel 0, s1, s2, s3, .cel (J.length + 1), s5, s6, s7, s8', s9', s10, s11, s12], C0 :: (J ++ [.lst ((l.foldl bstep B).map buD)])⟩
  | [], B, s8, s9, _, _, _ => ⟨s8, s9, rfl⟩
  | y :: l, B, s8, s9, hB, hl, hn => by
    simp only [List.length_cons] at hn
    obtain ⟨t9, ht⟩ := met_turn (P := P) k hT nd hB (hl y List.mem_cons_self) (by omega) C0 J s1 s2 s3 s5 s6 s7 s9 s10 s11 s12
    obtain ⟨u8, u9, hu⟩ := pass_sp k hT nd C0 J s1 s2 s3 s5 s6 s7 s10 s11 s12 l (bstep B y) (.val (buD y)) t9 (bstep_sub hB (hl y List.mem_cons_self)) (fun z hz => hl z (List.mem_cons_of_mem _ hz)) (by have := bstep_len B y; omega)
    refine ⟨u8, u9, ?_⟩
    show bnd (exs (calF P (k+1)) b1_l_bands2) (fun fl => forK fl (forD (.v 8) (exs (calF P (k+1)) b1_l_bands2) (l.map buD))) ⟨[.cel 0, s1, s2, s3, .cel (J.length + 1), s5, s6, s7, .val (buD y), s9, s10, s11, s12], C0 :: (J ++ [.lst (B.map buD)])⟩ = _
    rw [bnd_at ht]
    exact hu
/-- one pass -/
theorem pass_one [K_l_meet P] (k : Nat) {T : List Bu} (hT : ∀ b ∈ T, BuOk b) (nd : (T.map Bu.nm).Nodup) (hn : T.length < 40000) (C0 : Ce) (J : List Ce) (s1 s3 s5 s6 s7 s8 s9 s10 s11 s12 : Sl) (B : List Bu) (hB : ∀ b ∈ B, b ∈ T) (hBl : B.length < 40000) :
    ∃ s8' s9', exs (calF P (k+1)) b2_l_bands2 ⟨[.cel 0, s1, .val (.lst (T.map buD)), s3, .cel (J.length + 1), s5, s6, s7, s8, s9, s10, s11, s12], C0 :: (J ++ [.lst (B.map buD)])⟩ = .ok .nxt ⟨[.cel 0, s1, .val (.lst (T.map buD)), s3, .cel (J.length + 1), s5, s6, s7, s8', s9', s10, s11, s12], C0 :: (J ++ [.lst ((T.foldl bstep B).map buD)])⟩ := by
  obtain ⟨u8, u9, hu⟩ := pass_sp (P := P) k hT nd C0 J s1 (.val (.lst (T.map buD))) s3 s5 s6 s7 s10 s11 s12 T B s8 s9 hB (fun _ h => h) (by omega)
  refine ⟨u8, u9, ?_⟩
  rw [b2_l_bands2]
  refine exs_nx (e' := ⟨[.cel 0, s1, .val (.lst (T.map buD)), s3, .cel (J.length + 1), s5, s6, s7, u8, u9, s10, s11, s12], C0 :: (J ++ [.lst ((T.foldl bstep B).map buD)])⟩) ?_ rfl
  rw [l1_l_bands2]
  refine ex_fors_at (xs := T.map buD) (e1 := ⟨[.cel 0, s1, .val (.lst (T.map buD)), s3, .cel (J.length + 1), s5, s6, s7, s8, s9, s10, s11, s12], C0 :: (J ++ [.lst (B.map buD)])⟩) ?_ hu
  generalize T.map buD = TD
  generalize C0 :: (J ++ [Ce.lst (B.map buD)]) = CS
  simp
/-- passes that change nothing -/
theorem pass_rest [K_l_meet P] (k : Nat) {T : List Bu} (hT : ∀ b ∈ T, BuOk b) (nd : (T.map Bu.nm).Nodup) (hn : T.length < 40000) (C0 : Ce) (J : List Ce) (s1 s3 s6 s7 s10 s11 s12 : Sl) (B : List Bu) (hB : ∀ b ∈ B, b ∈ T) (hBl : B.length < 40000) (hs : T.foldl bstep B = B) : ∀ (xs : List D) (s5 s8 s9 : Sl),
    ∃ s5' s8' s9', forD (.v 5) (exs (calF P (k+1)) b2_l_bands2) xs ⟨[.cel 0, s1, .val (.lst (T.map buD)), s3, .cel (J.length + 1), s5, s6, s7, s8, s9, s10, s11, s12], C0 :: (J ++ [.lst (B.map buD)])⟩ = .ok .nxt ⟨[.cel 0, s1, .val (.lst (T.map buD)), s3, .cel (J.length + 1), s5', s6, s7, s8', s9', s10, s11, s12], C0 :: (J ++ [.lst (B.map buD)])⟩
  | [], s5, s8, s9 => ⟨s5, s8, s9, rfl⟩
  | x :: xs, s5, s8, s9 => by
    obtain ⟨t8, t9, ht⟩ := pass_one (P := P) k hT nd hn C0 J s1 s3 (.val x) s6 s7 s8 s9 s10 s11 s12 B hB hBl
    rw [hs] at ht
    obtain ⟨u5, u8, u9, hu⟩ := pass_rest k hT nd hn C0 J s1 s3 s6 s7 s10 s11 s12 B hB hBl hs xs (.val x) t8 t9
    refine ⟨u5, u8, u9, ?_⟩
    show bnd (exs (calF P (k+1)) b2_l_bands2) (fun fl => forK fl (forD (.v 5) (exs (calF P (k+1)) b2_l_bands2) xs)) ⟨[.cel 0, s1, .val (.lst (T.map buD)), s3, .cel (J.length + 1), .val x, s6, s7, s8, s9, s10, s11, s12], C0 :: (J ++ [.lst (B.map buD)])⟩ = _
    rw [bnd_at ht]
    exact hu
theorem passes [K_l_meet P] (k : Nat) {T : List Bu} (hT : ∀ b ∈ T, BuOk b) (nd : (T.map Bu.nm).Nodup) (hn : T.length < 40000) (C0 : Ce) (J : List Ce) (s1 s3 s5 s6 s7 s8 s9 s10 s11 s12 : Sl) (A B : List Bu) (hA : ∀ b ∈ A, b ∈ T) (hAl : A.length < 40000) (hB : ∀ b ∈ B, b ∈ T) (hBl : B.length < 40000) (hs1 : T.foldl bstep A = B) (hs : T.foldl bstep B = B) (hne : T ≠ []) :
    ∃ s5' s8' s9', ex (calF P (k+1)) l2_l_bands2 ⟨[.cel 0, s1, .val (.lst (T.map buD)), s3, .cel (J.length + 1), s5, s6, s7, s8, s9, s10, s11, s12], C0 :: (J ++ [.lst (A.map buD)])⟩ = .ok .nxt ⟨[.cel 0, s1, .val (.lst (T.map buD)), s3, .cel (J.length + 1), s5', s6, s7, s8', s9', s10, s11, s12], C0 :: (J ++ [.lst (B.map buD)])⟩ := by
  obtain ⟨m, hm⟩ : ∃ m, T.length = m + 1 := ⟨T.length - 1, by have := List.length_pos_iff.mpr hne; omega⟩
  have hr : rangeL 0 T.length = .int (0 + (0 : Nat)) :: (rangeL 0 T.length).tail := by
    rw [hm]; unfold rangeL; simp [List.range_succ_eq_map]
  obtain ⟨t8, t9, ht⟩ := pass_one (P := P) k hT nd hn C0 J s1 s3 (.val (.int (0 + (0 : Nat)))) s6 s7 s8 s9 s10 s11 s12 A hA hAl
  rw [hs1] at ht
  obtain ⟨u5, u8, u9, hu⟩ := pass_rest (P := P) k hT nd hn C0 J s1 s3 s6 s7 s10 s11 s12 B hB hBl hs (rangeL 0 T.length).tail (.val (.int (0 + (0 : Nat)))) t8 t9
  refine ⟨u5, u8, u9, ?_⟩
  rw [l2_l_bands2]
  refine ex_fors_at (xs := rangeL 0 T.length) (e1 := ⟨[.cel 0, s1, .val (.lst (T.map buD)), s3, .cel (J.length + 1), s5, s6, s7, s8, s9, s10, s11, s12], C0 :: (J ++ [.lst (A.map buD)])⟩) ?_ ?_
  · have z : (T.map buD).length = T.length := by simp
    have z1 : rngOk (T.length : Int) = true := by unfold rngOk; rw [decide_eq_true (by omega), decide_eq_true (by omega)]; rfl
    generalize T.map buD = TD at *
    generalize C0 :: (J ++ [Ce.lst (A.map buD)]) = CS
    simp [z, z1]
  · rw [hr]
    show bnd (exs (calF P (k+1)) b2_l_bands2) (fun fl => forK fl (forD (.v 5) (exs (calF P (k+1)) b2_l_bands2) (rangeL 0 T.length).tail)) ⟨[.cel 0, s1, .val (.lst (T.map buD)), s3, .cel (J.length + 1), .val (.int (0 + (0 : Nat))), s6, s7, s8, s9, s10, s11, s12], C0 :: (J ++ [.lst (A.map buD)])⟩ = _
    rw [bnd_at ht]
    exact hu
/-! a round -/
def rkD (left : Bool) (b : Bu) : D := .tup [kyD (rkK left b), buD b]
theorem rkD_fz {left : Bool} {b : Bu} (h : BuFz b) : fzOk (rkD left b) = true := by
  show ((true && (true && (true && true))) && (fzOk (buD b) && true)) = true
  rw [h.ok]; rfl
theorem rk_key (cal : Nat → Fn) (left : Bool) (b : Bu) (hb : BuFz b) (a0 a1 a2 a3 a4 a5 a6 a7 a8 a9 a10 a11 a12 : Sl) : keyM (ev cal k2_l_bands2) 12 [a0, a1, a2, a3, a4, a5, a6, a7, a8, a9, a10, a11, a12] (rkD left b) = some (kyD (rkK left b)) := by
  have e : fzV (rkD left b) = .val (.tup [kyD (rkK left b), .tup [.str b.nm, b4D b.bx, fzD b.tip, fzD b.tx]]) := by
    unfold fzV
    rw [rkD_fz hb]
    rfl
  unfold keyM
  rw [e, k2_l_bands2]
  generalize kyD (rkK left b) = kk
  simp
def rkF (left : Bool) : D → D
  | .tup [nm, .tup [.int x, .int y, .int w, h], tip, tx] => .tup [.tup [.int (if left then 0 - x - w else x), .int y, nm], .tup [nm, .tup [.int x, .int y, .int w, h], tip, tx]]
  | d => d
theorem rkF_bu (left : Bool) (b : Bu) : rkF left (buD b) = rkD left b := by cases left <;> rfl
theorem round_sp [K_l_meet P] (k : Nat) (left : Bool) {x : Bu} {r : List Bu} (hT : ∀ b ∈ x :: r, BuOk b) (hr : Ris (x :: r)) (hh : ∀ b ∈ x :: r, tpB b < enB b) (nd : ((x :: r).map Bu.nm).Nodup) (hn : (x :: r).length < 40000) (F : List Bu) (hF : F.length < 1000000) (C0 : Ce) (J : List Ce) (s4 s5 s6 s7 s8 s9 s10 s11 s12 : Sl) :
    ∃ s4' s5' s6' s7' s8' s9' J', exs (calF P (k+1)) b3_l_bands2 ⟨[.cel 0, .val (.str (dirT (!left))), .val (.lst ((x :: r).map buD)), .val (.lst (F.map buD)), s4, s5, s6, s7, s8, s9, s10, s11, s12], C0 :: J⟩ = .ok .nxt ⟨[.cel 0, .val (.str (dirT (!left))), .val (.lst ((spnU (enB x) r).2.map buD)), .val (.lst ((F ++ srtK (rkK left) (x :: (spnU (enB x) r).1)).map buD)), s4', s5', s6', s7', s8', s9', s10, s11, s12], C0 :: J'⟩ := by
  obtain ⟨r1, r2, r3⟩ := round_one hr hh nd
  have sp := span_app r (enB x)
  have hsub : ∀ b ∈ x :: (spnU (enB x) r).1, b ∈ x :: r := fun b hb => by
    rcases List.mem_cons.mp hb with rfl | hb
    · exact List.mem_cons_self
    · exact List.mem_cons_of_mem _ (by rw [← sp]; exact List.mem_append_left _ hb)
  have hlen : (x :: (spnU (enB x) r).1).length < 40000 := by
    have := congrArg List.length sp
    rw [List.length_append] at this
    simp only [List.length_cons] at hn ⊢
    omega
  obtain ⟨t5, t8, t9, hp⟩ := passes (P := P) k hT nd hn C0 J (.val (.str (dirT (!left)))) (.val (.lst (F.map buD))) s5 s6 s7 s8 s9 s10 s11 s12 [x] (x :: (spnU (enB x) r).1) (fun b hb => by rw [List.mem_singleton.mp hb]; exact List.mem_cons_self) (by simp) hsub hlen r1 r2 (by simp)
  have hB := fun b hb => hT b (hsub b hb)
  have fl : (((x :: r).map buD).filter (fun d => !inDs d ((x :: (spnU (enB x) r).1).map buD))).map id = (spnU (enB x) r).2.map buD := by
    rw [List.map_id, List.filter_map]
    refine congrArg (List.map buD) ?_
    refine Eq.trans (List.filter_congr fun y hy => ?_) r3
    show (!inDs (buD y) _) = _
    rw [in_bu hT nd hsub hy]
  generalize hS : x :: (spnU (enB x) r).1 = B at *
  generalize (spnU (enB x) r).2 = R2 at *
  have hTT : ((x :: r).map buD).length ≤ 16777216 := by rw [List.length_map]; omega
  have e2 := comp1F (cal := calF P (k+1)) (it := .seq (.var 2)) (c := t3_l_bands2) (elt := x2_l_bands2) (j := 8) (xs := (x :: r).map buD) (e := ⟨[.cel 0, .val (.str (dirT (!left))), .val (.lst ((x :: r).map buD)), .val (.lst (F.map buD)), .cel (J.length + 1), t5, s6, s7, t8, t9, s10, s11, s12], C0 :: (J ++ [.lst (B.map buD)])⟩) (e1 := ⟨[.cel 0, .val (.str (dirT (!left))), .val (.lst ((x :: r).map buD)), .val (.lst (F.map buD)), .cel (J.length + 1), t5, s6, s7, t8, t9, s10, s11, s12], C0 :: (J ++ [.lst (B.map buD)])⟩) (fun d => !inDs d (B.map buD)) id
    (by generalize (x :: r).map buD = TD; generalize C0 :: (J ++ [Ce.lst (B.map buD)]) = CS; simp) (fun d hd => by
      obtain ⟨y, hy, rfl⟩ := List.mem_map.mp hd
      have hin : ∀ sl, cmpM .nin (.val (buD y)) (.cel (J.length + 1)) ⟨sl, C0 :: (J ++ [.lst (B.map buD)])⟩ = .ok (.val (.bl (!inDs (buD y) (B.map buD)))) ⟨sl, C0 :: (J ++ [.lst (B.map buD)])⟩ := fun sl => by
        refine cmp_rd (by simp) (by simp) (x := buD y) (y := .lst (B.map buD)) rfl ?_ (inL_deep ⟨by have := (hT y hy).dep; omega, dep_bul hB⟩).2
        rw [rdOf_c]
        simp
      generalize buD y = YD at *
      generalize inDs YD (B.map buD) = bb at *
      generalize C0 :: (J ++ [Ce.lst (B.map buD)]) = CS at *
      simp [t3_l_bands2, hin]) (fun d hd _ => by
      generalize C0 :: (J ++ [Ce.lst (B.map buD)]) = CS at *
      simp [x2_l_bands2]) hTT
  rw [fl, ← q2_l_bands2] at e2
  have sgn : (if left then (-1 : Int) else 1) = if left then -1 else 1 := rfl
  have hcB : (C0 :: (J ++ [Ce.lst (B.map buD)]))[J.length + 1]? = some (.lst (B.map buD)) := by simp
  have e4 := compC1 (cal := calF P (k+1)) (a := .var 4) (elt := x3_l_bands2) (j := 8) (xs := B.map buD) (o := some (J.length + 1)) (e := ⟨[.cel 0, .val (.str (dirT (!left))), .val (.lst (R2.map buD)), .val (.lst (F.map buD)), .cel (J.length + 1), t5, .val (.int (if left then -1 else 1)), s7, t8, t9, s10, s11, s12], C0 :: (J ++ [.lst (B.map buD)])⟩) (e1 := ⟨[.cel 0, .val (.str (dirT (!left))), .val (.lst (R2.map buD)), .val (.lst (F.map buD)), .cel (J.length + 1), t5, .val (.int (if left then -1 else 1)), s7, t8, t9, s10, s11, s12], C0 :: (J ++ [.lst (B.map buD)])⟩) (rkF left)
    (liv_var rfl hcB) (fun i h => by rw [← Option.some.inj h]; exact hcB) (fun d hd => by
      obtain ⟨b, _, rfl⟩ := List.mem_map.mp hd
      rw [rkF_bu]
      generalize C0 :: (J ++ [Ce.lst (B.map buD)]) = CS at *
      have q : b.bx.1 * -1 - b.bx.2.2.1 = 0 - b.bx.1 - b.bx.2.2.1 := by omega
      have z1 : small64 1 = true := rfl
      have z2 : small64 (-1) = true := rfl
      have z0 : small64 0 = true := rfl
      cases left
      · simp [x3_l_bands2, buD, b4D, rkD, kyD, rkK, sdB, tpB, z0, z1, z2]
      · have q2 : -b.bx.1 - b.bx.2.2.1 = 0 - b.bx.1 - b.bx.2.2.1 := by omega
        simp [x3_l_bands2, buD, b4D, rkD, kyD, rkK, sdB, tpB, z0, z1, z2, q, q2]) (by rw [List.length_map]; omega)
  have mk : (B.map buD).map (rkF left) = B.map (rkD left) := by rw [List.map_map]; exact List.map_congr_left fun b _ => rkF_bu left b
  rw [mk, ← q3_l_bands2] at e4
  have srt := srt_v (i := 12) (m := ev (calF P (k+1)) k2_l_bands2) (g := rkD left) (rk_srt left) (l := B) (e := ⟨[.cel 0, .val (.str (dirT (!left))), .val (.lst (R2.map buD)), .val (.lst (F.map buD)), .cel (J.length + 1), t5, .val (.int (if left then -1 else 1)), .val (.lst (B.map (rkD left))), t8, t9, s10, s11, s12], C0 :: (J ++ [.lst (B.map buD)])⟩) (fun b hb => rk_key _ left b (hB b hb).fz _ _ _ _ _ _ _ _ _ _ _ _ _) (fun b hb => (hB b hb).fz.rk left) (fun b hb => rkD_fz (hB b hb).fz) (by omega)
  have srt : srtKM false 0 12 (ev (calF P (k+1)) k2_l_bands2) (.val (.lst (B.map (rkD left)))) ⟨[.cel 0, .val (.str (dirT (!left))), .val (.lst (R2.map buD)), .val (.lst (F.map buD)), .cel (J.length + 1), t5, .val (.int (if left then -1 else 1)), .val (.lst (B.map (rkD left))), t8, t9, s10, s11, s12], C0 :: (J ++ [.lst (B.map buD)])⟩ = .ok (.val (.lst ((srtK (rkK left) B).map (rkD left)))) _ := srt
  have lB : (srtK (rkK left) B).length = B.length := (srtK_perm _ B).length_eq
  generalize srtK (rkK left) B = SB at *
  have e5 := comp2L (cal := calF P (k+1)) (i := 11) (j := 8) (it := .seq (.srtK false 0 12 (.var 7) k2_l_bands2)) (elt := x4_l_bands2) (by omega) SB (fun b => kyD (rkK left b)) buD buD (e := ⟨[.cel 0, .val (.str (dirT (!left))), .val (.lst (R2.map buD)), .val (.lst (F.map buD)), .cel (J.length + 1), t5, .val (.int (if left then -1 else 1)), .val (.lst (B.map (rkD left))), t8, t9, s10, s11, s12], C0 :: (J ++ [.lst (B.map buD)])⟩) (e1 := ⟨[.cel 0, .val (.str (dirT (!left))), .val (.lst (R2.map buD)), .val (.lst (F.map buD)), .cel (J.length + 1), t5, .val (.int (if left then -1 else 1)), .val (.lst (B.map (rkD left))), t8, t9, s10, s11, s12], C0 :: (J ++ [.lst (B.map buD)])⟩)
    (by
      have : SB.map (rkD left) = SB.map (fun p => D.tup [kyD (rkK left p), buD p]) := rfl
      rw [this] at srt
      generalize SB.map (fun p => D.tup [kyD (rkK left p), buD p]) = S1 at *
      generalize B.map (rkD left) = S2 at *
      generalize dirT (!left) = dd at *
      generalize k2_l_bands2 = kk at *
      generalize C0 :: (J ++ [Ce.lst (B.map buD)]) = CS at *
      simp [ev_srtK, srt]) (fun p _ => by
      generalize kyD (rkK left p) = K1
      generalize buD p = K2
      generalize C0 :: (J ++ [Ce.lst (B.map buD)]) = CS at *
      simp [x4_l_bands2]) (by omega)
  rw [← q4_l_bands2] at e5
  have zF : (F.map buD).length + (SB.map buD).length ≤ 16777216 := by rw [List.length_map, List.length_map]; omega
  refine ⟨.cel (J.length + 1), t5, .val (.int (if left then -1 else 1)), .val (.lst (B.map (rkD left))), t8, t9, J ++ [.lst (B.map buD)], ?_⟩
  rw [b3_l_bands2_eq, List.map_append]
  have hx : ((x :: r).map buD)[0]? = some (buD x) := rfl
  generalize hTD : (x :: r).map buD = TD at *
  refine exs_nx (e' := ⟨[.cel 0, .val (.str (dirT (!left))), .val (.lst TD), .val (.lst (F.map buD)), .cel (J.length + 1), s5, s6, s7, s8, s9, s10, s11, s12], C0 :: (J ++ [.lst ([x].map buD)])⟩) ?_ (exs_nx (e' := ⟨[.cel 0, .val (.str (dirT (!left))), .val (.lst TD), .val (.lst (F.map buD)), .cel (J.length + 1), t5, s6, s7, t8, t9, s10, s11, s12], C0 :: (J ++ [.lst (B.map buD)])⟩) (by rw [s1_b3_l_bands2]; exact hp) (exs_nx (e' := ⟨[.cel 0, .val (.str (dirT (!left))), .val (.lst (R2.map buD)), .val (.lst (F.map buD)), .cel (J.length + 1), t5, s6, s7, t8, t9, s10, s11, s12], C0 :: (J ++ [.lst (B.map buD)])⟩) ?_ (exs_nx (e' := ⟨[.cel 0, .val (.str (dirT (!left))), .val (.lst (R2.map buD)), .val (.lst (F.map buD)), .cel (J.length + 1), t5, .val (.int (if left then -1 else 1)), s7, t8, t9, s10, s11, s12], C0 :: (J ++ [.lst (B.map buD)])⟩) ?_ (exs_nx (e' := ⟨[.cel 0, .val (.str (dirT (!left))), .val (.lst (R2.map buD)), .val (.lst (F.map buD)), .cel (J.length + 1), t5, .val (.int (if left then -1 else 1)), .val (.lst (B.map (rkD left))), t8, t9, s10, s11, s12], C0 :: (J ++ [.lst (B.map buD)])⟩) ?_ (exs_nx ?_ rfl)))))
  · rw [s0_b3_l_bands2]
    show _ = Out.ok Fl.nxt ⟨_, C0 :: (J ++ [.lst [buD x]])⟩
    generalize buD x = X at *
    generalize F.map buD = FD at *
    generalize dirT (!left) = dd at *
    simp [hx]
  · rw [s2_b3_l_bands2]
    generalize F.map buD = FD at *
    generalize dirT (!left) = dd at *
    generalize R2.map buD = RD at *
    generalize C0 :: (J ++ [Ce.lst (B.map buD)]) = CS at *
    simp [e2]
  · rw [s3_b3_l_bands2]
    generalize F.map buD = FD at *
    generalize R2.map buD = RD at *
    generalize C0 :: (J ++ [Ce.lst (B.map buD)]) = CS at *
    cases left <;> simp [dirT]
  · rw [s4_b3_l_bands2]
    generalize F.map buD = FD at *
    generalize R2.map buD = RD at *
    generalize B.map (rkD left) = S2 at *
    generalize dirT (!left) = dd at *
    generalize C0 :: (J ++ [Ce.lst (B.map buD)]) = CS at *
    simp [e4]
  · rw [s5_b3_l_bands2]
    generalize F.map buD = FD at *
    generalize R2.map buD = RD at *
    generalize SB.map buD = SD at *
    generalize B.map (rkD left) = S2 at *
    generalize dirT (!left) = dd at *
    generalize C0 :: (J ++ [Ce.lst (B.map buD)]) = CS at *
    simp [e5, zF]
theorem Ris.sub {l m : List Bu} (h : Ris l) (s : m.Sublist l) : Ris m := List.Pairwise.sublist s h
theorem span2_sub (x : Bu) (r : List Bu) : (spnU (enB x) r).2.Sublist (x :: r) := by
  have := List.sublist_append_right (spnU (enB x) r).1 (spnU (enB x) r).2
  rw [span_app] at this
  exact this.trans (List.sublist_cons_self x r)
theorem bands_while [K_l_meet P] (k : Nat) (left : Bool) (C0 : Ce) (s10 s11 s12 : Sl) : ∀ (n : Nat) (S : List Bu), S.length ≤ n → (∀ b ∈ S, BuOk b) → Ris S → (∀ b ∈ S, tpB b < enB b) → (S.map Bu.nm).Nodup → S.length < 40000 → ∀ (N : Nat), n < N → ∀ (F : List Bu), F.length + S.length < 1000000 → ∀ (J : List Ce) (s4 s5 s6 s7 s8 s9 : Sl),
    ∃ e', whl (bnd (ev (calF P (k+1)) t1_l_bands2) truM) (exs (calF P (k+1)) b3_l_bands2) N ⟨[.cel 0, .val (.str (dirT (!left))), .val (.lst (S.map buD)), .val (.lst (F.map buD)), s4, s5, s6, s7, s8, s9, s10, s11, s12], C0 :: J⟩ = .ok .nxt e' ∧ ∃ s4' s5' s6' s7' s8' s9' J', e' = ⟨[.cel 0, .val (.str (dirT (!left))), .val (.lst []), .val (.lst ((F ++ ordB left n S).map buD)), s4', s5', s6', s7', s8', s9', s10, s11, s12], C0 :: J'⟩ := by
  intro n
  induction n with
  | zero =>
    intro S hS _ _ _ _ _ N hN F _ J s4 s5 s6 s7 s8 s9
    have : S = [] := List.length_eq_zero_iff.mp (by omega)
    subst this
    obtain ⟨m, rfl⟩ : ∃ m, N = m + 1 := ⟨N - 1, by omega⟩
    have e0 : ordB left 0 [] = [] := rfl
    rw [e0, List.append_nil]
    refine ⟨_, whu_f (e1 := ⟨[.cel 0, .val (.str (dirT (!left))), .val (.lst []), .val (.lst (F.map buD)), s4, s5, s6, s7, s8, s9, s10, s11, s12], C0 :: J⟩) ?_, s4, s5, s6, s7, s8, s9, J, rfl⟩
    have := ne_nil (X := []) (by decide)
    generalize F.map buD = FD
    generalize dirT (!left) = dd
    show bnd (ev (calF P (k+1)) t1_l_bands2) truM ⟨[.cel 0, .val (.str dd), .val (.lst []), .val (.lst FD), s4, s5, s6, s7, s8, s9, s10, s11, s12], C0 :: J⟩ = _
    simp [t1_l_bands2, this]
  | succ n ih =>
    intro S hS hT hr hh nd hn N hN F hF J s4 s5 s6 s7 s8 s9
    obtain ⟨m, rfl⟩ : ∃ m, N = m + 1 := ⟨N - 1, by omega⟩
    cases S with
    | nil =>
      have e0 : ordB left (n+1) [] = [] := rfl
      rw [e0, List.append_nil]
      refine ⟨_, whu_f (e1 := ⟨[.cel 0, .val (.str (dirT (!left))), .val (.lst []), .val (.lst (F.map buD)), s4, s5, s6, s7, s8, s9, s10, s11, s12], C0 :: J⟩) ?_, s4, s5, s6, s7, s8, s9, J, rfl⟩
      have := ne_nil (X := []) (by decide)
      generalize F.map buD = FD
      generalize dirT (!left) = dd
      show bnd (ev (calF P (k+1)) t1_l_bands2) truM ⟨[.cel 0, .val (.str dd), .val (.lst []), .val (.lst FD), s4, s5, s6, s7, s8, s9, s10, s11, s12], C0 :: J⟩ = _
      simp [t1_l_bands2, this]
    | cons x r =>
      have sub := span2_sub x r
      have sl := span_len r (enB x)
      obtain ⟨t4, t5, t6, t7, t8, t9, J1, ht⟩ := round_sp (P := P) k left hT hr hh nd hn F (by omega) C0 J s4 s5 s6 s7 s8 s9 s10 s11 s12
      have sp := congrArg List.length (span_app r (enB x))
      have lb : (srtK (rkK left) (x :: (spnU (enB x) r).1)).length = (spnU (enB x) r).1.length + 1 := by rw [(srtK_perm _ _).length_eq]; rfl
      rw [List.length_append] at sp
      simp only [List.length_cons] at hS hn hF
      obtain ⟨e', he, u4, u5, u6, u7, u8, u9, J2, hu⟩ := ih (spnU (enB x) r).2 (by omega) (fun b hb => hT b (sub.subset hb)) (hr.sub sub) (fun b hb => hh b (sub.subset hb)) (nd.sublist (sub.map _)) (by omega) m (by omega) (F ++ srtK (rkK left) (x :: (spnU (enB x) r).1)) (by rw [List.length_append, lb]; omega) J1 t4 t5 t6 t7 t8 t9
      refine ⟨e', ?_, u4, u5, u6, u7, u8, u9, J2, ?_⟩
      · rw [← he]
        refine whu_t (e1 := ⟨[.cel 0, .val (.str (dirT (!left))), .val (.lst ((x :: r).map buD)), .val (.lst (F.map buD)), s4, s5, s6, s7, s8, s9, s10, s11, s12], C0 :: J⟩) ?_ ht
        have z := ne_nil (dep_bul hT)
        rw [List.map_cons] at z ⊢
        have z2 : (buD x :: r.map buD).isEmpty = false := rfl
        rw [z2] at z
        generalize buD x :: r.map buD = TD at *
        generalize F.map buD = FD
        generalize dirT (!left) = dd
        simp [t1_l_bands2, z]
      · rw [hu, List.append_assoc]
        rfl
/-- by top alone -/
def toD (b : Bu) : D := .int (tpB b)
theorem to_srt : SrtBy toD fun a b => decide (tpB a ≤ tpB b) where
  le := fun a b => by
    show (!decide (tpB b < tpB a)) = _
    by_cases h : tpB b < tpB a
    · rw [decide_eq_true h, decide_eq_false (by omega)]; rfl
    · rw [decide_eq_false h, decide_eq_true (by omega)]; rfl
  alk := fun _ _ => rfl
  tn := .inr fun _ => rfl
def topS (l : List Bu) : List Bu := l.mergeSort fun a b => decide (tpB a ≤ tpB b)
theorem topS_perm (l : List Bu) : (topS l).Perm l := List.mergeSort_perm _ _
theorem topS_ris (l : List Bu) : Ris (topS l) := (List.pairwise_mergeSort (fun a b c h1 h2 => by simp at *; omega) (fun a b => by simp; omega) l).imp fun h => of_decide_eq_true h
theorem top_key (cal : Nat → Fn) (b : Bu) (hb : BuFz b) (a0 a1 a2 a3 a4 a5 a6 a7 a8 a9 a10 a11 a12 : Sl) : keyM (ev cal k1_l_bands2) 8 [a0, a1, a2, a3, a4, a5, a6, a7, a8, a9, a10, a11, a12] (buD b) = some (toD b) := by
  unfold keyM
  rw [hb.fz, k1_l_bands2]
  simp [b4D, toD, tpB]
theorem l_bands_sp [K_l_bands2 P] (k : Nat) (left : Bool) (l : List Bu) (hT : ∀ b ∈ l, BuOk b) (hh : ∀ b ∈ l, tpB b < enB b) (nd : (l.map Bu.nm).Nodup) (hn : l.length < 40000) :
    calF P (k+2) 181 [.cel 0, .val (.str (dirT (!left)))] [.lst (l.map buD)] = .ok (.val (.lst ((ordB left l.length (topS l)).map buD))) [.lst (l.map buD)] := by
  have pm := topS_perm l
  obtain ⟨e', he, s4, s5, s6, s7, s8, s9, J, hu⟩ := bands_while (P := P) k left (.lst (l.map buD)) .und .und .und l.length (topS l) (by rw [pm.length_eq]; exact Nat.le_refl _) (fun b hb => hT b (pm.mem_iff.mp hb)) (topS_ris l) (fun b hb => hh b (pm.mem_iff.mp hb)) ((pm.map Bu.nm).nodup_iff.mpr nd) (by rw [pm.length_eq]; exact hn) 100000 (by omega) [] (by rw [pm.length_eq]; simp; omega) [] .und .und .und .und .und .und
  subst hu
  rw [List.nil_append] at he
  have srt := srt_c (c := 0) (i := 8) (m := ev (calF P (k+1)) k1_l_bands2) (g := buD) to_srt (l := l) (e := ⟨[.cel 0, .val (.str (dirT (!left))), .und, .und, .und, .und, .und, .und, .und, .und, .und, .und, .und], [.lst (l.map buD)]⟩) rfl (fun b hb => top_key _ b (hT b hb).fz _ _ _ _ _ _ _ _ _ _ _ _ _) (fun b _ => by simp [toD, dep]) (fun b hb => (hT b hb).fz.ok) (by omega)
  have srt : srtKM false 0 8 (ev (calF P (k+1)) k1_l_bands2) (.cel 0) ⟨[.cel 0, .val (.str (dirT (!left))), .und, .und, .und, .und, .und, .und, .und, .und, .und, .und, .und], [.lst (l.map buD)]⟩ = .ok (.val (.lst ((topS l).map buD))) _ := srt
  refine calF_run K_l_bands2.e_l_bands2 (sl := [.cel 0, .val (.str (dirT (!left))), .und, .und, .und, .und, .und, .und, .und, .und, .und, .und, .und]) (e := ⟨[.cel 0, .val (.str (dirT (!left))), .val (.lst []), .val (.lst ((ordB left l.length (topS l)).map buD)), s4, s5, s6, s7, s8, s9, .und, .und, .und], .lst (l.map buD) :: J⟩) ?_ (exitC_1 rfl)
  generalize (ordB left l.length (topS l)).map buD = R at *
  rw [b_l_bands2]
  refine exs_nx (e' := ⟨[.cel 0, .val (.str (dirT (!left))), .val (.lst ((topS l).map buD)), .und, .und, .und, .und, .und, .und, .und, .und, .und, .und], [.lst (l.map buD)]⟩) ?_ (exs_nx (e' := ⟨[.cel 0, .val (.str (dirT (!left))), .val (.lst ((topS l).map buD)), .val (.lst []), .und, .und, .und, .und, .und, .und, .und, .und, .und], [.lst (l.map buD)]⟩) ?_ (exs_nx (e' := ⟨[.cel 0, .val (.str (dirT (!left))), .val (.lst []), .val (.lst R), s4, s5, s6, s7, s8, s9, .und, .und, .und], .lst (l.map buD) :: J⟩) ?_ (exs_rtn ?_)))
  · generalize (topS l).map buD = TD at *
    generalize l.map buD = L at *
    generalize dirT (!left) = dd at *
    generalize k1_l_bands2 = kk at *
    simp [ev_srtK, srt]
  · generalize (topS l).map buD = TD at *
    generalize l.map buD = L at *
    generalize dirT (!left) = dd at *
    simp
  · rw [l3_l_bands2]
    show whl (bnd (ev (calF P (k+1)) t1_l_bands2) truM) (exs (calF P (k+1)) b3_l_bands2) 100000 _ = _
    exact he
  · generalize l.map buD = L at *
    generalize dirT (!left) = dd at *
    simp
/-- both tell the same, of any order -/
theorem ord_perm (left : Bool) {l m : List Bu} (p : l.Perm m) (hh : ∀ b ∈ l, tpB b < enB b) (nd : (l.map Bu.nm).Nodup) : ordB left m.length (srtK tnK m) = ordB left l.length (topS l) := by
  have p2 : (srtK tnK m).Perm (topS l) := ((srtK_perm tnK m).trans p.symm).trans (topS_perm l).symm
  have p3 : (srtK tnK m).Perm l := (srtK_perm tnK m).trans p.symm
  unfold ordB
  rw [p.length_eq.symm, bands_perm (rkK_ok left) l.length p2 (tn_ris m) (topS_ris l) (fun b hb => hh b (p3.mem_iff.mp hb)) ((p3.map Bu.nm).nodup_iff.mpr nd)]
end
end DL
namespace DL.Law
open DL
abbrev st (s0 s2 s3 s4 s5 s6 s8 s9 s10 s11 s12 s13 s14 s15 s16 s17 s18 : Sl) (c X : Ce) : En := ⟨[s0, .cel 0, s2, s3, s4, s5, s6, .cel 1, s8, s9, s10, s11, s12, s13, s14, s15, s16, s17, s18], [c, X]⟩
/-- a drawn bubble -/
structure DrB (b : Bu) : Prop where
  tip : b.tip = .non
  tx : b.tx = .str [97]
  hi : 1 ≤ b.bx.2.2.2
theorem DrB.ok {b : Bu} (h : DrB b) (nm : b.nm.all (· < 1114112) = true) : BuOk b where
  fz := ⟨by rw [h.tip]; rfl, by rw [h.tx]; rfl, nm⟩
  dt := by rw [h.tip]; decide
  dx := by rw [h.tx]; decide
  et := by rw [h.tip]; rfl
  ex := by rw [h.tx]; rfl
/-- a box that may be one of an earlier bubble's -/
theorem box_turn (k n i : Nat) {l : List Bu} (hl : l.length = i) (hi : i ≤ 1000) (hb : ∀ b ∈ l, 1 ≤ b.bx.2.2.2) (B : Bx4) (hB : 1 ≤ B.2.2.2) (s0 s2 s3 s4 s5 s6 s9 s10 s12 s13 s14 s15 s16 s17 s18 : Sl) {c : Ce} (p : Pn n c) (hn : n + 3 < 1073741823) :
    ∃ B' c' t14 t15 t16 t17 t18, ex (calF Pr (k+1)) (.ite (.and2 (.cmp .gt (.var 8) (.lit (.int 0))) (.cmp .eq (.call 43 [(.var 1), (.lit (.int 5))]) (.lit (.int 0))))
   [.setv 14 (.idx (.idx (.var 7) (.call 43 [(.var 1), (.var 8)])) (.lit (.int 1))),
    .setT [(.v 15), (.v 16), (.v 17), (.v 18)] (.var 14),
    .setv 11 (.idx (.lst 0 [(.var 14), (.tup [(.var 15), (.bin 0 .add (.var 16) (.var 18)), (.var 17), (.var 18)]), (.tup [(.bin 0 .add (.var 15) (.lit (.int 1))), (.var 16), (.bin 0 .add (.var 17) (.lit (.int 1))), (.var 18)])]) (.call 43 [(.var 1), (.lit (.int 3))]))]
   []) (st s0 s2 s3 s4 s5 s6 (.val (.int (i : Nat))) s9 s10 (.val (b4D B)) s12 s13 s14 s15 s16 s17 s18 c (.lst (l.map buD))) = .ok .nxt (st s0 s2 s3 s4 s5 s6 (.val (.int (i : Nat))) s9 s10 (.val (b4D B')) s12 s13 t14 t15 t16 t17 t18 c' (.lst (l.map buD))) ∧ Pn (n + 3) c' ∧ 1 ≤ B'.2.2.2 := by
  by_cases hi0 : i = 0
  · subst hi0
    refine ⟨B, c, s14, s15, s16, s17, s18, ?_, p.mono (by omega), hB⟩
    generalize l.map buD = L
    generalize b4D B = BD
    simp
  · obtain ⟨i1, c1, d1, p1, l1, u1⟩ := drwN (P := Pr) k n 5 [.lst (l.map buD)] (by omega) (by omega) p (by omega)
    have ig : (0 : Int) < i := by omega
    have ig2 : 0 < i := by omega
    by_cases h1 : i1 = 0
    · subst h1
      obtain ⟨j, c2, d2, p2, l2, u2⟩ := drwN (P := Pr) k _ (i : Int) [.lst (l.map buD)] ig (by omega) p1 (by omega)
      obtain ⟨m, rfl⟩ : ∃ m : Nat, j = m := ⟨j.toNat, by omega⟩
      have hm : m < l.length := by omega
      obtain ⟨i3, c3, d3, p3, l3, u3⟩ := drwN (P := Pr) k _ 3 [.lst (l.map buD)] (by omega) (by omega) p2 (by omega)
      obtain ⟨q, hq, hq1⟩ : ∃ q : Bu, (l.map buD)[m]? = some (buD q) ∧ 1 ≤ q.bx.2.2.2 := ⟨l[m], by rw [List.getElem?_map, List.getElem?_eq_getElem hm]; rfl, hb _ (List.getElem_mem hm)⟩
      obtain ⟨nm, ⟨x, y, w, h⟩, tip, tx⟩ := q
      have hq1 : 1 ≤ h := hq1
      have hq : (l.map buD)[m]? = some (.tup [.str nm, .tup [.int x, .int y, .int w, .int h], tip, tx]) := hq
      generalize l.map buD = L at *
      generalize b4D B = BD at *
      have : i3 = 0 ∨ i3 = 1 ∨ i3 = 2 := by omega
      rcases this with rfl | rfl | rfl
      · refine ⟨(x, y, w, h), c3, .val (.tup [.int x, .int y, .int w, .int h]), .val (.int x), .val (.int y), .val (.int w), .val (.int h), ?_, p3, hq1⟩
        simp [ig, ig2, d1, d2, d3, hq, b4D]
      · refine ⟨(x, y + h, w, h), c3, .val (.tup [.int x, .int y, .int w, .int h]), .val (.int x), .val (.int y), .val (.int w), .val (.int h), ?_, p3, hq1⟩
        simp [ig, ig2, d1, d2, d3, hq, b4D]
      · refine ⟨(x + 1, y, w + 1, h), c3, .val (.tup [.int x, .int y, .int w, .int h]), .val (.int x), .val (.int y), .val (.int w), .val (.int h), ?_, p3, hq1⟩
        simp [ig, ig2, d1, d2, d3, hq, b4D]
    · refine ⟨B, c1, s14, s15, s16, s17, s18, ?_, p1.mono (by omega), hB⟩
      generalize l.map buD = L at *
      generalize b4D B = BD at *
      have h1 : (i1 == 0) = false := by simp [h1]
      simp [ig, ig2, d1, h1]
theorem draw_turn (k n i : Nat) {ns : List (List Nat)} {l : List Bu} (hl : l.length = i) (hi : i ≤ 1000) (hin : i < ns.length) (hb : ∀ b ∈ l, 1 ≤ b.bx.2.2.2) (sp : Int) (hsp : 0 < sp ∧ sp ≤ 1200) (s0 s2 s3 s4 s9 s10 s11 s12 s13 s14 s15 s16 s17 s18 : Sl) {c : Ce} (p : Pn n c) (hn : n + 7 < 1073741823) :
    ∃ b c' t11 t14 t15 t16 t17 t18, exs (calF Pr (k+1)) b1_law42 (st s0 s2 s3 s4 (.val (.int sp)) (.val (.lst (ns.map D.str))) (.val (.int (i : Nat))) s9 s10 s11 s12 s13 s14 s15 s16 s17 s18 c (.lst (l.map buD))) = .ok .nxt (st s0 s2 s3 s4 (.val (.int sp)) (.val (.lst (ns.map D.str))) (.val (.int (i : Nat))) s9 s10 t11 s12 s13 t14 t15 t16 t17 t18 c' (.lst ((l ++ [b]).map buD))) ∧ Pn (n + 7) c' ∧ DrB b ∧ b.nm = ns[i] := by
  obtain ⟨i1, c1, d1, p1, l1, u1⟩ := drwN (P := Pr) k n 500 [.lst (l.map buD)] (by omega) (by omega) p (by omega)
  obtain ⟨i2, c2, d2, p2, l2, u2⟩ := drwN (P := Pr) k _ sp [.lst (l.map buD)] (by omega) (by omega) p1 (by omega)
  obtain ⟨i3, c3, d3, p3, l3, u3⟩ := drwN (P := Pr) k _ 200 [.lst (l.map buD)] (by omega) (by omega) p2 (by omega)
  obtain ⟨hm, hhm, m1, m2⟩ : ∃ hm : Int, atP [D.int 3, .int 60, .int 300] ((i : Int) % 3) = some (.int hm) ∧ 1 ≤ hm ∧ hm ≤ 300 := by
    have : (i : Int) % 3 = 0 ∨ (i : Int) % 3 = 1 ∨ (i : Int) % 3 = 2 := by omega
    rcases this with e | e | e <;> rw [e]
    · exact ⟨3, rfl, by omega, by omega⟩
    · exact ⟨60, rfl, by omega, by omega⟩
    · exact ⟨300, rfl, by omega, by omega⟩
  obtain ⟨i4, c4, d4, p4, l4, u4⟩ := drwN (P := Pr) k _ hm [.lst (l.map buD)] (by omega) (by omega) p3 (by omega)
  obtain ⟨B, c5, t14, t15, t16, t17, t18, q, p5, hB⟩ := box_turn k _ i hl hi hb (i1 - 100, i2 - 50, 1 + i3, 1 + i4) (by simp only; omega) s0 s2 s3 s4 (.val (.int sp)) (.val (.lst (ns.map D.str))) s9 s10 s12 s13 s14 s15 s16 s17 s18 p4 (by omega)
  have hnm : (ns.map D.str)[i]? = some (.str ns[i]) := by rw [List.getElem?_map, List.getElem?_eq_getElem hin]; rfl
  have hlen : (l.map buD).length < 16777216 := by rw [List.length_map]; omega
  refine ⟨⟨ns[i], B, .non, .str [97]⟩, c5, .val (b4D B), t14, t15, t16, t17, t18, ?_, p5.mono (by omega), ⟨rfl, rfl, hB⟩, rfl⟩
  have e4 : b4D (i1 - 100, i2 - 50, 1 + i3, 1 + i4) = .tup [.int (i1 - 100), .int (i2 - 50), .int (1 + i3), .int (1 + i4)] := rfl
  have eb : (l ++ [(⟨ns[i], B, .non, .str [97]⟩ : Bu)]).map buD = l.map buD ++ [.tup [.str ns[i], b4D B, .non, .str [97]]] := by simp [buD]
  rw [eb]
  generalize ns.map D.str = NS at *
  generalize ns[i] = nm at *
  rw [e4] at q
  generalize b4D B = BD at *
  generalize l.map buD = L at *
  rw [b1_law42]
  refine exs_nx (e' := st s0 s2 s3 s4 (.val (.int sp)) (.val (.lst NS)) (.val (.int (i : Nat))) s9 s10 (.val (.tup [.int (i1 - 100), .int (i2 - 50)])) s12 s13 s14 s15 s16 s17 s18 c2 (.lst L)) (by simp [d1, d2]) ?_
  refine exs_nx (e' := st s0 s2 s3 s4 (.val (.int sp)) (.val (.lst NS)) (.val (.int (i : Nat))) s9 s10 (.val (.tup [.int (i1 - 100), .int (i2 - 50), .int (1 + i3), .int (1 + i4)])) s12 s13 s14 s15 s16 s17 s18 c4 (.lst L)) (by simp [d3, d4, hhm]) ?_
  refine exs_nx q (exs_nx (e' := st s0 s2 s3 s4 (.val (.int sp)) (.val (.lst NS)) (.val (.int (i : Nat))) s9 s10 (.val BD) s12 s13 t14 t15 t16 t17 t18 c5 (.lst (L ++ [.tup [.str nm, BD, .non, .str [97]]]))) ?_ rfl)
  simp [hnm, hlen]
abbrev st2 (s0 s2 s3 s4 s5 s6 s7 s8 s9 s10 s11 s12 s13 s14 s15 s16 s17 s18 : Sl) (cs : List Ce) : En := ⟨[s0, .cel 0, s2, s3, s4, s5, s6, s7, s8, s9, s10, s11, s12, s13, s14, s15, s16, s17, s18], cs⟩
/-- a turn of an order -/
theorem ord_turn (k : Nat) (left : Bool) {l m : List Bu} (pm : l.Perm m) (ok : ∀ b ∈ l, BuOk b) (hh : ∀ b ∈ l, tpB b < enB b) (nd : (l.map Bu.nm).Nodup) (hl : l.length ≤ 1000) (s0 s2 s3 s5 s6 s7 s8 s11 s12 s13 s14 s15 s16 s17 s18 : Sl) (cs : List Ce) :
    ∃ t12 t13 cs', exs (calF Pr (k+2)) b2_law42 (st2 s0 s2 s3 (.val (.str (dirT (!left)))) s5 s6 s7 s8 (.val (.lst ((ordB left l.length (topS l)).map buD))) (.val (.lst (m.map buD))) s11 s12 s13 s14 s15 s16 s17 s18 cs) = .ok .nxt (st2 s0 s2 s3 (.val (.str (dirT (!left)))) s5 s6 s7 s8 (.val (.lst ((ordB left l.length (topS l)).map buD))) (.val (.lst (m.map buD))) s11 t12 t13 s14 s15 s16 s17 s18 cs') := by
  have okm : ∀ b ∈ m, BuOk b := fun b hb => ok b (pm.mem_iff.mpr hb)
  have od := order_sp (P := Pr) k left m (fun b hb => (okm b hb).fz) (by rw [← pm.length_eq]; omega)
  rw [ord_perm left pm hh nd] at od
  have okR : ∀ b ∈ ordB left l.length (topS l), BuOk b := fun b hb => by
    unfold ordB at hb
    obtain ⟨q, hq, hb⟩ := List.mem_flatten.mp hb
    obtain ⟨z, hz, rfl⟩ := List.mem_map.mp hq
    have := (srtK_perm _ z).mem_iff.mp hb
    have : b ∈ (bandsN l.length (topS l)).flatten := List.mem_flatten_of_mem hz this
    rw [bands_flat l.length (topS l) (by rw [(topS_perm l).length_eq]; exact Nat.le_refl _)] at this
    exact ok b ((topS_perm l).mem_iff.mp this)
  have dR := dep_bul okR
  have eR := eqDs_bu okR
  have dm := dep_bul okm
  have em := eqDs_bu okm
  generalize (ordB left l.length (topS l)).map buD = R at *
  have lm : (m.map buD).length ≤ 16777216 := by rw [List.length_map, ← pm.length_eq]; omega
  generalize m.map buD = M at *
  have neM : cmpM .ne (.val (.lst M)) (.val (.lst M)) = ret (.val (.bl false)) := by
    rw [cmp_neD dm dm]
    show ret (Sl.val (.bl (!eqDs M M))) = _
    rw [em]; rfl
  have neR : ∀ {j : Nat} {cs : List Ce}, cs[j]? = some (.lst R) → ∀ sl, cmpM .ne (.cel j) (.val (.lst R)) ⟨sl, cs⟩ = .ok (.val (.bl false)) ⟨sl, cs⟩ := fun {j cs} he sl => by
    have h : cmpD .ne (.lst R) (.lst R) = some (!eqD (.lst R) (.lst R)) := (eqD_of dR dR).2
    have z : eqD (.lst R) (.lst R) = true := eR
    rw [z] at h
    refine cmp_rd (by simp) (by simp) (x := .lst R) (y := .lst R) ?_ rfl h
    rw [rdOf_c, he]
  refine ⟨.val (.lst M), .cel cs.length, (cs ++ [.lst []]) ++ [.lst R], ?_⟩
  generalize dirT (!left) = dd at *
  have h1 : (cs ++ [Ce.lst R])[cs.length]? = some (.lst R) := by simp
  have h2 : ((cs ++ [Ce.lst []]) ++ [Ce.lst R])[(cs ++ [Ce.lst []]).length]? = some (.lst R) := by simp
  have h3 : (cs ++ [Ce.lst R]).set cs.length (.lst []) = cs ++ [.lst []] := by simp
  have od1 : ∀ sl, callM (calF Pr (k+2) 123) [.val (.lst M), .val (.str dd)] ⟨sl, cs⟩ = .ok (.cel cs.length) ⟨sl, cs ++ [.lst R]⟩ := fun sl => od sl cs
  have od2 : ∀ sl, callM (calF Pr (k+2) 123) [.val (.lst M), .val (.str dd)] ⟨sl, cs ++ [.lst []]⟩ = .ok (.cel (cs ++ [Ce.lst []]).length) ⟨sl, (cs ++ [.lst []]) ++ [.lst R]⟩ := fun sl => od sl _
  have is4 : isiD 4 (.lst R) = true := rfl
  generalize hc1 : cs ++ [Ce.lst R] = c1 at *
  generalize hc2 : cs ++ [Ce.lst []] = c2 at *
  generalize hc3 : c2 ++ [Ce.lst R] = c3 at *
  rw [b2_law42_eq]
  refine exs_nx (e' := st2 s0 s2 s3 (.val (.str dd)) s5 s6 s7 s8 (.val (.lst R)) (.val (.lst M)) s11 (.val (.lst M)) s13 s14 s15 s16 s17 s18 cs) (by rw [s0_b2_law42]; simp) ?_
  refine exs_nx (e' := st2 s0 s2 s3 (.val (.str dd)) s5 s6 s7 s8 (.val (.lst R)) (.val (.lst M)) s11 (.val (.lst M)) (.cel cs.length) s14 s15 s16 s17 s18 c1) (by rw [s1_b2_law42]; simp [od1]) ?_
  refine exs_nx (e' := st2 s0 s2 s3 (.val (.str dd)) s5 s6 s7 s8 (.val (.lst R)) (.val (.lst M)) s11 (.val (.lst M)) (.cel cs.length) s14 s15 s16 s17 s18 c1) (by rw [s2_b2_law42]; simp [neM, neR h1, h1, is4]) ?_
  refine exs_nx (e' := st2 s0 s2 s3 (.val (.str dd)) s5 s6 s7 s8 (.val (.lst R)) (.val (.lst M)) s11 (.val (.lst M)) (.cel cs.length) s14 s15 s16 s17 s18 c2) (by rw [s3_b2_law42]; simp [h1, h3]) ?_
  refine exs_nx (e' := st2 s0 s2 s3 (.val (.str dd)) s5 s6 s7 s8 (.val (.lst R)) (.val (.lst M)) s11 (.val (.lst M)) (.cel cs.length) s14 s15 s16 s17 s18 c3) (by rw [s4_b2_law42]; simp [od2, neR h2]) rfl
theorem ord_loop (k : Nat) (left : Bool) {l : List Bu} (ok : ∀ b ∈ l, BuOk b) (hh : ∀ b ∈ l, tpB b < enB b) (nd : (l.map Bu.nm).Nodup) (hl : l.length ≤ 1000) (s0 s2 s3 s5 s6 s7 s8 s11 s14 s15 s16 s17 s18 : Sl) : ∀ (ms : List (List Bu)) (s10 s12 s13 : Sl) (cs : List Ce), (∀ m ∈ ms, l.Perm m) →
    ∃ t10 t12 t13 cs', forD (.v 10) (exs (calF Pr (k+2)) b2_law42) (ms.map fun m => D.lst (m.map buD)) (st2 s0 s2 s3 (.val (.str (dirT (!left)))) s5 s6 s7 s8 (.val (.lst ((ordB left l.length (topS l)).map buD))) s10 s11 s12 s13 s14 s15 s16 s17 s18 cs) = .ok .nxt (st2 s0 s2 s3 (.val (.str (dirT (!left)))) s5 s6 s7 s8 (.val (.lst ((ordB left l.length (topS l)).map buD))) t10 s11 t12 t13 s14 s15 s16 s17 s18 cs')
  | [], s10, s12, s13, cs, _ => ⟨s10, s12, s13, cs, rfl⟩
  | m :: ms, s10, s12, s13, cs, h => by
    obtain ⟨t12, t13, cs1, ht⟩ := ord_turn k left (h m List.mem_cons_self) ok hh nd hl s0 s2 s3 s5 s6 s7 s8 s11 s12 s13 s14 s15 s16 s17 s18 cs
    obtain ⟨u10, u12, u13, cs2, hu⟩ := ord_loop k left ok hh nd hl s0 s2 s3 s5 s6 s7 s8 s11 s14 s15 s16 s17 s18 ms (.val (.lst (m.map buD))) t12 t13 cs1 fun z hz => h z (List.mem_cons_of_mem _ hz)
    refine ⟨u10, u12, u13, cs2, ?_⟩
    generalize (ordB left l.length (topS l)).map buD = R at *
    show bnd (exs (calF Pr (k+2)) b2_law42) (fun fl => forK fl (forD (.v 10) (exs (calF Pr (k+2)) b2_law42) (ms.map fun m => D.lst (m.map buD)))) (st2 s0 s2 s3 (.val (.str (dirT (!left)))) s5 s6 s7 s8 (.val (.lst R)) (.val (.lst (m.map buD))) s11 s12 s13 s14 s15 s16 s17 s18 cs) = _
    rw [bnd_at ht]
    exact hu
theorem plainK (k : Nat) : ∀ ns : List Int, ns.length ≤ 63 → ∃ S', calF Pr (k+10) 182 [.val (.frl (ns.map D.int))] [] = .ok (.val (.bl true)) S' := by
  intro ns hl
  obtain ⟨c0, p0, h0⟩ := l_pen_c (P := Pr) (k+8) ns
  obtain ⟨i1, c1, d1, p1, l1, u1⟩ := drw (P := Pr) (k+8) _ 10 (by omega) (by omega) p0 (by omega)
  obtain ⟨i2, c2, d2, p2, l2, u2⟩ := drw (P := Pr) (k+8) _ 9 (by omega) (by omega) p1 (by omega)
  obtain ⟨i3, c3, d3, p3, l3, u3⟩ := drw (P := Pr) (k+8) _ 2 (by omega) (by omega) p2 (by omega)
  obtain ⟨i4, c4, d4, p4, l4, u4⟩ := drw (P := Pr) (k+8) _ 4 (by omega) (by omega) p3 (by omega)
  obtain ⟨m, rfl⟩ : ∃ m : Nat, i1 = m := ⟨i1.toNat, by omega⟩
  obtain ⟨_, c5, d5, p5, nm, rfl, ln, nok⟩ := (l_namesV_sp (P := Pr) (k+7) m (by omega)).at0 p4 (by omega)
  obtain ⟨left, hdr⟩ : ∃ left : Bool, atP [D.str [114, 105, 103, 104, 116], .str [108, 101, 102, 116]] i3 = some (.str (dirT (!left))) := by
    have : i3 = 0 ∨ i3 = 1 := by omega
    rcases this with rfl | rfl
    · exact ⟨false, rfl⟩
    · exact ⟨true, rfl⟩
  obtain ⟨sp, hsp, sp1⟩ : ∃ sp : Int, atP [D.int 1, .int 20, .int 300, .int 1200] i4 = some (.int sp) ∧ 0 < sp ∧ sp ≤ 1200 := by
    have : i4 = 0 ∨ i4 = 1 ∨ i4 = 2 ∨ i4 = 3 := by omega
    rcases this with rfl | rfl | rfl | rfl
    · exact ⟨1, rfl, by omega⟩
    · exact ⟨20, rfl, by omega⟩
    · exact ⟨300, rfl, by omega⟩
    · exact ⟨1200, rfl, by omega⟩
  obtain ⟨e', g1, l, s8, s11, s14, s15, s16, s17, s18, c6, he, p6, ll, dr, nms⟩ := forD_range (tg := .v 8) (body := exs (calF Pr (k+9)) b1_law42) (lo := 0) (n := m) (fun i e => ∃ (l : List Bu) (s8 s11 s14 s15 s16 s17 s18 : Sl) (c' : Ce), e = st (.val (.frl (ns.map .int))) (.val (.int (m : Nat))) (.val (.int i2)) (.val (.str (dirT (!left)))) (.val (.int sp)) (.val (.lst (nm.map D.str))) s8 .und .und s11 .und .und s14 s15 s16 s17 s18 c' (.lst (l.map buD)) ∧ Pn (100 + 7 * i) c' ∧ l.length = i ∧ (∀ b ∈ l, DrB b) ∧ l.map Bu.nm = nm.take i) (fun i e hi ⟨l, s8, s11, s14, s15, s16, s17, s18, c', he, pc, ll, dr, nms⟩ => by
    subst he
    obtain ⟨b, c'', t11, t14, t15, t16, t17, t18, q, pc', db, bn⟩ := draw_turn (k+8) _ i (ns := nm) ll (by omega) (by omega) (fun b hb => (dr b hb).hi) sp sp1 (.val (.frl (ns.map .int))) (.val (.int (m : Nat))) (.val (.int i2)) (.val (.str (dirT (!left)))) .und .und s11 .und .und s14 s15 s16 s17 s18 pc (by omega)
    refine ⟨_, ?_, l ++ [b], .val (.int (i : Nat)), t11, t14, t15, t16, t17, t18, c'', rfl, pc'.mono (by omega), by simp [ll], fun z hz => ?_, ?_⟩
    · rw [bnd_v, Int.zero_add]
      exact q
    · rcases List.mem_append.mp hz with w | w
      · exact dr z w
      · rw [List.mem_singleton.mp w]; exact db
    · rw [List.map_append, nms, List.map_singleton, bn, List.take_succ_eq_append_getElem]) (st (.val (.frl (ns.map .int))) (.val (.int (m : Nat))) (.val (.int i2)) (.val (.str (dirT (!left)))) (.val (.int sp)) (.val (.lst (nm.map D.str))) .und .und .und .und .und .und .und .und .und .und .und c5 (.lst [])) ⟨[], .und, .und, .und, .und, .und, .und, .und, c5, rfl, p5.mono (by omega), rfl, (fun _ z => by cases z), rfl⟩
  subst he
  have nms2 : l.map Bu.nm = nm := by rw [nms]; exact List.take_of_length_le (by omega)
  have nd : (l.map Bu.nm).Nodup := by rw [nms2]; exact nok.nd
  have ok : ∀ b ∈ l, BuOk b := fun b hb => (dr b hb).ok (by
    have h := nok.low b.nm (by rw [← nms2]; exact List.mem_map.mpr ⟨b, hb, rfl⟩)
    rw [List.all_eq_true]
    intro c hc
    have := h.2 c hc
    simp
    omega)
  have hh : ∀ b ∈ l, tpB b < enB b := fun b hb => by
    have := (dr b hb).hi
    unfold tpB enB
    omega
  have lb := l_bands_sp (P := Pr) (k+7) left l ok hh nd (by omega)
  have lc : ∀ sl, callM (calF Pr (k+9) 181) [.cel 1, .val (.str (dirT (!left)))] ⟨sl, [c6, .lst (l.map buD)]⟩ = .ok (.val (.lst ((ordB left l.length (topS l)).map buD))) ⟨sl, [c6, .lst (l.map buD)]⟩ := fun sl => callM_one (vs := [.str (dirT (!left))]) (j := 1) lb rfl rfl rfl
  obtain ⟨mx, hmx, hmx2, hmx3⟩ : ∃ mx : Int, max 1 (m : Int) = mx ∧ 0 < mx ∧ mx ≤ (m : Int) + 1 := ⟨_, rfl, by omega, by omega⟩
  obtain ⟨tu, htu⟩ : ∃ tu : Nat, i2 % mx = tu := ⟨(i2 % mx).toNat, by
    have := Int.emod_nonneg i2 (show mx ≠ 0 by omega)
    omega⟩
  have ltu : tu ≤ l.length := by
    have := Int.emod_lt_of_pos i2 hmx2
    omega
  have lpd : (l.map buD).length = l.length := List.length_map ..
  have cd : cutL (l.map buD) (some (tu : Int)) none = (l.map buD).drop tu := by
    unfold cutL
    rw [ixB_nat, show ixB (l.map buD).length (l.map buD).length none = (l.map buD).length from rfl, Nat.min_eq_left (by omega)]
    exact List.take_of_length_le (by simp)
  have ct : cutL (l.map buD) none (some (tu : Int)) = (l.map buD).take tu := by
    unfold cutL
    rw [ixB_nat, show ixB (l.map buD).length 0 none = 0 from rfl, List.drop_zero, Nat.sub_zero, Nat.min_eq_left (by omega)]
  have rt : (l.map buD).drop tu ++ (l.map buD).take tu = (l.drop tu ++ l.take tu).map buD := by rw [List.map_append, List.map_drop, List.map_take]
  have gl : (l.map buD).length - tu + min tu (l.map buD).length ≤ 16777216 := by omega
  have gl2 : (l.map buD).length ≤ 16777216 := by omega
  have prot : l.Perm (l.drop tu ++ l.take tu) := by
    have := List.perm_append_comm (l₁ := l.take tu) (l₂ := l.drop tu)
    rw [List.take_append_drop] at this
    exact this
  obtain ⟨t10, t12, t13, cs', lo⟩ := ord_loop (k+7) left ok hh nd (by omega) (.val (.frl (ns.map .int))) (.val (.int (m : Nat))) (.val (.int i2)) (.val (.int sp)) (.val (.lst (nm.map D.str))) (.cel 1) s8 s11 s14 s15 s16 s17 s18 [l, l.reverse, l.drop tu ++ l.take tu] .und .und .und [c6, .gone] (fun z hz => by
    simp only [List.mem_cons, List.not_mem_nil, or_false] at hz
    rcases hz with rfl | rfl | rfl
    · exact List.Perm.refl _
    · exact (List.reverse_perm l).symm
    · exact prot)
  have e3 : ([l, l.reverse, l.drop tu ++ l.take tu].map fun m => D.lst (m.map buD)) = [.lst (l.map buD), .lst (l.map buD).reverse, .lst ((l.map buD).drop tu ++ (l.map buD).take tu)] := by
    rw [rt, ← List.map_reverse]; rfl
  rw [e3] at lo
  have d5' : ∀ sl, callM (calF Pr (k+9) 63) [.cel 0, .val (.int (m : Nat))] ⟨sl, [c4]⟩ = .ok (.val (.lst (nm.map D.str))) ⟨sl, [c5]⟩ := d5
  have hm1 : rngOk (m : Int) = true := by unfold rngOk; simp; omega
  generalize (ordB left l.length (topS l)).map buD = R at *
  generalize l.map buD = L at *
  have hh : exs (calF Pr (k+9)) b_law42 ⟨[.val (.frl (ns.map .int)), .und, .und, .und, .und, .und, .und, .und, .und, .und, .und, .und, .und, .und, .und, .und, .und, .und, .und], []⟩ = .ok (.rtn (.val (.bl true))) (st2 (.val (.frl (ns.map .int))) (.val (.int (m : Nat))) (.val (.int i2)) (.val (.str (dirT (!left)))) (.val (.int sp)) (.val (.lst (nm.map D.str))) (.cel 1) s8 (.val (.lst R)) t10 s11 t12 t13 s14 s15 s16 s17 s18 cs') := by
    generalize ns.map D.int = NS at *
    generalize nm.map D.str = NM at *
    generalize dirT (!left) = dd at *
    rw [b_law42_eq]
    refine exs_nx (e' := ⟨[.val (.frl NS), .cel 0, .und, .und, .und, .und, .und, .und, .und, .und, .und, .und, .und, .und, .und, .und, .und, .und, .und], [c0]⟩) (by rw [s0_law42]; simp [h0]) ?_
    refine exs_nx (e' := ⟨[.val (.frl NS), .cel 0, .val (.int (m : Nat)), .und, .und, .und, .und, .und, .und, .und, .und, .und, .und, .und, .und, .und, .und, .und, .und], [c1]⟩) (by rw [s1_law42]; simp [d1]) ?_
    refine exs_nx (e' := ⟨[.val (.frl NS), .cel 0, .val (.int (m : Nat)), .val (.int i2), .und, .und, .und, .und, .und, .und, .und, .und, .und, .und, .und, .und, .und, .und, .und], [c2]⟩) (by rw [s2_law42]; simp [d2]) ?_
    refine exs_nx (e' := ⟨[.val (.frl NS), .cel 0, .val (.int (m : Nat)), .val (.int i2), .val (.str dd), .und, .und, .und, .und, .und, .und, .und, .und, .und, .und, .und, .und, .und, .und], [c3]⟩) (by rw [s3_law42]; simp [d3, hdr]) ?_
    refine exs_nx (e' := ⟨[.val (.frl NS), .cel 0, .val (.int (m : Nat)), .val (.int i2), .val (.str dd), .val (.int sp), .und, .und, .und, .und, .und, .und, .und, .und, .und, .und, .und, .und, .und], [c4]⟩) (by rw [s4_law42]; simp [d4, hsp]) ?_
    refine exs_nx (e' := ⟨[.val (.frl NS), .cel 0, .val (.int (m : Nat)), .val (.int i2), .val (.str dd), .val (.int sp), .val (.lst NM), .und, .und, .und, .und, .und, .und, .und, .und, .und, .und, .und, .und], [c5]⟩) (by rw [s5_law42]; simp [d5']) ?_
    refine exs_nx (e' := st (.val (.frl NS)) (.val (.int (m : Nat))) (.val (.int i2)) (.val (.str dd)) (.val (.int sp)) (.val (.lst NM)) .und .und .und .und .und .und .und .und .und .und .und c5 (.lst [])) (by rw [s6_law42]; simp) ?_
    refine exs_nx (e' := st (.val (.frl NS)) (.val (.int (m : Nat))) (.val (.int i2)) (.val (.str dd)) (.val (.int sp)) (.val (.lst NM)) s8 .und .und s11 .und .und s14 s15 s16 s17 s18 c6 (.lst L)) (by
      rw [s7_law42, l1_law42]
      refine ex_fors_at (xs := rangeL 0 m) (e1 := st (.val (.frl NS)) (.val (.int (m : Nat))) (.val (.int i2)) (.val (.str dd)) (.val (.int sp)) (.val (.lst NM)) .und .und .und .und .und .und .und .und .und .und .und c5 (.lst [])) (by simp [hm1]) g1) ?_
    refine exs_nx (e' := st (.val (.frl NS)) (.val (.int (m : Nat))) (.val (.int i2)) (.val (.str dd)) (.val (.int sp)) (.val (.lst NM)) s8 (.val (.lst R)) .und s11 .und .und s14 s15 s16 s17 s18 c6 (.lst L)) (by rw [s8_law42]; simp [lc]) ?_
    refine exs_nx (e' := st2 (.val (.frl NS)) (.val (.int (m : Nat))) (.val (.int i2)) (.val (.str dd)) (.val (.int sp)) (.val (.lst NM)) (.cel 1) s8 (.val (.lst R)) t10 s11 t12 t13 s14 s15 s16 s17 s18 cs') (by
      rw [s9_law42, l2_law42]
      refine ex_fors_at (e1 := st2 (.val (.frl NS)) (.val (.int (m : Nat))) (.val (.int i2)) (.val (.str dd)) (.val (.int sp)) (.val (.lst NM)) (.cel 1) s8 (.val (.lst R)) .und s11 .und .und s14 s15 s16 s17 s18 [c6, .gone]) ?_ lo
      simp [hmx, htu, hmx2, cd, ct, gl, gl2, dOf, dOfs]) ?_
    exact exs_rtn (by rw [s10_law42]; simp)
  exact ⟨_, calF_run (K_law42.e_law42 : Pr 182 = _) hh (exitC_0 _)⟩
theorem plain : ∀ ns : List Int, ns.length ≤ 63 → ∃ S', calF Pr 60 182 [.val (.frl (ns.map D.int))] [] = .ok (.val (.bl true)) S' := plainK 50
end DL.Law
namespace DL.Law
open PySem L2 DL
/-! the written text -/
def top (i : Nat) : Stmt := PySem.Challenge.pw_panelpages_k52_bands_of_bubbles.main.body.getD i (.Pass ⟨0, 0, 0, 0⟩)
def glb : List (Str × D) := []
def fns : List (Nat × Str) := (121, ("bands_of" : Str)) :: (122, ("side_of" : Str)) :: (123, ("band_order" : Str)) :: (42, ("_law_pen" : Str)) :: (43, ("_law_draw" : Str)) :: (63, ("_law_names" : Str)) :: (181, ("_law_bands" : Str)) :: (124, ("_law_meet" : Str)) :: (182, ("law" : Str)) :: []
def fns0 : List (Nat × Str) := [(122, "side_of")]
def xsL : List Nat := []
def lamN : List Str := ["bands_of", "band_order", "_law_bands"]
abbrev s_bands_of : Stmt := top 1
def N_bands_of : List Str := ["bubbles", "bands", "end", "bubble", "one", "left", "top", "wide", "high"]
theorem sc_bands_of : FnScope N_bands_of ["bubbles"] (defScope s_bands_of) := ⟨rfl, rfl, rfl, by decide +kernel, rfl, by decide +kernel, by decide +kernel⟩
theorem ck_bands_of : ckSs (chkS 60) ⟨N_bands_of, defScope s_bands_of, glb, fns, (some fns0), xsL⟩ b_bands_of (defBody s_bands_of) = true := by decide +kernel
abbrev s_side_of : Stmt := top 2
def N_side_of : List Str := ["box", "direction"]
theorem sc_side_of : FnScope N_side_of ["box", "direction"] (defScope s_side_of) := ⟨rfl, rfl, rfl, by decide +kernel, rfl, by decide +kernel, by decide +kernel⟩
theorem ck_side_of : ckSs (chkS 60) ⟨N_side_of, defScope s_side_of, glb, fns, none, xsL⟩ b_side_of (defBody s_side_of) = true := by decide +kernel
abbrev s_band_order : Stmt := top 3
def N_band_order : List Str := ["bubbles", "direction", "found", "band", "one"]
theorem sc_band_order : FnScope N_band_order ["bubbles", "direction"] (defScope s_band_order) := ⟨rfl, rfl, rfl, by decide +kernel, rfl, by decide +kernel, by decide +kernel⟩
theorem ck_band_order : ckSs (chkS 60) ⟨N_band_order, defScope s_band_order, glb, fns, (some fns0), xsL⟩ b_band_order (defBody s_band_order) = true := by decide +kernel
abbrev s__law_pen : Stmt := top 5
def N__law_pen : List Str := ["_law_script"]
theorem sc__law_pen : FnScope N__law_pen ["_law_script"] (defScope s__law_pen) := ⟨rfl, rfl, rfl, by decide +kernel, rfl, by decide +kernel, by decide +kernel⟩
theorem ck__law_pen : ckSs (chkS 60) ⟨N__law_pen, defScope s__law_pen, glb, fns, none, xsL⟩ b_l_pen (defBody s__law_pen) = true := by decide +kernel
abbrev s__law_draw : Stmt := top 6
def N__law_draw : List Str := ["_law_pen_here", "_law_many", "_law_at", "_law_cell", "_law_number", "_law_digit"]
theorem sc__law_draw : FnScope N__law_draw ["_law_pen_here", "_law_many"] (defScope s__law_draw) := ⟨rfl, rfl, rfl, by decide +kernel, rfl, by decide +kernel, by decide +kernel⟩
theorem ck__law_draw : ckSs (chkS 60) ⟨N__law_draw, defScope s__law_draw, glb, fns, none, xsL⟩ b_l_draw2 (defBody s__law_draw) = true := by decide +kernel
abbrev s__law_names : Stmt := top 7
def N__law_names : List Str := ["_law_pen_here", "_law_many", "_law_first", "_law_ahead", "_law_tail", "_law_k"]
theorem sc__law_names : FnScope N__law_names ["_law_pen_here", "_law_many"] (defScope s__law_names) := ⟨rfl, rfl, rfl, by decide +kernel, rfl, by decide +kernel, by decide +kernel⟩
theorem ck__law_names : ckSs (chkS 60) ⟨N__law_names, defScope s__law_names, glb, fns, none, xsL⟩ b_l_names (defBody s__law_names) = true := by decide +kernel
abbrev s__law_bands : Stmt := top 8
def N__law_bands : List Str := ["_law_bubbles", "_law_direction", "_law_left", "_law_found", "_law_band", "_law_turn", "_law_sign", "_law_ranks", "_law_one", "_law_met", "_law_other", "_law_rank", "_law_pair"]
theorem sc__law_bands : FnScope N__law_bands ["_law_bubbles", "_law_direction"] (defScope s__law_bands) := ⟨rfl, rfl, rfl, by decide +kernel, rfl, by decide +kernel, by decide +kernel⟩
theorem ck__law_bands : ckSs (chkS 60) ⟨N__law_bands, defScope s__law_bands, glb, fns, (some fns0), xsL⟩ b_l_bands2 (defBody s__law_bands) = true := by decide +kernel
abbrev s__law_meet : Stmt := top 9
def N__law_meet : List Str := ["_law_one", "_law_other"]
theorem sc__law_meet : FnScope N__law_meet ["_law_one", "_law_other"] (defScope s__law_meet) := ⟨rfl, rfl, rfl, by decide +kernel, rfl, by decide +kernel, by decide +kernel⟩
theorem ck__law_meet : ckSs (chkS 60) ⟨N__law_meet, defScope s__law_meet, glb, fns, none, xsL⟩ b_l_meet (defBody s__law_meet) = true := by decide +kernel
abbrev s_law : Stmt := top 10
def N_law : List Str := ["_law_script", "_law_pen_here", "_law_many", "_law_turned", "_law_direction", "_law_spread", "_law_names_here", "_law_bubbles", "_law_k", "_law_due", "_law_some", "_law_box", "_law_kept", "_law_told", "_law_old", "_law_left", "_law_top", "_law_across", "_law_down"]
theorem sc_law : FnScope N_law ["_law_script"] (defScope s_law) := ⟨rfl, rfl, rfl, by decide +kernel, rfl, by decide +kernel, by decide +kernel⟩
theorem ck_law : ckSs (chkS 60) ⟨N_law, defScope s_law, glb, fns, none, xsL⟩ b_law42 (defBody s_law) = true := by decide +kernel
theorem ck0_side_of : ckSs (chkS 60) ⟨N_side_of, defScope s_side_of, glb, fns0, none, xsL⟩ b_side_of (defBody s_side_of) = true := by decide +kernel
theorem all_mk {l : PySem.W.OpenLaw} {w : World} {K : PySem.W.Frag} {h : Heap} {mg : Str → Option Value} {fa : Addr} (X : K.In h) (G : h.Ns mainGlobals mg) (hfa : mg "law" = some (.ref fa))
    {f0 : Addr} {od0 an0 : Option Addr} {sl0 : Array (Option Value)} {oc0 kV0 dc0 pm0 cd0 ct0 : Value}
    {f1 : Addr} {od1 an1 : Option Addr} {sl1 : Array (Option Value)} {oc1 kV1 dc1 pm1 cd1 ct1 : Value}
    {f2 : Addr} {od2 an2 : Option Addr} {sl2 : Array (Option Value)} {oc2 kV2 dc2 pm2 cd2 ct2 : Value}
    {f3 : Addr} {od3 an3 : Option Addr} {sl3 : Array (Option Value)} {oc3 kV3 dc3 pm3 cd3 ct3 : Value}
    {f4 : Addr} {od4 an4 : Option Addr} {sl4 : Array (Option Value)} {oc4 kV4 dc4 pm4 cd4 ct4 : Value}
    {f5 : Addr} {od5 an5 : Option Addr} {sl5 : Array (Option Value)} {oc5 kV5 dc5 pm5 cd5 ct5 : Value}
    {f6 : Addr} {od6 an6 : Option Addr} {sl6 : Array (Option Value)} {oc6 kV6 dc6 pm6 cd6 ct6 : Value}
    {f7 : Addr} {od7 an7 : Option Addr} {sl7 : Array (Option Value)} {oc7 kV7 dc7 pm7 cd7 ct7 : Value}
    {f8 : Addr} {od8 an8 : Option Addr} {sl8 : Array (Option Value)} {oc8 kV8 dc8 pm8 cd8 ct8 : Value}
    (a0 : PySem.W.nsIn K mainGlobals "bands_of" = some (some (.ref f0)))
    (l0 : K.lookup f0 = some ⟨oc0, od0, .func (PySem.W.fnOf "bands_of" "bands_of" (defArgs s_bands_of) (defBody s_bands_of) (defScope s_bands_of) .none kV0 dc0 pm0 an0 cd0 ct0), sl0⟩)
    (c0 : PySem.W.codeIn K cd0 "bands_of" = true)
    (k0 : PySem.W.keepIn K (.ref f0) = true)
    (a1 : PySem.W.nsIn K mainGlobals "side_of" = some (some (.ref f1)))
    (l1 : K.lookup f1 = some ⟨oc1, od1, .func (PySem.W.fnOf "side_of" "side_of" (defArgs s_side_of) (defBody s_side_of) (defScope s_side_of) .none kV1 dc1 pm1 an1 cd1 ct1), sl1⟩)
    (c1 : PySem.W.codeIn K cd1 "side_of" = true)
    (k1 : PySem.W.keepIn K (.ref f1) = true)
    (a2 : PySem.W.nsIn K mainGlobals "band_order" = some (some (.ref f2)))
    (l2 : K.lookup f2 = some ⟨oc2, od2, .func (PySem.W.fnOf "band_order" "band_order" (defArgs s_band_order) (defBody s_band_order) (defScope s_band_order) .none kV2 dc2 pm2 an2 cd2 ct2), sl2⟩)
    (c2 : PySem.W.codeIn K cd2 "band_order" = true)
    (k2 : PySem.W.keepIn K (.ref f2) = true)
    (a3 : PySem.W.nsIn K mainGlobals "_law_pen" = some (some (.ref f3)))
    (l3 : K.lookup f3 = some ⟨oc3, od3, .func (PySem.W.fnOf "_law_pen" "_law_pen" (defArgs s__law_pen) (defBody s__law_pen) (defScope s__law_pen) .none kV3 dc3 pm3 an3 cd3 ct3), sl3⟩)
    (c3 : PySem.W.codeIn K cd3 "_law_pen" = true)
    (k3 : PySem.W.keepIn K (.ref f3) = true)
    (a4 : PySem.W.nsIn K mainGlobals "_law_draw" = some (some (.ref f4)))
    (l4 : K.lookup f4 = some ⟨oc4, od4, .func (PySem.W.fnOf "_law_draw" "_law_draw" (defArgs s__law_draw) (defBody s__law_draw) (defScope s__law_draw) .none kV4 dc4 pm4 an4 cd4 ct4), sl4⟩)
    (c4 : PySem.W.codeIn K cd4 "_law_draw" = true)
    (k4 : PySem.W.keepIn K (.ref f4) = true)
    (a5 : PySem.W.nsIn K mainGlobals "_law_names" = some (some (.ref f5)))
    (l5 : K.lookup f5 = some ⟨oc5, od5, .func (PySem.W.fnOf "_law_names" "_law_names" (defArgs s__law_names) (defBody s__law_names) (defScope s__law_names) .none kV5 dc5 pm5 an5 cd5 ct5), sl5⟩)
    (c5 : PySem.W.codeIn K cd5 "_law_names" = true)
    (k5 : PySem.W.keepIn K (.ref f5) = true)
    (a6 : PySem.W.nsIn K mainGlobals "_law_bands" = some (some (.ref f6)))
    (l6 : K.lookup f6 = some ⟨oc6, od6, .func (PySem.W.fnOf "_law_bands" "_law_bands" (defArgs s__law_bands) (defBody s__law_bands) (defScope s__law_bands) .none kV6 dc6 pm6 an6 cd6 ct6), sl6⟩)
    (c6 : PySem.W.codeIn K cd6 "_law_bands" = true)
    (k6 : PySem.W.keepIn K (.ref f6) = true)
    (a7 : PySem.W.nsIn K mainGlobals "_law_meet" = some (some (.ref f7)))
    (l7 : K.lookup f7 = some ⟨oc7, od7, .func (PySem.W.fnOf "_law_meet" "_law_meet" (defArgs s__law_meet) (defBody s__law_meet) (defScope s__law_meet) .none kV7 dc7 pm7 an7 cd7 ct7), sl7⟩)
    (c7 : PySem.W.codeIn K cd7 "_law_meet" = true)
    (k7 : PySem.W.keepIn K (.ref f7) = true)
    (a8 : PySem.W.nsIn K mainGlobals "law" = some (some (.ref f8)))
    (l8 : K.lookup f8 = some ⟨oc8, od8, .func (PySem.W.fnOf "law" "law" (defArgs s_law) (defBody s_law) (defScope s_law) .none kV8 dc8 pm8 an8 cd8 ct8), sl8⟩)
    (c8 : PySem.W.codeIn K cd8 "law" = true)
    (k8 : PySem.W.keepIn K (.ref f8) = true)
    (z0 : PySem.W.nsIn K mainGlobals "len" = some none)
    (z1 : PySem.W.nsIn K mainGlobals "max" = some none)
    (z2 : PySem.W.nsIn K mainGlobals "min" = some none)
    (z3 : PySem.W.nsIn K mainGlobals "abs" = some none)
    (z4 : PySem.W.nsIn K mainGlobals "int" = some none)
    (z5 : PySem.W.nsIn K mainGlobals "sum" = some none)
    (z6 : PySem.W.nsIn K mainGlobals "all" = some none)
    (z7 : PySem.W.nsIn K mainGlobals "any" = some none)
    (z8 : PySem.W.nsIn K mainGlobals "list" = some none)
    (z9 : PySem.W.nsIn K mainGlobals "tuple" = some none)
    (z10 : PySem.W.nsIn K mainGlobals "ord" = some none)
    (z11 : PySem.W.nsIn K mainGlobals "str" = some none)
    (z12 : PySem.W.nsIn K mainGlobals "isinstance" = some none)
    (z13 : PySem.W.nsIn K mainGlobals "range" = some none)
    (z14 : PySem.W.nsIn K mainGlobals "enumerate" = some none)
    (z15 : PySem.W.nsIn K mainGlobals "zip" = some none)
    (z16 : PySem.W.nsIn K mainGlobals "bool" = some none)
    (z17 : PySem.W.nsIn K mainGlobals "dict" = some none)
    (z18 : PySem.W.nsIn K mainGlobals "sorted" = some none)
    (z19 : PySem.W.nsIn K mainGlobals "set" = some none)
    (z20 : PySem.W.nsIn K mainGlobals "ValueError" = some none)
    (hX : xOk K xsL = true) :
    ∃ fd : FuncData, (∀ (s : Shared) (v : Value), BindsTo s fd ⟨[v], []⟩ [("_law_script", v)]) ∧ ∀ base : Heap, K.In base → base.Ns mainGlobals mg →
    (∀ y ∈ lamN, ∃ c P, PySem.W.tabIn K y = some (c, P) ∧ LamX.TabB base mg c P ∧ (P, (y ++ ".<locals>.") ++ "<lambda>") ∈ tabT K lamN ∧ ∀ p ∈ tabT K lamN, p.1 = P → p.2 = (y ++ ".<locals>.") ++ "<lambda>") →
    FnG l.prog w K mg base (L2.CX l.prog w) (2 * 60 + 2) fa fd ["_law_script"] (@spF (xbOf K) (tbOf K lamN) K (xAd K) (calF Pr 60 182)) := by
  letI : Xb := xbOf K
  letI : Tb := tbOf K lamN
  have e := hfa.symm.trans (PySem.W.mg_of X G a8)
  cases e
  have F0 := fun_mk (st := s_bands_of) l0 c0 k0
  have b0 := F0.binds (ps := ["bubbles"]) fun _ _ _ _ _ _ us hl => match us, hl with | [_], _ => rfl
  have F1 := fun_mk (st := s_side_of) l1 c1 k1
  have b1 := F1.binds (ps := ["box", "direction"]) fun _ _ _ _ _ _ us hl => match us, hl with | [_, _], _ => rfl
  have F2 := fun_mk (st := s_band_order) l2 c2 k2
  have b2 := F2.binds (ps := ["bubbles", "direction"]) fun _ _ _ _ _ _ us hl => match us, hl with | [_, _], _ => rfl
  have F3 := fun_mk (st := s__law_pen) l3 c3 k3
  have b3 := F3.binds (ps := ["_law_script"]) fun _ _ _ _ _ _ us hl => match us, hl with | [_], _ => rfl
  have F4 := fun_mk (st := s__law_draw) l4 c4 k4
  have b4 := F4.binds (ps := ["_law_pen_here", "_law_many"]) fun _ _ _ _ _ _ us hl => match us, hl with | [_, _], _ => rfl
  have F5 := fun_mk (st := s__law_names) l5 c5 k5
  have b5 := F5.binds (ps := ["_law_pen_here", "_law_many"]) fun _ _ _ _ _ _ us hl => match us, hl with | [_, _], _ => rfl
  have F6 := fun_mk (st := s__law_bands) l6 c6 k6
  have b6 := F6.binds (ps := ["_law_bubbles", "_law_direction"]) fun _ _ _ _ _ _ us hl => match us, hl with | [_, _], _ => rfl
  have F7 := fun_mk (st := s__law_meet) l7 c7 k7
  have b7 := F7.binds (ps := ["_law_one", "_law_other"]) fun _ _ _ _ _ _ us hl => match us, hl with | [_, _], _ => rfl
  have F8 := fun_mk (st := s_law) l8 c8 k8
  have b8 := F8.binds (ps := ["_law_script"]) fun _ _ _ _ _ _ us hl => match us, hl with | [_], _ => rfl
  have hE : ∀ E ∈ ((121, ⟨"bands_of", "bands_of", s_bands_of, f0, _, N_bands_of, ["bubbles"], ⟨9, 1, b_bands_of⟩, (some fns0)⟩) :: (122, ⟨"side_of", "side_of", s_side_of, f1, _, N_side_of, ["box", "direction"], ⟨2, 2, b_side_of⟩, none⟩) :: (123, ⟨"band_order", "band_order", s_band_order, f2, _, N_band_order, ["bubbles", "direction"], ⟨5, 2, b_band_order⟩, (some fns0)⟩) :: (42, ⟨"_law_pen", "_law_pen", s__law_pen, f3, _, N__law_pen, ["_law_script"], ⟨1, 1, b_l_pen⟩, none⟩) :: (43, ⟨"_law_draw", "_law_draw", s__law_draw, f4, _, N__law_draw, ["_law_pen_here", "_law_many"], ⟨6, 2, b_l_draw2⟩, none⟩) :: (63, ⟨"_law_names", "_law_names", s__law_names, f5, _, N__law_names, ["_law_pen_here", "_law_many"], ⟨6, 2, b_l_names⟩, none⟩) :: (181, ⟨"_law_bands", "_law_bands", s__law_bands, f6, _, N__law_bands, ["_law_bubbles", "_law_direction"], ⟨13, 2, b_l_bands2⟩, (some fns0)⟩) :: (124, ⟨"_law_meet", "_law_meet", s__law_meet, f7, _, N__law_meet, ["_law_one", "_law_other"], ⟨2, 2, b_l_meet⟩, none⟩) :: (182, ⟨"law", "law", s_law, fa, _, N_law, ["_law_script"], ⟨19, 1, b_law42⟩, none⟩) :: [] : List (Nat × Ent)), EntOk K mg glb fns xsL E.2 := List.forall_mem_cons.mpr ⟨⟨F0, sc_bands_of, b0, PySem.W.mg_of X G a0, rfl, rfl, ck_bands_of⟩, List.forall_mem_cons.mpr ⟨⟨F1, sc_side_of, b1, PySem.W.mg_of X G a1, rfl, rfl, ck_side_of⟩, List.forall_mem_cons.mpr ⟨⟨F2, sc_band_order, b2, PySem.W.mg_of X G a2, rfl, rfl, ck_band_order⟩, List.forall_mem_cons.mpr ⟨⟨F3, sc__law_pen, b3, PySem.W.mg_of X G a3, rfl, rfl, ck__law_pen⟩, List.forall_mem_cons.mpr ⟨⟨F4, sc__law_draw, b4, PySem.W.mg_of X G a4, rfl, rfl, ck__law_draw⟩, List.forall_mem_cons.mpr ⟨⟨F5, sc__law_names, b5, PySem.W.mg_of X G a5, rfl, rfl, ck__law_names⟩, List.forall_mem_cons.mpr ⟨⟨F6, sc__law_bands, b6, PySem.W.mg_of X G a6, rfl, rfl, ck__law_bands⟩, List.forall_mem_cons.mpr ⟨⟨F7, sc__law_meet, b7, PySem.W.mg_of X G a7, rfl, rfl, ck__law_meet⟩, List.forall_mem_cons.mpr ⟨⟨F8, sc_law, b8, PySem.W.mg_of X G a8, rfl, rfl, ck_law⟩, fun _ z => nomatch z⟩⟩⟩⟩⟩⟩⟩⟩⟩
  have hC : ∀ x d, glb.lookup x = some d → ∃ u v, mg x = some u ∧ RelV v u ∧ ∀ G, Dr K G v d := con_of (fun _ z => nomatch z)
  have hB : ∀ x ∈ bNames, mg x = none := List.forall_mem_cons.mpr ⟨PySem.W.mg_none_of X G z0, List.forall_mem_cons.mpr ⟨PySem.W.mg_none_of X G z1, List.forall_mem_cons.mpr ⟨PySem.W.mg_none_of X G z2, List.forall_mem_cons.mpr ⟨PySem.W.mg_none_of X G z3, List.forall_mem_cons.mpr ⟨PySem.W.mg_none_of X G z4, List.forall_mem_cons.mpr ⟨PySem.W.mg_none_of X G z5, List.forall_mem_cons.mpr ⟨PySem.W.mg_none_of X G z6, List.forall_mem_cons.mpr ⟨PySem.W.mg_none_of X G z7, List.forall_mem_cons.mpr ⟨PySem.W.mg_none_of X G z8, List.forall_mem_cons.mpr ⟨PySem.W.mg_none_of X G z9, List.forall_mem_cons.mpr ⟨PySem.W.mg_none_of X G z10, List.forall_mem_cons.mpr ⟨PySem.W.mg_none_of X G z11, List.forall_mem_cons.mpr ⟨PySem.W.mg_none_of X G z12, List.forall_mem_cons.mpr ⟨PySem.W.mg_none_of X G z13, List.forall_mem_cons.mpr ⟨PySem.W.mg_none_of X G z14, List.forall_mem_cons.mpr ⟨PySem.W.mg_none_of X G z15, List.forall_mem_cons.mpr ⟨PySem.W.mg_none_of X G z16, List.forall_mem_cons.mpr ⟨PySem.W.mg_none_of X G z17, List.forall_mem_cons.mpr ⟨PySem.W.mg_none_of X G z18, List.forall_mem_cons.mpr ⟨PySem.W.mg_none_of X G z19, List.forall_mem_cons.mpr ⟨PySem.W.mg_none_of X G z20, fun _ z => nomatch z⟩⟩⟩⟩⟩⟩⟩⟩⟩⟩⟩⟩⟩⟩⟩⟩⟩⟩⟩⟩⟩
  have hE0 : ∀ E ∈ ((122, ⟨"side_of", "side_of", s_side_of, f1, _, N_side_of, ["box", "direction"], ⟨2, 2, b_side_of⟩, none⟩) :: [] : List (Nat × Ent)), EntOk K mg glb fns0 xsL E.2 := List.forall_mem_cons.mpr ⟨⟨F1, sc_side_of, b1, PySem.W.mg_of X G a1, rfl, rfl, ck0_side_of⟩, fun _ z => nomatch z⟩
  have hA : ∀ base : Heap, K.In base → base.Ns mainGlobals mg → ∀ f x, fns0.lookup f = some x → ∃ a fd ps, mg x = some (.ref a) ∧ PySem.W.keepIn K (.ref a) = true ∧ Binds K fd ps [] ∧ ∀ k, FnG l.prog w K mg base (L2.CX l.prog w) (2 * k + 2) a fd ps (@spF (xbOf K) ⟨[]⟩ K (xAd K) (calF Pr k f)) := by
    intro base hKb hNb f x h
    have hA0 := @all_ok (xbOf K) ⟨[]⟩ l.prog w K mg base xsL ((122, ⟨"side_of", "side_of", s_side_of, f1, _, N_side_of, ["box", "direction"], ⟨2, 2, b_side_of⟩, none⟩) :: []) glb Pr (pr_sub (List.forall_mem_cons.mpr ⟨rfl, fun _ z => nomatch z⟩)) hE0 hC hB (xOk_at X G hX) hKb hNb (List.forall_mem_cons.mpr ⟨(fun _ z => nomatch z), fun _ z => nomatch z⟩) (List.forall_mem_cons.mpr ⟨(fun _ z => nomatch z), fun _ z => nomatch z⟩)
    have m := lookup_mem h
    rcases List.mem_cons.mp m with e | m
    · cases e; exact ⟨_, _, _, PySem.W.mg_of X G a1, F1.kp, b1, fun k => hA0 k 122 _ rfl⟩
    cases m
  exact ⟨_, fun s v => .of_eq rfl, fun base hKb hNb hTB => all_ok (prC_of rfl) hE hC hB (xOk_at X G hX) hKb hNb (List.forall_mem_cons.mpr ⟨(fun _ _ => ⟨hTB "bands_of" (by decide +kernel)⟩), List.forall_mem_cons.mpr ⟨(fun _ z => nomatch z), List.forall_mem_cons.mpr ⟨(fun _ _ => ⟨hTB "band_order" (by decide +kernel)⟩), List.forall_mem_cons.mpr ⟨(fun _ z => nomatch z), List.forall_mem_cons.mpr ⟨(fun _ z => nomatch z), List.forall_mem_cons.mpr ⟨(fun _ z => nomatch z), List.forall_mem_cons.mpr ⟨(fun _ _ => ⟨hTB "_law_bands" (by decide +kernel)⟩), List.forall_mem_cons.mpr ⟨(fun _ z => nomatch z), List.forall_mem_cons.mpr ⟨(fun _ z => nomatch z), fun _ z => nomatch z⟩⟩⟩⟩⟩⟩⟩⟩⟩) (List.forall_mem_cons.mpr ⟨(fun _ z => by cases z; exact hA base hKb hNb), List.forall_mem_cons.mpr ⟨(fun _ z => nomatch z), List.forall_mem_cons.mpr ⟨(fun _ z => by cases z; exact hA base hKb hNb), List.forall_mem_cons.mpr ⟨(fun _ z => nomatch z), List.forall_mem_cons.mpr ⟨(fun _ z => nomatch z), List.forall_mem_cons.mpr ⟨(fun _ z => nomatch z), List.forall_mem_cons.mpr ⟨(fun _ z => by cases z; exact hA base hKb hNb), List.forall_mem_cons.mpr ⟨(fun _ z => nomatch z), List.forall_mem_cons.mpr ⟨(fun _ z => nomatch z), fun _ z => nomatch z⟩⟩⟩⟩⟩⟩⟩⟩⟩) 60 182 _ rfl⟩
end DL.Law
open PySem PySem.W PyProof.Rows
set_option maxHeartbeats 0 in
theorem PySem.Challenge.cw_panelpages_k52_bands_of_bubbles_holds : PySem.Challenge.rw_panelpages_k52_bands_of_bubbles.Holds := by
  w_on; o_law; k_head; (case hw => w_witness2)
  k_fill
  refine DL.law_walk (l := PySem.Challenge.rw_panelpages_k52_bands_of_bubbles) (x := "_law_script") DL.Law.lamN DL.Law.Pr 60 182 rfl rfl ⟨rfl, by decide, by decide⟩ (fun w h Y => ⟨PySem.W.km_in_of Y, PySem.W.km_tabs_of Y⟩) (fun p => by kernel_rfl) DL.Law.plain ?F
  case F =>
    intro w mg fa h KX G hmg
    refine' DL.Law.all_mk KX G hmg ?a0 ?l0 ?c0 ?k0 ?a1 ?l1 ?c1 ?k1 ?a2 ?l2 ?c2 ?k2 ?a3 ?l3 ?c3 ?k3 ?a4 ?l4 ?c4 ?k4 ?a5 ?l5 ?c5 ?k5 ?a6 ?l6 ?c6 ?k6 ?a7 ?l7 ?c7 ?k7 ?a8 ?l8 ?c8 ?k8 ?z0 ?z1 ?z2 ?z3 ?z4 ?z5 ?z6 ?z7 ?z8 ?z9 ?z10 ?z11 ?z12 ?z13 ?z14 ?z15 ?z16 ?z17 ?z18 ?z19 ?z20 ?hX
    (case a0 => k_is)
    (case l0 => k_is)
    (case c0 => k_is)
    (case k0 => k_is)
    (case a1 => k_is)
    (case l1 => k_is)
    (case c1 => k_is)
    (case k1 => k_is)
    (case a2 => k_is)
    (case l2 => k_is)
    (case c2 => k_is)
    (case k2 => k_is)
    (case a3 => k_is)
    (case l3 => k_is)
    (case c3 => k_is)
    (case k3 => k_is)
    (case a4 => k_is)
    (case l4 => k_is)
    (case c4 => k_is)
    (case k4 => k_is)
    (case a5 => k_is)
    (case l5 => k_is)
    (case c5 => k_is)
    (case k5 => k_is)
    (case a6 => k_is)
    (case l6 => k_is)
    (case c6 => k_is)
    (case k6 => k_is)
    (case a7 => k_is)
    (case l7 => k_is)
    (case c7 => k_is)
    (case k7 => k_is)
    (case a8 => k_is)
    (case l8 => k_is)
    (case c8 => k_is)
    (case k8 => k_is)
    (case z0 => k_is)
    (case z1 => k_is)
    (case z2 => k_is)
    (case z3 => k_is)
    (case z4 => k_is)
    (case z5 => k_is)
    (case z6 => k_is)
    (case z7 => k_is)
    (case z8 => k_is)
    (case z9 => k_is)
    (case z10 => k_is)
    (case z11 => k_is)
    (case z12 => k_is)
    (case z13 => k_is)
    (case z14 => k_is)
    (case z15 => k_is)
    (case z16 => k_is)
    (case z17 => k_is)
    (case z18 => k_is)
    (case z19 => k_is)
    (case z20 => k_is)
    (case hX => first | k_is | kernel_rfl | decide +kernel)
