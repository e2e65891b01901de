import PyProof.Rows.All
import Wide.All
import OpenK.AllK
import Wide.FinOn
import HandS.ForMost
import HandS.ForExc
import HandS.TryMany
import HandS.ExcInit
import HandS.ExcIs
import HandS.ExcField
import KE.KExcIs
import HandS.ClsMeth
import HandS.ExcOwn
import HandS.HeadHook1
import HandS.Lambda
import HandS.TupAny
import HandS.Dict
import HandS.Wide
import HandS.Deep
import HandS.IsInst
import HandS.SortInts
import HandS.CallSlots
import HandS.Defaults
import HandS.NoneIn
import HandS.Style
import HandS.WideBits
import KE.KDictCopyH
import HandS.SortOrd
import KE.SortData
import HandS.HeadWalk
import HandS.Zip
import HandS.SetFor
import HandS.Strs
import HandS.Rev
import HandS.Conv
import HandS.SortKw
import KE.SortKeyHeap
import HandS.Iter
import PyProof.StrLoop
import HandS.DictEq
import HandS.Call
import KE.KDictPairs
import HandS.More
import HandS.Words
import HandS.WordsExc
import HandS.Head0
import HandS.Head1
import HandS.Head2
import HandS.HeadEnd
import HandS.HeadHook2
import HandS.HeadHook4
import HandS.EndTab
import PySem.Challenge.RW_selfsight_k06_halls_checked
set_option Elab.async false
set_option linter.all false
set_option autoImplicit false
set_option maxRecDepth 10000
namespace MI

/-! ### data -/
inductive D where
  | non | bl (b : Bool) | int (i : Int) | str (s : List Nat) | tup (xs : List D) | lst (xs : List D) | scr (xs : List D) | dct (ks vs : List D) | dci (ks : List Int) (vs : List D)
  | exn (c : List Nat) (ks : List (List Nat)) (vs : List D) | fnc (nm : List Nat)
instance : Inhabited D := ⟨.non⟩

mutual
def D.eqv : D → D → Bool
  | .non, y => match y with | .non => true | _ => false
  | .bl a, y => match y with | .bl b => a == b | .int j => decide ((if a then (1 : Int) else 0) = j) | _ => false
  | .int i, y => match y with | .int j => decide (i = j) | .bl b => decide (i = (if b then (1 : Int) else 0)) | _ => false
  | .str a, y => match y with | .str b => decide (a = b) | _ => false
  | .tup xs, y => match y with | .tup ys => D.eqvs xs ys | _ => false
  | .lst xs, y => match y with | .lst ys => D.eqvs xs ys | _ => false
  | .scr _, _ => false
  | .dct _ _, _ => false
  | .dci _ _, _ => false
  | .exn _ _ _, _ => false
  | .fnc _, _ => false
def D.eqvs : List D → List D → Bool
  | [], ys => match ys with | [] => true | _ => false
  | x :: xs, ys => match ys with | [] => false | y :: ys => D.eqv x y && D.eqvs xs ys
end
mutual
/-- at most n deep, its texts of plain signs -/
def D.okd : D → Nat → Bool
  | .non, _ => true
  | .bl _, _ => true
  | .int _, _ => true
  | .str s, _ => s.all (fun c => decide (c < 1114112))
  | .tup xs, n => match n with | 0 => false | n + 1 => D.okds xs n
  | .lst xs, n => match n with | 0 => false | n + 1 => D.okds xs n
  | .scr _, _ => false
  | .dct _ _, _ => false
  | .dci _ _, _ => false
  | .exn _ _ _, _ => false
  | .fnc _, _ => false
def D.okds : List D → Nat → Bool
  | [], _ => true
  | x :: xs, n => D.okd x n && D.okds xs n
end
mutual
/-- two data that can be compared by <, place by place -/
def D.alike : D → D → Bool
  | .non, y => match y with | .non => true | _ => false
  | .bl _, y => match y with | .bl _ => true | _ => false
  | .int _, y => match y with | .int _ => true | _ => false
  | .str _, y => match y with | .str _ => true | _ => false
  | .tup xs, y => match y with | .tup ys => D.alikes xs ys | _ => false
  | .lst xs, y => match y with | .lst ys => D.alikes xs ys | _ => false
  | .scr _, _ => false
  | .dct _ _, _ => false
  | .dci _ _, _ => false
  | .exn _ _ _, _ => false
  | .fnc _, _ => false
def D.alikes : List D → List D → Bool
  | [], _ => true
  | x :: xs, ys => match ys with | [] => true | y :: ys => D.alike x y && D.alikes xs ys
end
def lexN : List Nat → List Nat → Bool
  | [], ys => !ys.isEmpty
  | _ :: _, [] => false
  | x :: xs, y :: ys => decide (x < y) || (decide (x = y) && lexN xs ys)
mutual
/-- < of alike data -/
def D.lt : D → D → Bool
  | .non, _ => false
  | .bl a, y => match y with | .bl b => !a && b | _ => false
  | .int i, y => match y with | .int j => decide (i < j) | _ => false
  | .str a, y => match y with | .str b => lexN a b | _ => false
  | .tup xs, y => match y with | .tup ys => D.lts xs ys | _ => false
  | .lst xs, y => match y with | .lst ys => D.lts xs ys | _ => false
  | .scr _, _ => false
  | .dct _ _, _ => false
  | .dci _ _, _ => false
  | .exn _ _ _, _ => false
  | .fnc _, _ => false
def D.lts : List D → List D → Bool
  | [], ys => match ys with | [] => false | _ :: _ => true
  | x :: xs, ys => match ys with | [] => false | y :: ys => D.lt x y || (D.eqv x y && D.lts xs ys)
end

mutual
/-- no list in it -/
def D.nol : D → Bool
  | .non => true
  | .bl _ => true
  | .int _ => true
  | .str _ => true
  | .tup xs => D.nols xs
  | .lst _ => false
  | .scr _ => false
  | .dct _ _ => false
  | .dci _ _ => false
  | .exn _ _ _ => false
  | .fnc _ => false
def D.nols : List D → Bool
  | [] => true
  | x :: xs => D.nol x && D.nols xs
end

/-! ### states -/
inductive Slot where
  | u | v (x : D) (own : Bool) | o (i : Nat) | d (ks : List (List D))
structure Inst where
  cls : Nat
  fs : List (Nat × D)
abbrev Store := List Inst
structure State where
  r : List Slot
  S : Store
structure Exn where
  c : List Nat
  ks : List (List Nat)
  vs : List D
inductive R (σ α : Type) where
  | ok (a : α) (s : σ) | exc (e : Exn) (s : σ) | bad
/-- what an expression gives: shared data, fresh (its top object is nobody's), borrowed; an instance; a pair whose first part is fresh (where it is a list) -/
inductive EV where
  | sh (x : D) | fr (x : D) | bo (x : D) | ob (i : Nat) | ft (x y : D)
abbrev Fn := Store → List Slot → R Store EV
def R.bind {σ α β : Type} (r : R σ α) (f : α → σ → R σ β) : R σ β := match r with
  | .ok a s => f a s
  | .exc e s => .exc e s
  | .bad => .bad
def R.map {σ τ α β : Type} (r : R σ α) (f : α → β) (g : σ → τ) : R τ β := match r with
  | .ok a s => .ok (f a) (g s)
  | .exc e s => .exc e (g s)
  | .bad => .bad
def EV.dat : EV → Option D
  | .sh x => some x | .fr x => some x | .bo x => some x | .ob _ => none | .ft _ _ => none
def EV.slot : EV → Option Slot
  | .sh x => some (.v x false) | .fr x => some (.v x false) | .bo _ => none | .ob i => some (.o i) | .ft _ _ => none
def orBad {σ α : Type} (o : Option α) (s : σ) : R σ α := match o with
  | some a => .ok a s
  | none => .bad
/-- the data of an expression's value -/
def R.dat {σ β : Type} (r : R σ EV) (f : D → σ → R σ β) : R σ β := r.bind fun v s => match v.dat with | some x => f x s | none => .bad

/-! ### operators -/
inductive Bop where | add | sub | mul | fdiv | mod | pow | ndiv | nmod | shl | shr | band deriving DecidableEq
inductive Cop where | eq | ne | lt | le | gt | ge | mem | nmem deriving DecidableEq
inductive Ty where | int | bool | str | tuple | list deriving DecidableEq
inductive Blt where | len | abs | int | list | tuple | all | any | sorted | min | max | str deriving DecidableEq
/-- operators of one thing that are written by a form of their own: x[::-1], tuple(reversed(x)), list(reversed(x)) -/
inductive Un where | rvs | trv | lrv | sst deriving DecidableEq
inductive Bm where | index | split | partition | join | count | get deriving DecidableEq
def SZ : Nat := 16777216
def fits (n : Nat) : Bool := decide (n ≤ SZ)
def mulOk (i j : Int) : Bool := decide (i.natAbs.log2 + j.natAbs.log2 < 1000000)
def divOk (j : Int) : Bool := decide (0 < j) && decide (j.natAbs.log2 < 9000)
def powOk (i j : Int) : Bool := decide (0 ≤ j) && decide (j ≤ 1000000) && decide (i.natAbs < 18446744073709551616)
def gd {α : Type} (b : Bool) (x : α) : Option α := if b = true then some x else none
def binop : Bop → D → D → Option EV
  | .add, .int i, .int j => some (.sh (.int (i + j)))
  | .add, .str a, .str b => gd (fits (a.length + b.length)) (.sh (.str (a ++ b)))
  | .add, .lst a, .lst b => gd (fits (a.length + b.length)) (.fr (.lst (a ++ b)))
  | .add, .tup a, .tup b => gd (fits (a.length + b.length)) (.sh (.tup (a ++ b)))
  | .sub, .int i, .int j => some (.sh (.int (i - j)))
  | .mul, .int i, .int j => gd (mulOk i j) (.sh (.int (i * j)))
  | .mul, .lst a, .int n => gd (decide (0 ≤ n) && (decide (n < 16777216) && fits (a.length * n.toNat))) (.fr (.lst (List.replicate n.toNat a).flatten))
  | .fdiv, .int i, .int j => gd (divOk j) (.sh (.int (i / j)))
  | .mod, .int i, .int j => gd (decide (0 < j)) (.sh (.int (i % j)))
  | .pow, .int i, .int j => gd (powOk i j) (.sh (.int (i ^ j.toNat)))
  | .ndiv, .int i, .int j => gd (decide (j ≠ 0) && decide (j.natAbs.log2 < 9000)) (.sh (.int (i.fdiv j)))
  | .nmod, .int i, .int j => gd (decide (j ≠ 0)) (.sh (.int (i.fmod j)))
  | .shl, .int i, .int j => gd (powOk i j) (.sh (.int (i * 2 ^ j.toNat)))
  | .shr, .int i, .int j => gd (decide (0 ≤ j)) (.sh (.int (i / 2 ^ j.toNat)))
  | .band, .int i, .int j => gd (decide (0 ≤ i) && decide (j = 1)) (.sh (.int (i % 2)))
  | _, _, _ => none
def DEEP : Nat := 60
def isNon : D → Bool
  | .non => true | _ => false
/-- an exception, a function: no data of a built-in class -/
def D.obj : D → Bool
  | .exn _ _ _ => true | .fnc _ => true | _ => false
def flatD : D → Bool
  | .non => true | .bl _ => true | .int _ => true | .str _ => true | _ => false
def memD (x : D) (ys : List D) : Bool := ys.any fun y => D.eqv y x
def keyPart : D → Bool
  | .int _ => true | .str _ => true | _ => false
/-- d.get(k) of a dict of whole numbers -/
def getI (k : Int) : List Int → List D → Option D
  | c :: cs, d :: ds => if c = k then some d else getI k cs ds
  | _, _ => none
/-- pairs of which dict() makes a dict: a tuple of whole numbers and texts, and something plain -/
def pairD : D → Option (List D × D)
  | .tup [.tup ks, v] => if (ks.all keyPart && flatD v) = true then some (ks, v) else none
  | _ => none
def pairsD : List D → Option (List (List D × D))
  | [] => some []
  | x :: xs => match pairD x, pairsD xs with
    | some p, some ps => some (p :: ps)
    | _, _ => none
def nodupK : List (List D × D) → Bool
  | [] => true
  | p :: ps => !(ps.any fun q => D.eqvs p.1 q.1) && nodupK ps
def dqA : D → Option (List (List D × D))
  | .lst xs => (pairsD xs).bind fun ps => if nodupK ps = true then some ps else none
  | _ => none
def sameK (ps qs : List (List D × D)) : Bool := decide (ps.length = qs.length) && ps.all fun p => qs.any fun q => D.eqvs q.1 p.1 && D.eqv p.2 q.2
/-- a key of a dict: a tuple of whole numbers and texts -/
def D.keyok : D → Bool
  | .tup xs => xs.all keyPart
  | _ => false
/-- .. that is asked for: truths and None too -/
def keyPartN : D → Bool
  | .int _ => true | .str _ => true | .bl _ => true | .non => true | _ => false
def D.keyokN : D → Bool
  | .tup xs => xs.all keyPartN
  | _ => false
def memK (x : D) (ks : List (List D)) : Bool := ks.any fun k => D.eqv (.tup k) x
def cmpop : Cop → D → D → Option Bool
  | .eq, x, y => gd (x.okd DEEP && y.okd DEEP) (D.eqv x y)
  | .ne, x, y => gd (x.okd DEEP && y.okd DEEP) (!D.eqv x y)
  | .lt, .int i, .int j => some (decide (i < j))
  | .le, .int i, .int j => some (decide (i ≤ j))
  | .gt, .int i, .int j => some (decide (j < i))
  | .ge, .int i, .int j => some (decide (j ≤ i))
  | .mem, x, .lst ys => gd (x.okd DEEP && (D.lst ys).okd DEEP) (memD x ys)
  | .mem, x, .tup ys => gd ((flatD x && ys.all flatD) || (x.okd DEEP && (D.tup ys).okd DEEP)) (memD x ys)
  | .mem, x, .dct ks _ => gd x.keyokN (memD x ks)
  | .mem, .str x, .str y => match x with | [c] => some (decide (c ∈ y)) | _ => none
  | .nmem, x, .lst ys => gd (x.okd DEEP && (D.lst ys).okd DEEP) (!memD x ys)
  | .nmem, x, .tup ys => gd ((flatD x && ys.all flatD) || (x.okd DEEP && (D.tup ys).okd DEEP)) (!memD x ys)
  | .nmem, x, .dct ks _ => gd x.keyokN (!memD x ks)
  | .nmem, .str x, .str y => match x with | [c] => some (decide (c ∉ y)) | _ => none
  | _, _, _ => none
/-- the place of an index -/
def ixN (n : Nat) (i : Int) : Option Nat := if 0 ≤ i then (if i < n then some i.toNat else none) else if -(n : Int) ≤ i then some (i + n).toNat else none
def atI {α : Type} (xs : List α) (i : Int) : Option α := (ixN xs.length i).bind fun j => xs[j]?
def ixop : D → D → Option D
  | .tup xs, .int i => atI xs i
  | .lst xs, .int i => atI xs i
  | .scr xs, .int i => atI xs i
  | .str s, .int i => if fits s.length then (atI s i).map fun c => .str [c] else none
  | _, _ => none
def sIx (n d : Nat) : Option Int → Nat
  | none => d
  | some v => if v < 0 then (v + n).toNat else min v.toNat n
def cutD {α : Type} (xs : List α) (lo hi : Option Int) : List α := (xs.drop (sIx xs.length 0 lo)).take (sIx xs.length xs.length hi - sIx xs.length 0 lo)
def slop : D → Option Int → Option Int → Option EV
  | .tup xs, lo, hi => some (.sh (.tup (cutD xs lo hi)))
  | .lst xs, lo, hi => some (.fr (.lst (cutD xs lo hi)))
  | .scr xs, lo, hi => some (.fr (.lst (cutD xs lo hi)))
  | .str s, lo, hi => gd (fits s.length) (.sh (.str (cutD s lo hi)))
  | _, _, _ => none
def isiD : Ty → D → Bool
  | .int, .int _ => true
  | .int, .bl _ => true
  | .bool, .bl _ => true
  | .str, .str _ => true
  | .tuple, .tup _ => true
  | .list, .lst _ => true
  | .list, .scr _ => true
  | _, _ => false
def bools : List D → Option (List Bool)
  | [] => some []
  | .bl b :: xs => (bools xs).map (b :: ·)
  | _ :: _ => none
/-- sorted, stable -/
def sortD (xs : List D) : List D := xs.mergeSort fun x y => !D.lt y x
def intsD : List D → Option (List Int)
  | [] => some []
  | .int i :: xs => (intsD xs).map (i :: ·)
  | _ :: _ => none
def insI (x : Int) : List Int → List Int
  | [] => [x]
  | y :: ys => if x ≤ y then x :: y :: ys else y :: insI x ys
def sortI : List Int → List Int
  | [] => []
  | x :: xs => insI x (sortI xs)
def alikeAll (xs : List D) : Bool := xs.all fun x => xs.all fun y => D.alike x y
def tupNE : D → Bool
  | .tup (_ :: _) => true
  | _ => false
def notTup : D → Bool
  | .non => false | .tup _ => false | _ => true
/-- data that sorted takes -/
def srtOk (xs : List D) : Bool := xs.all (fun x => x.okd DEEP) && alikeAll xs && (xs.all tupNE || xs.all notTup)
def digits : Nat → Nat → List Nat
  | 0, _ => []
  | f + 1, n => if n < 10 then [48 + n] else digits f (n / 10) ++ [48 + n % 10]
def showI (i : Int) : List Nat := if i < 0 then 45 :: digits (i.natAbs + 1) i.natAbs else digits (i.natAbs + 1) i.natAbs
def blt : Blt → List D → Option EV
  | .len, [.tup xs] => some (.sh (.int xs.length))
  | .len, [.lst xs] => some (.sh (.int xs.length))
  | .len, [.scr xs] => some (.sh (.int xs.length))
  | .len, [.str s] => gd (fits s.length) (.sh (.int s.length))
  | .abs, [.int i] => some (.sh (.int (if i < 0 then -i else i)))
  | .int, [.int i] => some (.sh (.int i))
  | .int, [.bl b] => some (.sh (.int (if b = true then 1 else 0)))
  | .list, [.tup xs] => some (.fr (.lst xs))
  | .list, [.lst xs] => some (.fr (.lst xs))
  | .list, [.scr xs] => some (.fr (.lst xs))
  | .tuple, [.tup xs] => some (.sh (.tup xs))
  | .tuple, [.lst xs] => some (.sh (.tup xs))
  | .all, [.lst xs] => (bools xs).map fun bs => .sh (.bl (bs.all id))
  | .any, [.lst xs] => (bools xs).map fun bs => .sh (.bl (bs.any id))
  | .sorted, [.lst xs] => (match intsD xs with
    | some ns => some (.fr (.lst ((sortI ns).map D.int)))
    | none => gd (srtOk xs) (.fr (.lst (sortD xs))))
  | .sorted, [.tup xs] => gd (srtOk xs) (.fr (.lst (sortD xs)))
  | .min, [.int i, .int j] => some (.sh (.int (if j < i then j else i)))
  | .max, [.int i, .int j] => some (.sh (.int (if i < j then j else i)))
  | _, _ => none
/-- the first place of an equal item -/
def idxD (x : D) : List D → Option Nat
  | [] => none
  | y :: ys => if D.eqv y x = true then some 0 else (idxD x ys).map fun k => k + 1
def bmeth : Bm → List D → List D → Option EV
  | .index, ys, [x] => if (x.okd DEEP && (D.lst ys).okd DEEP) = true then (idxD x ys).map (fun (k : Nat) => EV.sh (D.int ((k : Nat) : Int))) else none
  | _, _, _ => none

/-- whole numbers rising, each once -/
def insU (x : Int) : List Int → List Int
  | [] => [x]
  | y :: ys => if x < y then x :: y :: ys else if x = y then y :: ys else y :: insU x ys
def distI : List Int → List Int
  | [] => []
  | x :: xs => insU x (distI xs)
def unop : Un → D → Option EV
  | .rvs, .lst xs => some (.fr (.lst xs.reverse))
  | .rvs, .tup xs => some (.sh (.tup xs.reverse))
  | .trv, .lst xs => some (.sh (.tup xs.reverse))
  | .trv, .tup xs => some (.sh (.tup xs.reverse))
  | .lrv, .lst xs => some (.fr (.lst xs.reverse))
  | .sst, .lst xs => (intsD xs).bind fun ns => gd (decide (ns.length < 64)) (.fr (.lst ((distI ns).map D.int)))
  | _, _ => none

/-- a bound of a range -/
def rgOk (n : Int) : Bool := Nat.blt n.natAbs 4611686018427387904

theorem rgOk_iff {n : Int} (h : rgOk n = true) : -4611686018427387904 ≤ n ∧ n < 4611686018427387904 := by
  unfold rgOk at h
  have h := Nat.blt_eq.mp h
  omega

/-- a pair's key: its left part times k // its right part -/
def srkI (k : Int) : D → Int
  | .tup [.int n, .int d] => n * (k / d)
  | _ => 0
def srkOk (k : Int) : D → Bool
  | .tup [.int n, .int d] => divOk d && mulOk n (k / d)
  | _ => false
def srkD (k : Int) (xs : List D) : List D := xs.mergeSort fun x y => decide (srkI k x ≤ srkI k y)

/-! ### expressions -/
inductive Tg where
  | one (i : Nat) | many (is : List Nat)
inductive E where
  | var (i : Nat) | bor (i : Nat)
  | kn | kb (b : Bool) | ki (i : Int) | ks (s : List Nat)
  | glo (n : Nat) (d : D)
  | bin (o : Bop) (a b : E) | neg (a : E)
  | cmp (o : Cop) (a b : E) | chn (o p : Cop) (a b c : E)
  | isn (a : E) | isnn (a : E) | lend (a : E)
  | not (a : E) | and (a b : E) | or (a b : E) | one (a : E)
  | ite (c a b : E)
  | tup (as : E) | lst (as : E) | nil | cons (a as : E)
  | ix (a i : E) | sl (a lo hi : E) | gap
  | call (n : Nat) (f : Fn) (as : E)
  | fnv (nm : List Nat) | cal (i : Nat) (fs : List (Nat × List Nat × Fn)) (as : E) | cax (a : E) (fs : List (Nat × List Nat × Fn)) (as : E)
  | new (n c : Nat) (f : Fn) (as : E)
  | mth (n i c : Nat) (f : Fn) (as : E)
  | fld (i c f : Nat)
  | blt (b : Blt) (as : E)
  | isi (a : E) (t : Ty)
  | bm (m : Bm) (a as : E)
  | com (vs : List Nat) (t : Tg) (it c e : E)
  | un (u : Un) (a : E) | dnew | dnwi | stp (a t : E) | dgt (d k e : E) | dqe (b : Bool) (a c : E) | din (b : Bool) (k : E) (i : Nat) | lr1 (a : E) | lr2 (a b : E) | srk (a : E) (w : Nat)
  | isx (a : E) (t : List Nat) (yes no : List (List Nat)) | xf (a : E) (f : List Nat) (cs : List (List Nat))
  | itb (i : Nat) | it (a : E) | rg1 (a : E) | rg2 (a b : E) | rg3 (a b : E) (c : Int) | zip (a b : E) | rev (a : E)

def setMany : List Nat → List D → List Slot → List Slot
  | i :: is, x :: xs, r => setMany is xs (r.set i (.v x false))
  | _, _, r => r
/-- a list of data that hold no list -/
def flatL : D → Bool
  | .lst xs => D.nols xs
  | _ => false
/-- no list in it; an exception -/
def D.nolx : D → Bool
  | .exn _ _ _ => true
  | x => x.nol
def asg (t : Tg) (v : EV) (s : State) : R State Unit := match t with
  | .one i => (match v with
    | .sh x => .ok () ⟨s.r.set i (.v x false), s.S⟩
    | .fr x => .ok () ⟨s.r.set i (.v x true), s.S⟩
    | .bo _ => .bad
    | .ob j => .ok () ⟨s.r.set i (.o j), s.S⟩
    | .ft _ _ => .bad)
  | .many is => (match v.dat with
    | some (.tup xs) => if xs.length = is.length then .ok () ⟨setMany is xs s.r, s.S⟩ else .bad
    | some (.lst xs) => if xs.length = is.length then .ok () ⟨setMany is xs s.r, s.S⟩ else .bad
    | some (.str cs) => if (cs.all (fun c => decide (c < 128)) && decide (cs.length = is.length)) = true then .ok () ⟨setMany is (cs.map fun c => D.str [c]) s.r, s.S⟩ else .bad
    | _ => .bad)
def wipeR : List Nat → List Slot → List Slot
  | [], r => r
  | v :: vs, r => (wipeR vs r).set v .u
def dats : List Slot → Option (List D)
  | [] => some []
  | .v x _ :: xs => (dats xs).map (x :: ·)
  | _ :: _ => none
def comL (f : D → State → R State (Option D)) : List D → State → R State (List D)
  | [], s => .ok [] s
  | x :: xs, s => match f x s with
    | .ok o s1 => (match comL f xs s1 with
      | .ok ys s2 => .ok (match o with | some y => y :: ys | none => ys) s2
      | .exc e s => .exc e s
      | .bad => .bad)
    | .exc _ _ => .bad
    | .bad => .bad
def callF (f : Fn) (args : List Slot) (s : State) : R State EV := match f s.S args with
  | .ok v S' => .ok v ⟨s.r, S'⟩
  | .exc e S' => .exc e ⟨s.r, S'⟩
  | .bad => .bad
def namesD (r : List Slot) : List Nat → Option (List D)
  | [] => some []
  | a :: as => (match r[a]?, namesD r as with
    | some (.v x false), some xs => if flatD x = true then some (x :: xs) else none
    | _, _ => none)
def idxOf : D → Option Int
  | .int i => some i
  | _ => none

def sto : EV → Option D
  | .sh x => some x | .fr x => some x | _ => none
/-- a comprehension's turn -/
def comT (vs : List Nat) (t : Tg) (c e : State → R State EV) (x : D) (s : State) : R State (Option D) := match asg t (.sh x) ⟨wipeR vs s.r, s.S⟩ with
  | .ok _ s2 => (c s2).dat fun k s3 => (match k with
    | .bl true => (e s3).bind fun v s4 => (match sto v with
      | some y => .ok (some y) ⟨wipeR vs s4.r, s4.S⟩
      | none => .bad)
    | .bl false => .ok none ⟨wipeR vs s3.r, s3.S⟩
    | _ => .bad)
  | _ => .bad
def zipD (xs ys : List D) : List D := List.zipWith (fun x y => D.tup [x, y]) xs ys
mutual
def ev : E → State → R State EV
  | .var i, s => (match s.r[i]? with
    | some (.v x _) => .ok (.sh x) ⟨s.r.set i (.v x false), s.S⟩
    | some (.o j) => .ok (.ob j) s
    | _ => .bad)
  | .bor i, s => (match s.r[i]? with
    | some (.v x _) => .ok (.bo x) s
    | _ => .bad)
  | .kn, s => .ok (.sh .non) s
  | .kb b, s => .ok (.sh (.bl b)) s
  | .ki i, s => .ok (.sh (.int i)) s
  | .ks x, s => .ok (.sh (.str x)) s
  | .glo _ d, s => .ok (.sh d) s
  | .bin o a b, s => (ev a s).dat fun x s1 => (ev b s1).dat fun y s2 => orBad (binop o x y) s2
  | .neg a, s => (ev a s).dat fun x s1 => (match x with | .int i => .ok (.sh (.int (-i))) s1 | _ => .bad)
  | .cmp o a b, s => (ev a s).dat fun x s1 => (ev b s1).dat fun y s2 => orBad ((cmpop o x y).map fun k => .sh (.bl k)) s2
  | .chn o p a b c, s => (ev a s).dat fun x s1 => (ev b s1).dat fun y s2 => (match cmpop o x y with
    | some true => (ev c s2).dat fun z s3 => orBad ((cmpop p y z).map fun k => .sh (.bl k)) s3
    | some false => .ok (.sh (.bl false)) s2
    | none => .bad)
  | .isn a, s => (ev a s).dat fun x s1 => .ok (.sh (.bl (isNon x))) s1
  | .isnn a, s => (ev a s).dat fun x s1 => .ok (.sh (.bl (!isNon x))) s1
  | .lend a, s => (match ev a s with
    | .ok (.sh x) s1 => if x.nol = true then .ok (.sh x) ⟨s.r, s1.S⟩ else .bad
    | .exc e s1 => .exc e s1
    | _ => .bad)
  | .not a, s => (ev a s).dat fun x s1 => (match x with | .bl b => .ok (.sh (.bl (!b))) s1 | _ => .bad)
  | .and a b, s => (ev a s).dat fun x s1 => (match x with | .bl true => ev b s1 | .bl false => .ok (.sh (.bl false)) s1 | _ => .bad)
  | .or a b, s => (ev a s).dat fun x s1 => (match x with | .bl true => .ok (.sh (.bl true)) s1 | .bl false => ev b s1 | _ => .bad)
  | .one a, s => ev a s
  | .ite c a b, s => (ev c s).dat fun x s1 => (match x with | .bl true => ev a s1 | .bl false => ev b s1 | _ => .bad)
  | .tup as, s => (evA as s).bind fun vs s1 => orBad ((dats vs).map fun xs => .sh (.tup xs)) s1
  | .lst as, s => (evA as s).bind fun vs s1 => orBad ((dats vs).map fun xs => .fr (.lst xs)) s1
  | .ix a i, s => (ev a s).dat fun x s1 => (ev i s1).dat fun y s2 => orBad ((ixop x y).map .sh) s2
  | .sl a lo hi, s => (ev a s).dat fun x s1 => (evO lo s1).bind fun l s2 => (evO hi s2).bind fun h s3 => orBad (slop x l h) s3
  | .call _ f as, s => (evA as s).bind fun vs s1 => callF f vs s1
  | .fnv nm, s => .ok (.sh (.fnc nm)) s
  | .cal i fs as, s => (match s.r[i]? with
    | some (.v (.fnc nm) _) => (match fs.find? (fun p => decide (p.2.1 = nm)) with
      | some p => (evA as s).bind fun vs s1 => callF p.2.2 vs s1
      | none => .bad)
    | _ => .bad)
  | .cax a fs as, s => (ev a s).dat fun x s1 => (match x with
    | .fnc nm => (match fs.find? (fun p => decide (p.2.1 = nm)) with
      | some p => (evA as s1).bind fun vs s2 => callF p.2.2 vs s2
      | none => .bad)
    | _ => .bad)
  | .new _ c f as, s => (evA as s).bind fun vs s1 => (match f (s1.S ++ [⟨c, []⟩]) (.o s1.S.length :: vs) with
    | .ok (.sh .non) S' => .ok (.ob s1.S.length) ⟨s1.r, S'⟩
    | _ => .bad)
  | .mth _ i c f as, s => (match s.r[i]? with
    | some (.o j) => (match s.S[j]? with
      | some o => if o.cls = c then (evA as s).bind fun vs s1 => callF f (.o j :: vs) s1 else .bad
      | none => .bad)
    | _ => .bad)
  | .fld i c f, s => (match s.r[i]? with
    | some (.o j) => (match s.S[j]? with
      | some o => if o.cls = c then orBad ((o.fs.lookup f).map .sh) s else .bad
      | none => .bad)
    | _ => .bad)
  | .blt b as, s => (evL as s).bind fun xs s1 => orBad (MI.blt b xs) s1
  | .dnew, s => .ok (.fr (.dct [] [])) s
  | .dnwi, s => .ok (.fr (.dci [] [])) s
  | .stp a b, s => (ev a s).dat fun x s1 => (match x with
    | .tup xs => (ev b s1).dat fun y s2 => (match y with
      | .int i => if i = 1 then .ok (.sh (.tup xs)) s2 else if i = -1 then .ok (.sh (.tup xs.reverse)) s2 else .bad
      | _ => .bad)
    | _ => .bad)
  | .dqe b a c, s => (ev a s).dat fun x s1 => (match dqA x with
    | some ps => (ev c s1).dat fun y s2 => (match dqA y with
      | some qs => if sameK ps qs = true then .ok (.sh (.bl b)) s2 else .bad
      | none => .bad)
    | none => .bad)
  | .din b k i, s => (ev k s).dat fun x s1 => (match s1.r[i]? with
    | some (.d ks) => if x.keyokN = true then .ok (.sh (.bl (memK x ks == b))) s1 else .bad
    | _ => .bad)
  | .dgt a b c, s => (ev a s).dat fun x s1 => (match x with
    | .dci ks ds => (ev b s1).dat fun y s2 => (ev c s2).dat fun z s3 => (match y with
      | .int n => if flatD z = true then .ok (.sh ((getI n ks ds).getD z)) s3 else .bad
      | _ => .bad)
    | _ => .bad)
  | .un u a, s => (ev a s).dat fun x s1 => orBad (unop u x) s1
  | .lr1 a, s => (ev a s).dat fun x s1 => (match x with
    | .int n => if (rgOk n && decide (n ≤ 16777216)) = true then .ok (.fr (.lst ((List.range n.toNat).map fun (k : Nat) => D.int (k : Nat)))) s1 else .bad
    | _ => .bad)
  | .lr2 a b, s => (ev a s).dat fun x s1 => (ev b s1).dat fun y s2 => (match x, y with
    | .int m, .int n => if (rgOk m && rgOk n && decide (n - m ≤ 16777216)) = true then .ok (.fr (.lst ((List.range (n - m).toNat).map fun (k : Nat) => D.int (m + (k : Nat))))) s2 else .bad
    | _, _ => .bad)
  | .srk a w, s => (ev a s).dat fun x s1 => (match x, s1.r[w]? with
    | .lst xs, some (.v (.int k) _) => if xs.all (srkOk k) = true then .ok (.fr (.lst (srkD k xs))) s1 else .bad
    | _, _ => .bad)
  | .isi a t, s => (ev a s).dat fun x s1 => if x.obj = true then .bad else .ok (.sh (.bl (isiD t x))) s1
  | .isx a _ yes no, s => (ev a s).dat fun x s1 => (match x with
    | .exn c _ _ => if c ∈ yes then .ok (.sh (.bl true)) s1 else if c ∈ no then .ok (.sh (.bl false)) s1 else .bad
    | _ => .bad)
  | .xf a f cs, s => (ev a s).dat fun x s1 => (match x with
    | .exn c ks vs => if c ∈ cs then orBad (((ks.zip vs).lookup f).map .sh) s1 else .bad
    | _ => .bad)
  | .bm m a as, s => (ev a s).dat fun x s1 => match x with | .lst ys => (evL as s1).bind fun xs s2 => orBad (bmeth m ys xs) s2 | _ => .bad
  | .com vs t it c e, s => (evI it s).bind fun xs s1 => if fits xs.length = true then
      (match comL (comT vs t (fun s => ev c s) (fun s => ev e s)) xs ⟨wipeR vs s1.r, s1.S⟩ with
      | .ok ys s2 => .ok (.fr (.lst ys)) s2
      | _ => .bad) else .bad
  | _, _ => .bad
/-- arguments -/
def evA : E → State → R State (List Slot)
  | .nil, s => .ok [] s
  | .cons a as, s => (ev a s).bind fun v s1 => (match v.slot with
    | some x => (evA as s1).bind fun xs s2 => .ok (x :: xs) s2
    | none => .bad)
  | _, _ => .bad
/-- arguments of built-ins: data, borrowed too -/
def evL : E → State → R State (List D)
  | .nil, s => .ok [] s
  | .cons a as, s => (ev a s).dat fun x s1 => (evL as s1).bind fun xs s2 => .ok (x :: xs) s2
  | _, _ => .bad
/-- a part of a slice -/
def evO : E → State → R State (Option Int)
  | .gap, s => .ok none s
  | .one a, s => (ev a s).dat fun x s1 => (match x with | .int i => .ok (some i) s1 | _ => .bad)
  | _, _ => .bad
/-- what is walked -/
def evI : E → State → R State (List D)
  | .it a, s => (ev a s).bind fun v s1 => (match v with
    | .sh (.tup xs) => .ok xs s1
    | .sh (.lst xs) => .ok xs s1
    | .sh (.scr xs) => .ok xs s1
    | .fr (.lst xs) => .ok xs s1
    | _ => .bad)
  | .itb i, s => (match s.r[i]? with
    | some (.v (.lst xs) _) => .ok xs s
    | _ => .bad)
  | .rg1 a, s => (ev a s).dat fun x s1 => (match x with
    | .int n => if rgOk n = true then .ok ((List.range n.toNat).map fun (k : Nat) => D.int (k : Nat)) s1 else .bad
    | _ => .bad)
  | .rg2 a b, s => (ev a s).dat fun x s1 => (ev b s1).dat fun y s2 => (match x, y with
    | .int m, .int n => if (rgOk m && rgOk n) = true then .ok ((List.range (n - m).toNat).map fun (k : Nat) => D.int (m + (k : Nat))) s2 else .bad
    | _, _ => .bad)
  | .rg3 a b c, s => (ev a s).dat fun x s1 => (ev b s1).dat fun y s2 => (match x, y with
    | .int m, .int n => if (rgOk m && rgOk n && decide (c = -1)) = true then .ok ((List.range (m - n).toNat).map fun (k : Nat) => D.int (m + (k : Nat) * c)) s2 else .bad
    | _, _ => .bad)
  | .zip a b, s => (ev a s).bind fun v s1 => (ev b s1).bind fun u s2 => (match sto v, sto u with
    | some (.lst xs), some (.lst ys) => .ok (zipD xs ys) s2
    | some (.tup xs), some (.tup ys) => .ok (zipD xs ys) s2
    | some (.tup xs), some (.lst ys) => .ok (zipD xs ys) s2
    | _, _ => .bad)
  | .rev a, s => (ev a s).bind fun v s1 => (match sto v with
    | some (.lst xs) => .ok xs.reverse s1
    | some (.tup xs) => .ok xs.reverse s1
    | _ => .bad)
  | _, _ => .bad
end

/-! ### statements -/
/-- an except clause's suite: one statement -/
inductive HS where
  | set (m : Nat) (e : E) | ret (e : E)
/-- an except clause: the class's name, the classes under it, others, the name's slot, the suite -/
structure Hd where
  t : List Nat
  yes : List (List Nat)
  no : List (List Nat)
  v : Option Nat
  st : HS
inductive Flow where
  | nxt | brk | cnt | ret (v : EV)
inductive T where
  | nil | cons (a b : T)
  | set (t : Tg) (e : E) | par (is : List Nat) (as : E)
  | setf (i c f : Nat) (e : E) | augf (o : Bop) (i c f : Nat) (e : E)
  | aug (o : Bop) (i : Nat) (e : E)
  | rvl (i : Nat) | app (i : Nat) (e : E) | ext (i : Nat) (e : E) | ins (i : Nat) (k e : E) | seti (i : Nat) (k e : E) | dput (i : Nat) (k e : E) | dpti (i : Nat) (k e : E) | dset (i : Nat) (e : E)
  | pad (i j n : Nat) (f : Fn) (k : List Nat) (as : List Nat)
  | ife (c : E) (a b : T) | whl (c : E) (b : T) | for (t : Tg) (it : E) (b : T) (ks : List Nat)
  | ret (e : E) | retv (i : Nat) | retn | exp (e : E) | pass | cont | brk | never | kill (ks : List Nat)
  | raise (c : List Nat) (ks : List (List Nat)) (as : E) | tri (b : T) (hs : List Hd)
  | ret2 (i j : Nat) | set2 (i j : Nat) (e : E) | ffr (i : Nat) (e c : E)

@[irreducible] def FUEL : Nat := 2 ^ 100000
def wipeS (ks : List Nat) (s : State) : State := ⟨wipeR ks s.r, s.S⟩
def whileN (c : State → R State Bool) (b : State → R State Flow) : Nat → State → R State Flow
  | 0, _ => .bad
  | n + 1, s => (c s).bind fun k s1 => if k = true then (b s1).bind fun f s2 => (match f with
      | .nxt => whileN c b n s2
      | .cnt => whileN c b n s2
      | .brk => .ok .nxt s2
      | .ret v => .ok (.ret v) s2) else .ok .nxt s1
def forL (f : D → State → R State Flow) : List D → State → R State Flow
  | [], s => .ok .nxt s
  | x :: xs, s => (f x s).bind fun k s1 => (match k with
    | .nxt => forL f xs s1
    | .cnt => forL f xs s1
    | .brk => .ok .nxt s1
    | .ret v => .ok (.ret v) s1)
def evT (c : E) (s : State) : R State Bool := (ev c s).dat fun x s1 => (match x with | .bl b => .ok b s1 | _ => .bad)
def putF (f : Nat) (x : D) : List (Nat × D) → List (Nat × D)
  | [] => [(f, x)]
  | (g, y) :: r => if g = f then (g, x) :: r else (g, y) :: putF f x r
/-- x[k] = y for a list that slot i owns -/
def wrL (i : Nat) (f : List D → Option (List D)) (s : State) : R State Flow := match s.r[i]? with
  | some (.v (.lst xs) true) => (match f xs with
    | some ys => .ok .nxt ⟨s.r.set i (.v (.lst ys) true), s.S⟩
    | none => .bad)
  | _ => .bad
/-- slot i holds a list -/
def lstAt (i : Nat) (s : State) : Bool := match s.r[i]? with
  | some (.v (.lst _) _) => true
  | _ => false
def setA (i c f : Nat) (x : D) (s : State) : R State Flow := match s.r[i]? with
  | some (.o j) => (match s.S[j]? with
    | some o => if (o.cls = c ∧ o.fs.length < 900) ∧ x.nol = true then .ok .nxt ⟨s.r, s.S.set j ⟨c, putF f x o.fs⟩⟩ else .bad
    | none => .bad)
  | _ => .bad
/-- d[k] = x: in its place, or at the end -/
def putD (k x : D) (ks ys : List D) : List D × List D := if memD k ks = true then (ks, List.zipWith (fun c y => if D.eqv c k = true then x else y) ks ys) else (ks ++ [k], ys ++ [x])
/-- slot i holds a dict of whole numbers -/
def dciAt (i : Nat) (s : State) : Bool := match s.r[i]? with
  | some (.v (.dci _ _) _) => true
  | _ => false
def putI (k : Int) (x : D) (ks : List Int) (ys : List D) : List Int × List D := if k ∈ ks then (ks, List.zipWith (fun c y => if c = k then x else y) ks ys) else (ks ++ [k], ys ++ [x])
def wrI (i : Nat) (k : Int) (x : D) (s : State) : R State Flow := match s.r[i]? with
  | some (.v (.dci ks xs) true) => if fits (ks.length + 1) = true then .ok .nxt ⟨s.r.set i (.v (.dci (putI k x ks xs).1 (putI k x ks xs).2) true), s.S⟩ else .bad
  | _ => .bad
/-- slot i holds a dict -/
def dctAt (i : Nat) (s : State) : Bool := match s.r[i]? with
  | some (.v (.dct _ _) _) => true
  | _ => false
/-- a key that is made just there: a tuple's display, a part of a tuple -/
def keyE (ev : E → State → R State EV) (evA : E → State → R State (List Slot)) (evO : E → State → R State (Option Int)) : E → State → R State D
  | .tup as, s => (evA as s).bind fun vs s1 => orBad ((dats vs).map D.tup) s1
  | .sl a lo hi, s => (ev a s).dat fun x s1 => (evO lo s1).bind fun l s2 => (evO hi s2).bind fun h s3 => (match x with
    | .tup xs => if (cutD xs l h).length < xs.length then .ok (.tup (cutD xs l h)) s3 else .bad
    | _ => .bad)
  | _, _ => .bad
def wrD (i : Nat) (k x : D) (s : State) : R State Flow := match s.r[i]? with
  | some (.v (.dct ks xs) true) => if (k.keyok && fits (ks.length + 1)) = true then .ok .nxt ⟨s.r.set i (.v (.dct (putD k x ks xs).1 (putD k x ks xs).2) true), s.S⟩ else .bad
  | _ => .bad
def bindX (v : Option Nat) (e : Exn) (s : State) : State := match v with
  | some i => ⟨s.r.set i (.v (.exn e.c e.ks e.vs) false), s.S⟩
  | none => s
def unbX (v : Option Nat) (s : State) : State := match v with
  | some i => ⟨s.r.set i .u, s.S⟩
  | none => s
def exHS : HS → State → R State Flow
  | .set m e, s => (ev e s).bind fun v s1 => (asg (.one m) v s1).bind fun _ s2 => .ok .nxt s2
  | .ret e, s => (ev e s).bind fun v s1 => (match v with | .bo _ => .bad | v => .ok (.ret v) s1)
def hdl : List Hd → Exn → State → R State Flow
  | [], e, s => .exc e s
  | h :: hs, e, s => if e.c ∈ h.yes then (exHS h.st (bindX h.v e s)).bind fun f s1 => .ok f (unbX h.v s1) else if e.c ∈ h.no then hdl hs e s else .bad
def padE (i : Nat) (xs : List D) (v : EV) (s1 : State) : R State Flow := match v.dat with
  | some (.lst ws) => if fits (xs.length + ws.length) = true then .ok .nxt ⟨s1.r.set i (.v (.lst (xs ++ ws)) true), s1.S⟩ else .bad
  | _ => .bad
/-- a = a + f(k, names, b.pop()) -/
def padR (i j : Nat) (f : Fn) (k : List Nat) (as : List Nat) (s : State) : R State Flow := match s.r[i]?, s.r[j]?, namesD s.r as with
  | some (.v (.lst xs) true), some (.v (.lst ys) true), some zs =>
    (match ys[ys.length - 1]? with
    | some y => if (decide (i ≠ j) && flatD y) = true then
        (callF f (.v (.str k) false :: ((zs.map fun z => Slot.v z false) ++ [.v y false])) ⟨s.r.set j (.v (.lst ys.dropLast) true), s.S⟩).bind fun v s1 => padE i xs v s1
      else .bad
    | none => .bad)
  | _, _, _ => .bad
/-- without the lists -/
def hideR (r : List Slot) : List Slot := r.map fun z => match z with
  | .v x _ => if x.nol = true then .v x false else .u
  | _ => .u
/-- the first item for which it holds is told back as one's own -/
def pickL (i : Nat) (c : State → R State Bool) : List D → State → R State Flow
  | [], s => .ok .nxt s
  | x :: xs, s => (c ⟨s.r.set i (.v x false), s.S⟩).bind fun k s1 => if k = true then (if i < s1.r.length then .ok (.ret (.fr x)) s1 else .bad) else pickL i c xs ⟨s1.r.set i .u, s1.S⟩
def ex : T → State → R State Flow
  | .nil, s => .ok .nxt s
  | .cons a b, s => (ex a s).bind fun f s1 => (match f with | .nxt => ex b s1 | .brk => .ok .brk s1 | .cnt => .ok .cnt s1 | .ret v => .ok (.ret v) s1)
  | .set t e, s => (ev e s).bind fun v s1 => (asg t v s1).bind fun _ s2 => .ok .nxt s2
  | .par is as, s => (evA as s).bind fun vs s1 => (match dats vs with
    | some xs => if xs.length = is.length then .ok .nxt ⟨setMany is xs s1.r, s1.S⟩ else .bad
    | none => .bad)
  | .setf i c f e, s => (ev e s).bind fun v s1 => (match sto v with | some x => setA i c f x s1 | none => .bad)
  | .augf o i c f e, s => (ev (.fld i c f) s).dat fun x s1 => (ev e s1).dat fun y s2 => (match x, y, binop o x y with
    | .int _, .int _, some (.sh z) => setA i c f z s2
    | _, _, _ => .bad)
  | .aug o i e, s => (ev (.bor i) s).dat fun x s1 => (ev e s1).dat fun y s2 => (match x, y, binop o x y with
    | .int _, .int _, some (.sh z) => .ok .nxt ⟨s2.r.set i (.v z false), s2.S⟩
    | _, _, _ => .bad)
  | .rvl i, s => wrL i (fun xs => some xs.reverse) s
  | .app i e, s => if lstAt i s = true then (ev e s).bind fun v s1 => (match sto v with
    | some x => wrL i (fun xs => gd (fits (xs.length + 1)) (xs ++ [x])) s1
    | none => .bad) else .bad
  | .ext i e, s => if lstAt i s = true then (ev e s).bind fun v s1 => (match sto v with
    | some (.lst ys) => wrL i (fun xs => gd (fits (xs.length + ys.length)) (xs ++ ys)) s1
    | _ => .bad) else .bad
  | .ins i k e, s => if lstAt i s = true then (ev k s).dat fun n s1 => (ev e s1).bind fun v s2 => (match n, sto v with
    | .int m, some x => wrL i (fun xs => gd (decide (0 ≤ m) && decide (m < 16777216) && fits (xs.length + 1)) (xs.take m.toNat ++ x :: xs.drop m.toNat)) s2
    | _, _ => .bad) else .bad
  | .seti i k e, s => (ev e s).bind fun v s1 => if lstAt i s1 = true then (ev k s1).dat fun n s2 => (match n, sto v with
    | .int m, some x => wrL i (fun xs => (ixN xs.length m).map fun j => xs.set j x) s2
    | _, _ => .bad) else .bad
  | .pad i j _ f k as, s => padR i j f k as s
  | .dput i k e, s => (ev e s).bind fun v s1 => if dctAt i s1 = true then (keyE ev evA evO k s1).bind fun y s2 => (match sto v with
    | some x => wrD i y x s2
    | none => .bad) else .bad
  | .dpti i k e, s => (ev e s).bind fun v s1 => if dciAt i s1 = true then (ev k s1).dat fun n s2 => (match n, sto v with
    | .int m, some x => wrI i m x s2
    | _, _ => .bad) else .bad
  | .dset i e, s => (ev e s).dat fun x s1 => (match dqA x with
    | some ps => .ok .nxt ⟨s1.r.set i (.d (ps.map (·.1))), s1.S⟩
    | none => .bad)
  | .ife c a b, s => (evT c s).bind fun k s1 => if k = true then ex a s1 else ex b s1
  | .whl c b, s => whileN (evT c) (fun s => ex b s) FUEL s
  | .for t it b ks, s => (evI it s).bind fun xs s1 => (forL (fun x s => (asg t (.sh x) s).bind fun _ s2 => (ex b s2).bind fun f s3 => (match f with
      | .nxt => .ok .nxt (wipeS ks s3)
      | .cnt => .ok .nxt (wipeS ks s3)
      | .brk => .ok .brk s3
      | .ret v => .ok (.ret v) s3)) xs s1)
  | .ret e, s => (ev e s).bind fun v s1 => (match v with | .bo _ => .bad | v => .ok (.ret v) s1)
  | .retv i, s => (match s.r[i]? with
    | some (.v x true) => .ok (.ret (.fr x)) ⟨s.r.set i (.v x false), s.S⟩
    | some (.v x false) => .ok (.ret (.sh x)) s
    | some (.o j) => .ok (.ret (.ob j)) s
    | _ => .bad)
  | .retn, s => .ok (.ret (.sh .non)) s
  | .ret2 i j, s => (match s.r[i]?, s.r[j]? with
    | some (.v x true), some (.v y false) => if (flatL x && y.nolx) = true then .ok (.ret (.ft x y)) ⟨s.r.set i (.v x false), s.S⟩ else .bad
    | some (.v x false), some (.v y false) => if (x.nolx && y.nolx) = true then .ok (.ret (.ft x y)) s else .bad
    | _, _ => .bad)
  | .set2 i j e, s => (ev e s).bind fun v s1 => (match v with
    | .ft x y => if i = j then .bad else .ok .nxt ⟨(s1.r.set i (.v x (flatL x))).set j (.v y false), s1.S⟩
    | _ => .bad)
  | .ffr i e c, s => (match evI (.it e) ⟨hideR s.r, s.S⟩ with
    | .ok xs s1 => if xs.all flatL = true then pickL i (evT c) xs ⟨s.r, s1.S⟩ else .bad
    | _ => .bad)
  | .exp e, s => (ev e s).bind fun _ s1 => .ok .nxt s1
  | .pass, s => .ok .nxt s
  | .cont, s => .ok .cnt s
  | .brk, s => .ok .brk s
  | .never, _ => .bad
  | .kill ks, s => .ok .nxt (wipeS ks s)
  | .raise c ks as, s => (evA as s).bind fun vs s1 => (match dats vs with
    | some xs => if (decide (xs.length = ks.length) && D.nols xs) = true then .exc ⟨c, ks.reverse, xs.reverse⟩ s1 else .bad
    | none => .bad)
  | .tri b hs, s => (match ex b s with
    | .exc e s1 => hdl hs e s1
    | .ok f s1 => .ok f s1
    | .bad => .bad)

/-! ### defs -/
def runDef (np n : Nat) (b : T) : Fn := fun S args => if args.length = np then (match ex b ⟨args ++ List.replicate (n - np) .u, S⟩ with
  | .ok .nxt s => .ok (.sh .non) s.S
  | .ok (.ret v) s => .ok v s.S
  | .ok _ _ => .bad
  | .exc e s => .exc e s.S
  | .bad => .bad) else .bad
def allD : List Slot → Bool
  | [] => true
  | .v _ _ :: r => allD r
  | _ :: _ => false
/-- a def that is handed no instance and hands back none, in a store of its own -/
def closed (f : Fn) : Fn := fun S args => if allD args = true then (match f [] args with
  | .ok (.sh x) _ => .ok (.sh x) S
  | .ok (.fr x) _ => .ok (.fr x) S
  | .exc e _ => .exc e S
  | _ => .bad) else .bad
/-- what a law is asked to answer -/
def isTrueR : R Store EV → Prop
  | .ok (.sh (.bl true)) _ => True
  | _ => False
end MI

namespace MI
open PySem PySem.Spec PyProof.Rows L2

/-! ### exceptions as things of the heap -/
/-- at a: an exception of the class C, its dict at d -/
def EXN (C : Value) (d : Option Addr) (a : Addr) : HO := .ext fun h => ∃ (oe : Obj) (vs : Array Value), h.get? a = some oe ∧ Zc C d oe ∧ oe.data = .fields vs
theorem exn_ok {P : Program} {w : World} {H : Hp} {h : Heap} {a : Addr} {C : Value} {d : Option Addr} {oe : Obj} {vs : Array Value} (e : h.get? a = some oe) (z : Zc C d oe) (q : oe.data = .fields vs) : ObjOk P w H h a (EXN C d a) :=
  ⟨⟨oe, vs, e, z, q⟩, ⟨_, e⟩, fun h1 h2 x k => by
    obtain ⟨o1, v1, e1, z1, q1⟩ := x
    exact ⟨o1, v1, k _ e1, z1, q1⟩⟩
theorem exn_at {P : Program} {w : World} {H : Hp} {h : Heap} {a : Addr} {C : Value} {d : Option Addr} (hok : HOk P w H h) (e : H a = some (EXN C d a)) : ∃ (oe : Obj) (vs : Array Value), h.get? a = some oe ∧ Zc C d oe ∧ oe.data = .fields vs := by
  have x : ObjOk P w H h a (.ext fun h => ∃ (oe : Obj) (vs : Array Value), h.get? a = some oe ∧ Zc C d oe ∧ oe.data = .fields vs) := hok a _ e
  exact x.1
section
variable {X : Cx} {pins : List (Addr × Obj)} {σ : L2.St} {H : Hp} {s : Shared} {a : Addr}
/-- a thing of the heap that was nobody's is kept in sight -/
theorem track {o : HO} {ob : Obj} (I : Inv X pins σ H s) (ha : s.heap.get? a = some ob) (hn : H a = none) (h0 : X.s_0.heap.get? a = none) (nL : a ≠ X.env.locals) (nc : ∀ v, ob.data ≠ .cell v) (np : ∀ p ∈ X.pn ++ pins, p.1 ≠ a)
    (new : ObjOk X.prog X.w (upd H a o) s.heap a o) : Inv X pins σ (upd H a o) s := by
  have up : ∀ b u, H b = some u → upd H a o b = some u := fun b u e => by rw [upd_ne (ne_of_none e hn)]; exact e
  refine ⟨I.ok, I.os, I.bare, ⟨I.base.keep, I.base.slot, fun b u e n x => ?_, I.base.there, fun b xs e => up b _ (I.base.tups b xs e), fun b u v e => up b _ (I.base.frzs b u v e), fun b ps e => ?_⟩, I.loc, I.cell, ?_, fun x c e => ?_, fun p hp => ?_, fun b u e => ?_, I.len⟩
  · have nb : b ≠ a := fun z => by rw [z, h0] at e; cases e
    rw [upd_ne nb]
    exact I.base.free b u e n x
  · obtain ⟨more, e2⟩ := I.base.tbls b ps e
    exact ⟨more, up b _ e2⟩
  · rw [upd_ne (Ne.symm nL)]; exact I.free
  · have nb : c ≠ a := fun z => by
      obtain ⟨v, k⟩ := I.cell x c e
      obtain ⟨oc, e1, e2⟩ := k
      rw [z, ha] at e1
      cases e1
      exact nc v e2
    rw [upd_ne nb]; exact I.freeC x c e
  · obtain ⟨e1, e2, e3, e4, e5⟩ := I.pin p hp
    exact ⟨e1, by rw [upd_ne (np p hp)]; exact e2, e3, e4, e5⟩
  · by_cases hb : b = a
    · subst hb
      rw [upd_same] at e
      cases e
      exact new
    · rw [upd_ne hb] at e
      exact (I.hok b u e).stay (fun c v _ q => q) (fun c q => up c _ q) fun c xs q => up c _ q
/-- the context of an except clause's suite, nothing pinned by it -/
theorem toSuite (I : Inv X pins σ H s) (a : Addr) : Inv (X.suite a (X.pn ++ pins)) [] σ H s :=
  ⟨I.ok.suite _ _, I.os, I.bare, I.base, I.loc, I.cell, I.free, I.freeC, fun p hp => I.pin p (by rw [List.append_nil] at hp; exact hp), I.hok, I.len⟩
theorem ofSuite {pn' : List (Addr × Obj)} (I : Inv (X.suite a (X.pn ++ pins)) pn' σ H s) (ok : X.Ok) : Inv X pins σ H s :=
  ⟨ok, I.os, I.bare, I.base, I.loc, I.cell, I.free, I.freeC, fun p hp => I.pin p (List.mem_append_left _ hp), I.hok, I.len⟩
end
/-- an except clause: the class's value, the name's slot, what its suite does -/
structure Clause where
  c : Value
  i : Option Nat
  ts : Addr → Value → Option Addr → TS
def offI (i : Option Nat) (σ : L2.St) : L2.St := match i with
  | some i => σ.set i none
  | none => σ
def onI (i : Option Nat) (a : Addr) (σ : L2.St) : L2.St := match i with
  | some i => σ.set i (some (.ref a))
  | none => σ
def offD (i : Option Nat) (D : Ends) : Ends := { nx := fun σ H => D.nx (offI i σ) H, rt := D.rt, bk := fun σ H => D.bk (offI i σ) H, ct := fun σ H => D.ct (offI i σ) H }
def wTry (K : PySem.W.Frag) (Wout : L2.WX) (D : Ends) : List Clause → L2.WX
  | [] => Wout
  | k :: r => fun cls d σ H => ∃ b, PySem.W.exmOne K cls k.c = some b ∧ (b = true → ∀ a, H a = none → k.ts a cls d (offD k.i D) (onI k.i a σ) (upd H a (EXN cls d a))) ∧ (b = false → wTry K Wout D r cls d σ H)
inductive ClOk (X : Cx) : List ExceptHandler → List Clause → Prop
  | nil : ClOk X [] []
  | one {x : Str} {k : Clause} {b0 : Stmt} {su : List Stmt} {np po : Pos} {hds : List ExceptHandler} {l : List Clause} (hc : Names X x k.c) (hi : k.i = none)
      (hsu : ∀ (a : Addr) (cls : Value) (d : Option Addr) (pn : List (Addr × Obj)), PSs (X.suite a pn) (b0 :: su) (k.ts a cls d)) (r : ClOk X hds l) : ClOk X (.ExceptHandler (some (.Name x np)) none (b0 :: su) po :: hds) (k :: l)
  | as {x n : Str} {i : Nat} {k : Clause} {b0 : Stmt} {su : List Stmt} {np po : Pos} {hds : List ExceptHandler} {l : List Clause} (hc : Names X x k.c) (hi : k.i = some i) (hn : X.N[i]? = some n) (hl : X.env.kindOf n = some .local)
      (hsu : ∀ (a : Addr) (cls : Value) (d : Option Addr) (pn : List (Addr × Obj)), PSs (X.suite a pn) (b0 :: su) (k.ts a cls d)) (r : ClOk X hds l) : ClOk X (.ExceptHandler (some (.Name x np)) (some n) (b0 :: su) po :: hds) (k :: l)
section
variable {X : Cx} {body : List Stmt} {k0 : ExceptHandler} {ks : List ExceptHandler} {l : List Clause} {pos : Pos} {tb : L2.WX → TS} {Wout : L2.WX}
/-- try .. except: what is caught stands in the heap -/
theorem ps_try (hst : X.stack = X.env :: X.outer) (hfr0 : X.env.frame = some X.env.locals) (hN : X.N.Nodup) (hex : X.ex = []) (tk : Takes X Wout)
    (hbody : ∀ (W : L2.WX) (pn : List (Addr × Obj)) (xe : Value → Shared → Prop), Takes (X.tr pn xe) W → PassesOwn (model X.prog X.w) X.A X.env xe → PSs (X.tr pn xe) body (tb W))
    (hh : ClOk X (k0 :: ks) l) : PS X (.Try body (k0 :: ks) [] [] pos) (fun D σ H => tb (wTry X.K Wout D l) D σ H) := by
  refine ⟨fun pins s σ H D I h => ?_⟩
  have ok := I.ok
  have frs0 : X.A.frames = some (X.env :: X.outer) := by rw [ok.frames, hst]
  refine wpAny_Try_except (wpAny_mono ((hbody (wTry X.K Wout D l) (X.pn ++ pins) (fun ex s₁ => wpAny (model X.prog X.w) X.A (noteFrame ex X.env) (fun _ s₂ => wpAny (model X.prog X.w) X.A (setFlight ex none) (fun _ s₃ =>
    wpAny (model X.prog X.w) X.A (handleBy ex X.env (k0 :: ks)) (SP X pins D) X.xe s₃) X.xe s₂) X.xe s₁) (fun u s' xx => ?_) PassesOwn.looking).run [] s σ H D (I.toTry _) h) (fun f s1 hsp => ?_) (fun ex s1 he => he))
  · obtain ⟨a, B, sI, pins', σ', H', cls, d, rfl, J', nb, up, sky, na, os, ag, w⟩ := xx
    have JI : Inv X pins σ' H' sI := J'.ofTry ok
    have skyE : Sky B (X.env :: X.outer) a (Zc cls d) X.env.locals s'.heap := by rw [← hst]; exact sky
    show wpAny (model X.prog X.w) X.A (noteFrame (.ref a) X.env) _ _ _
    refine Sky.land Zc.steady frs0 hfr0 skyE fun h3 fl3 up3 => ?_
    have J3 : Inv X pins σ' H' { s' with heap := h3 } := JI.landed nb fl3.1 (up.trans up3) os ag
    obtain ⟨oe3, vs3, he3, hz3, hd3⟩ := fl3.there
    have offFr : ∀ {h : Heap} {o : Obj} {vs : Array Value}, h.FunFrames B (X.env :: X.outer) → h.get? a = some o → o.data = .fields vs → a ∉ frs (X.env :: X.outer) := fun {h o vs} ff e dd hm => by
      obtain ⟨_, o', e', hnf⟩ := ff.mem hm
      rw [e] at e'
      cases e'
      exact hnf _ dd
    have nfr := offFr fl3.2.2.1 he3 hd3
    have neL : a ≠ X.env.locals := fun z => nfr (List.mem_filterMap.mpr ⟨X.env, List.mem_cons_self, by rw [hfr0, z]⟩)
    have aI : sI.heap.get? a = none := by
      cases q : sI.heap.get? a with
      | none => rfl
      | some ob =>
        have y := nb a ob q (by rw [hst]; exact nfr)
        rw [fl3.2.1] at y
        cases y
    have a0 : X.s_0.heap.get? a = none := by
      cases q : X.s_0.heap.get? a with
      | none => rfl
      | some ob =>
        obtain ⟨ob', y⟩ := JI.base.there a ob q (by rw [hex]; exact List.not_mem_nil)
        rw [aI] at y
        cases y
    have apn : ∀ p ∈ X.pn ++ pins, p.1 ≠ a := fun p hp z => by
      have y := (JI.pin p hp).1
      rw [z, aI] at y
      cases y
    have S3 := toSuite J3 a
    have go : ∀ {hds2 : List ExceptHandler} {l2 : List Clause}, ClOk X hds2 l2 → wTry X.K Wout D l2 cls d σ' H' → wpAny (model X.prog X.w) X.A (handleBy (.ref a) X.env hds2) (SP X pins D) X.xe { s' with heap := h3 } := by
      have tst : ∀ {x : Str} {c : Value} {np : Pos} {Q : Value → Shared → Prop} {E : Value → Shared → Prop}, Names X x c → Q c { s' with heap := h3 } → wpAny (model X.prog X.w) (X.A.mark (some (.ref a))) (eval (.Name x np) X.env) Q E { s' with heap := h3 } := fun {x c np Q E} hc q => by
        obtain ⟨z1, z2, z3 | ⟨z3, z4, z5⟩⟩ := hc
        · exact ld_glob (X := X.suite a (X.pn ++ pins)) S3 z1 z3 q z2
        · exact ld_blt (X := X.suite a (X.pn ++ pins)) S3 z1 z3 z4 q z5 z2
      have LT : PySem.W.Looks (model X.prog X.w) h3 (typeOf (.ref a)) cls := fun A Q E s k q => wpAny_typeOf_ref (k _ _ he3) (by rw [hz3.1]; exact q)
      have seen : ∀ {h4 : Heap}, HandSPX.FlyingZ B (X.env :: X.outer) a (Zc cls d) h4 → s'.heap.UpToSlots h4 → Inv X pins σ' (upd H' a (EXN cls d a)) { s' with heap := h4 } := fun {h4} fl4 up4 => by
        have J4 : Inv X pins σ' H' { s' with heap := h4 } := JI.landed nb fl4.1 (up.trans up4) os ag
        obtain ⟨oe4, vs4, he4, hz4, hd4⟩ := fl4.there
        exact track J4 he4 na a0 neL (fun v z => by rw [hd4] at z; cases z) apn (exn_ok he4 hz4 hd4)
      intro hds2 l2 hk
      induction hk with
      | nil =>
        intro w2
        refine wpAny_handleBy_nil ?_
        obtain ⟨k1, k2, k3, oe, vs, T, oT, tsT, he, hz, hd, h1, hr⟩ := id fl3
        unfold PySem.passOn
        refine wpAny_bind (wpAny_field he hd h1 ?_)
        rw [if_neg (show ¬ ((Value.ref T == Value.none) = true) by simp)]
        have fin : wpAny (model X.prog X.w) X.A (setFlight (.ref a) X.env.frame) (fun _ s4 => wpAny (model X.prog X.w) X.A (throw (.ref a) : Sem PySem.Flow) (SP X pins D) X.xe s4) X.xe { s' with heap := h3 } := by
          rw [hfr0]
          exact HandSPX.setFlight_upZ fl3 fun h4 hh4 up4 => wpAny_throw (tk _ _ ⟨a, B, sI, pins, σ', H', cls, d, rfl, JI, nb, (up.trans up3).trans up4, .inr (.inr (by rw [hst]; exact hh4)), na, os, ag, w2⟩)
        first
          | exact wpAny_bind (wpAny_pure (wpAny_bind fin))
          | exact wpAny_bind fin
      | @one x k b0 su np po hds2 l2 hc hi hsu r ih =>
        intro w2
        obtain ⟨b, hb1, hyes, hno⟩ := w2
        refine wpAny_handleBy_cons (codeAny_handlers_test (tst hc ((PySem.W.exm_one (M := model X.prog X.w) (J3.kIn) LT hb1).here ?_))) (by intro q; cases q)
        cases b with
        | true =>
          refine codeAny_handlers_suite (HandSPX.lands_againZ fl3 fun h4 fl4 up4 => ?_)
          have y := hyes rfl a na
          rw [hi] at y
          refine wpAny_mono ((hsu a cls d (X.pn ++ pins)).run [] _ _ _ (offD none D) (toSuite (seen fl4 (up3.trans up4)) a) y) (fun f s6 hsp => ?_) (fun _ _ z => False.elim z)
          cases f with
          | ret u =>
            obtain ⟨v6, σ6, H6, S6, r6, q6⟩ := hsp
            exact ⟨_, _, _, ofSuite S6 ok, r6, q6⟩
          | next =>
            obtain ⟨σ6, H6, S6, q6⟩ := hsp
            exact ⟨_, _, ofSuite S6 ok, q6⟩
          | brk =>
            obtain ⟨σ6, H6, S6, q6⟩ := hsp
            exact ⟨_, _, ofSuite S6 ok, q6⟩
          | cont =>
            obtain ⟨σ6, H6, S6, q6⟩ := hsp
            exact ⟨_, _, ofSuite S6 ok, q6⟩
        | false => exact ih (hno rfl)
      | @as x n i k b0 su np po hds2 l2 hc hi hn hl hsu r ih =>
        intro w2
        obtain ⟨b, hb1, hyes, hno⟩ := w2
        refine wpAny_handleBy_cons (codeAny_handlers_test (tst hc ((PySem.W.exm_one (M := model X.prog X.w) (J3.kIn) LT hb1).here ?_))) (by intro q; cases q)
        cases b with
        | true =>
          refine codeAny_handlers_suite_as (HandSPX.lands_againZ fl3 fun h4 fl4 up4 => ?_)
          have y := hyes rfl a na
          rw [hi] at y
          refine store_ok (X := X.suite a (X.pn ++ pins)) (v := .ref a) (toSuite (seen fl4 (up3.trans up4)) a) hN hn (.inl hl) rfl (fun s5 S5 => ?_) (.inr hl)
          refine wpAny_mono ((hsu a cls d (X.pn ++ pins)).run [] s5 _ _ (offD (some i) D) S5 y) (fun f s6 hsp => ?_) (fun _ _ z => False.elim z)
          have end_ : ∀ {σ6 : L2.St} {H6 : Hp} {Q : Shared → Prop}, Inv (X.suite a (X.pn ++ pins)) [] σ6 H6 s6 → (∀ s7, Inv X pins (σ6.set i none) H6 s7 → Q s7) →
              wpAny (model X.prog X.w) X.A (do bindName X.env n .none; unbindBehindTheSuite X.env n po) (fun _ s7 => Q s7) X.xe s6 := fun {σ6 H6 Q} S6 hq => gone_ok (ofSuite S6 ok) hN hn hl hq
          cases f with
          | ret u =>
            obtain ⟨v6, σ6, H6, S6, r6, q6⟩ := hsp
            exact end_ S6 fun s7 J7 => ⟨_, _, _, J7, r6, q6⟩
          | next =>
            obtain ⟨σ6, H6, S6, q6⟩ := hsp
            exact end_ S6 fun s7 J7 => ⟨_, _, J7, q6⟩
          | brk =>
            obtain ⟨σ6, H6, S6, q6⟩ := hsp
            exact end_ S6 fun s7 J7 => ⟨_, _, J7, q6⟩
          | cont =>
            obtain ⟨σ6, H6, S6, q6⟩ := hsp
            exact end_ S6 fun s7 J7 => ⟨_, _, J7, q6⟩
        | false => exact ih (hno rfl)
    exact go hh w
  · cases f with
    | ret u =>
      obtain ⟨v, σ1, H1, J1, r1, q1⟩ := hsp
      exact ⟨v, σ1, H1, J1.ofTry ok, r1, q1⟩
    | next =>
      obtain ⟨σ1, H1, J1, q1⟩ := hsp
      exact wpAny_execs_nil ⟨σ1, H1, J1.ofTry ok, q1⟩
    | brk =>
      obtain ⟨σ1, H1, J1, q1⟩ := hsp
      exact ⟨σ1, H1, J1.ofTry ok, q1⟩
    | cont =>
      obtain ⟨σ1, H1, J1, q1⟩ := hsp
      exact ⟨σ1, H1, J1.ofTry ok, q1⟩
end
end MI

namespace MI
open PySem PySem.Spec PyProof.Rows L2

/-! ### an exception's class, as it is asked -/
structure XCls (K : PySem.W.Frag) (D : Addr) : Prop where
  cl : (PySem.W.clsIn K D).isSome = true
  ga : PySem.W.findIn K (.ref D) "__getattribute__" = some (some (.builtin "BaseException.__getattribute__"))
  gg : PySem.W.findIn K (.ref D) "__getattr__" = some none
  sb : PySem.W.subIn K (.ref D) (.type "BaseException") = some true
  dc : PySem.W.hasDictIn K D = true
  ca : PySem.W.findIn K (.ref D) "__class__" = some (some (.builtin "object.__class__"))
  cn : PySem.W.specialIn K (.builtin "object.__class__") "__get__" = some (some (.builtin "getset_descriptor.__get__"))
  ct : PySem.W.takesIn K (.builtin "object.__class__") = some true
  cm : PySem.W.mroIn K D (.type "object") = some true
def xclsB (K : PySem.W.Frag) (D : Addr) : Bool := (PySem.W.clsIn K D).isSome && (decide (PySem.W.findIn K (.ref D) "__getattribute__" = some (some (.builtin "BaseException.__getattribute__"))) && (decide (PySem.W.findIn K (.ref D) "__getattr__" = some none) && (decide (PySem.W.subIn K (.ref D) (.type "BaseException") = some true) && (PySem.W.hasDictIn K D &&
  (decide (PySem.W.findIn K (.ref D) "__class__" = some (some (.builtin "object.__class__"))) && (decide (PySem.W.specialIn K (.builtin "object.__class__") "__get__" = some (some (.builtin "getset_descriptor.__get__"))) && (decide (PySem.W.takesIn K (.builtin "object.__class__") = some true) && decide (PySem.W.mroIn K D (.type "object") = some true))))))))
theorem xcls_of {K : PySem.W.Frag} {D : Addr} (h : xclsB K D = true) : XCls K D := by
  unfold xclsB at h
  simp only [Bool.and_eq_true, decide_eq_true_eq] at h
  obtain ⟨h1, h2, h3, h4, h5, h6, h7, h8, h9⟩ := h
  exact ⟨h1, h2, h3, h4, h5, h6, h7, h8, h9⟩
/-- its dict stands -/
def DictOf (H : Hp) (d : Option Addr) : Prop := d = none ∨ ∃ dd fs, d = some dd ∧ H dd = some (.xd fs)
theorem exn_inst {P : Program} {w : World} {H : Hp} {h : Heap} {a D : Addr} {d : Option Addr} (hok : HOk P w H h) (e : H a = some (EXN (.ref D) d a)) (hd : DictOf H d) : ∃ oe od, PySem.W.InstAt h a oe D od := by
  obtain ⟨oe, vs, ha, hz, hv⟩ := exn_at hok e
  rcases hd with rfl | ⟨dd, fs, rfl, ed⟩
  · exact ⟨oe, none, ha, hz.1, by unfold PySem.W.notCls; rw [hv] <;> rfl, by rw [hz.2]; trivial⟩
  · have x : ObjOk P w H h dd (.xd fs) := hok dd _ ed
    obtain ⟨mA, hns, hr⟩ := x
    obtain ⟨od, ho, hl⟩ := lookIn_ns hns
    exact ⟨oe, some od, ha, hz.1, by unfold PySem.W.notCls; rw [hv] <;> rfl, by rw [hz.2]; exact ho⟩
/-- isinstance(x, c) -/
def rIsX (K : PySem.W.Frag) : List V → Hp → VK → Prop := fun xs H Q => ∃ (a D : Addr) (d : Option Addr) (c : V) (cv : Value) (b : Bool), xs = [.ref a, c] ∧ XCls K D ∧ H a = some (EXN (.ref D) d a) ∧ DictOf H d ∧ (∀ u, RelV c u → u = cv) ∧ PySem.W.kitOne K (.ref D) cv = some b ∧ Q (.bl b) H
theorem call_isX {X : Cx} : CallR X (.builtin "isinstance") (rIsX X.K) := by
  intro pins s σ H xs us Q I r h
  obtain ⟨a, D, d, c, cv, b, rfl, C, ea, hd, hcv, e, q⟩ := h
  cases r with
  | cons rx rr =>
    cases rr with
    | cons rt rr =>
      cases rr
      cases rx
      have ec := hcv _ rt
      subst ec
      obtain ⟨oe, od, J⟩ := exn_inst I.hok ea hd
      exact PySem.W.kia_one (PySem.W.kitx_exc C.cl C.ga C.gg C.sb C.ca C.cn C.ct C.cm) I.kIn J e (fun z => nomatch z) fun tk => ⟨.bl b, H, I.kept (t' := tk) fun _ _ z => z, rfl, q⟩
/-- x.f -/
def tXfT (K : PySem.W.Frag) (f : Str) (te : TE) : TE := fun σ H Q => te σ H fun x H1 => ∃ (a D dd : Addr) (fs : List (Str × V)) (v : V), x = .ref a ∧ XCls K D ∧ PySem.W.findIn K (.ref D) f = some none ∧ H1 a = some (EXN (.ref D) (some dd) a) ∧ H1 dd = some (.xd fs) ∧ fs.lookup f = some v ∧ Q v H1
theorem pe_xfT {X : Cx} {e : Expr} {te : TE} {pos : Pos} {n : Str} (he : PE X e te) (hb : attributeBase e n X.env (eval e X.env) = eval e X.env := by rfl) : PE X (.Attribute e n pos) (tXfT X.K n te) := by
  refine ⟨fun pins s σ H Q I h => ?_⟩
  refine attr_of hb (thn (he.run pins s σ H _ I h) fun u s1 ⟨x, H1, I1, rx, a, D, dd, fs, v, ex, T, no, ea, ed, l, q⟩ => ?_)
  subst ex
  obtain rfl : u = Value.ref a := rx
  obtain ⟨oe, vs, ha, hz, hv⟩ := exn_at I1.hok ea
  have hx : ObjOk X.prog X.w H1 s1.heap dd (.xd fs) := I1.hok dd _ ed
  obtain ⟨mA, hns, hr⟩ := hx
  obtain ⟨od, ho, hl⟩ := lookIn_ns hns
  obtain ⟨u, hu, ru⟩ := RelO.some_of (v := v) (o := mA n) (by rw [← l]; exact hr n)
  have J : PySem.W.InstAt s1.heap a oe D (some od) := ⟨ha, hz.1, by unfold PySem.W.notCls; rw [hv] <;> rfl, by rw [hz.2]; exact ho⟩
  exact HandSPX.exc_get I1.kIn J T.ga T.gg T.sb (PySem.W.findObj_own T.dc no rfl (by rw [hl, hu])) (handed_of ru) ⟨v, H1, I1.tok _, ru, q⟩
/-! ### an exception is made -/
/-- what the class above says: its __init__ is ValueError's -/
structure Base1 (K : PySem.W.Frag) (S : Addr) : Prop where
  rd : PySem.W.readsIn K S (.type "type") = true
  ga : PySem.W.specialIn K (.ref S) "__getattribute__" = some (some (.builtin "type.__getattribute__"))
  at_ : PySem.W.findCls K (.ref S) (.type "type") "__init__" = some (.val (.builtin "ValueError.__init__"))
def base1B (K : PySem.W.Frag) (S : Addr) : Bool := PySem.W.readsIn K S (.type "type") && (decide (PySem.W.specialIn K (.ref S) "__getattribute__" = some (some (.builtin "type.__getattribute__"))) && (match PySem.W.findCls K (.ref S) (.type "type") "__init__" with
  | some (.val (.builtin n)) => decide (n = "ValueError.__init__")
  | _ => false))
theorem base1_of {K : PySem.W.Frag} {S : Addr} (h : base1B K S = true) : Base1 K S := by
  unfold base1B at h
  simp only [Bool.and_eq_true, decide_eq_true_eq] at h
  obtain ⟨h1, h2, h3⟩ := h
  refine ⟨h1, h2, ?_⟩
  split at h3
  · next n e =>
    rw [e, of_decide_eq_true h3]
  · cases h3
def oexB (K : PySem.W.Frag) (C : Addr) : Bool := (match K.lookup C with
  | some ⟨.type t, _, .cls cd, sl⟩ => (match cd.mro, sl.toList with
    | .ref C' :: bm, [_, _, _, _, some (.builtin n), _] => decide (t = "type") && (decide (C' = C) && (decide (n = "ValueError.__new__") && (!cd.hasDel && (cd.hasDict && PySem.HandSPX.refsVE bm))))
    | _, _ => false)
  | _ => false) && (decide (PySem.W.findIn K (.ref C) "__setattr__" = some (some (.builtin "object.__setattr__"))) && (decide (PySem.W.subIn K (.ref C) (.type "BaseException") = some true) && (decide (PySem.W.typeIn K (.ref C) = some (.type "type")) && PySem.W.keepIn K (.ref C))))
theorem oex_of {K : PySem.W.Frag} {C : Addr} (h : oexB K C = true) : OexC K C := by
  unfold oexB at h
  simp only [Bool.and_eq_true, decide_eq_true_eq] at h
  obtain ⟨h1, h2, h3, h4, h5⟩ := h
  refine ⟨?_, h2, h3, h4, h5⟩
  split at h1
  · next t od cd sl e =>
    split at h1
    · next C' bm k0 k1 k2 k3 n k5 e1 e2 =>
      simp only [Bool.and_eq_true, decide_eq_true_eq, Bool.not_eq_true'] at h1
      obtain ⟨rfl, rfl, rfl, h9, h8, h7⟩ := h1
      obtain ⟨nm, bs, mro, ns, qn, hd, sn, sb, ab, col, del⟩ := cd
      dsimp only at e1 h8 h9
      subst h8 h9 e1
      refine ⟨nm, qn, ns, bs, bm, sn, sb, ab, col, od, k0, k1, k2, k3, k5, ?_, h7⟩
      rw [e]
      have : sl = #[k0, k1, k2, k3, some (.builtin "ValueError.__new__"), k5] := by
        apply Array.ext'
        rw [e2]
      rw [this]
    · cases h1
  · cases h1
section
variable {X : Cx} {e : Expr} {es : List Expr} {ta : TA} {p1 p2 pos : Pos} {x : Str} {S : Addr}
/-- C.__init__(self, ..), C over ValueError without an own one -/
theorem pe_upinit {pl : Sem Bool} (hg : Gl X x) (hm : X.mg x = some (.ref S)) (B : Base1 X.K S) (ha : PA X (e :: es) ta) (hdb : (x == ("__debug__" : Str)) = false)
    (hc : eval (.Call (.Attribute (.Name x p1) "__init__" p2) (e :: es) [] pos) X.env = (do
      let v ← eval (.Name x p1) X.env
      standAt p2.atName
      let (g, us) ← holding [v] (getMethod v "__init__" pl)
      callWith pos g us (backTo pos (starEach (e :: es) X.env)) (backToKw pos (keywordEach [] X.env))) := by rfl)
    (he : starEach (e :: es) X.env = (false, eval e X.env) :: starEach es X.env := by rfl) (hpl : (backTo pos (starEach es X.env)).any (·.1) = false := by rfl) :
    PE X (.Call (.Attribute (.Name x p1) "__init__" p2) (e :: es) [] pos) (tVeI X.K ta) := by
  refine ⟨fun pins s σ H Q I h => ?_⟩
  refine PySem.W.methodCall_KW (ld_glob I hg hm ?_ hdb) hc
  refine PySem.W.method_cls I.kIn B.ga (PySem.W.cls_value I.kIn B.rd B.at_ rfl ?_)
  show wpAny _ _ (callWith pos (Value.builtin "ValueError.__init__") [] (backTo pos (starEach (e :: es) X.env)) []) _ _ _
  refine PyProof.Rows.callWith_method1 (thn (ha.run pos pins _ σ H _ (I.tok _) h) fun us s1 ⟨vs, H1, I1, r1, a, C, ws, ev, hl, T, ea, q⟩ => ?_) he hpl
  subst ev
  cases r1 with
  | @cons _ u0 _ ur ra rw' =>
    cases ra
    exact oinit_ok T I1 ea (by rw [← Paired.length rw', sizeLine_eq]; omega) fun s' J => ⟨.non, H1, J, rfl, q⟩
end
end MI

namespace MI
open PySem L2

abbrev sS (s : List Nat) : Str := ⟨s.toArray⟩
theorem sS_inj {a b : List Nat} (h : sS a = sS b) : a = b := by
  have h2 : a.toArray = b.toArray := congrArg Str.cps h
  simpa using h2

/-! ### what stands for what -/
def isLD : HO → Prop
  | .lst _ => True
  | .dT _ => True
  | .dK _ => True
  | _ => False
def isIns : HO → Prop
  | .ins _ _ _ => True
  | _ => False
abbrev eH : Hp := fun _ => none
/-- a list that is read as it is by others: nobody's own, locked, or of the written part -/
def NL (K : PySem.W.Frag) (H : Hp) (P : Addr → Prop) (a : Addr) (xs : List V) : Prop :=
  (H a = some (.lst xs) ∧ ¬ P a) ∨ (∃ o, H a = some (.frz o (.lst xs))) ∨ SqL K eH a xs
theorem sqL_ofE {K : PySem.W.Frag} {H : Hp} {a : Addr} {xs : List V} (h : SqL K eH a xs) : SqL K H a xs := by
  rcases h with (h | ⟨o, h⟩) | h
  · cases h
  · cases h
  · exact .inr h
theorem sqT_ofE {K : PySem.W.Frag} {H : Hp} {a : Addr} {xs : List V} (h : SqT K eH a xs) : SqT K H a xs := by
  rcases h with (h | ⟨o, h⟩) | h
  · cases h
  · cases h
  · exact .inr h
theorem NL.sq {K : PySem.W.Frag} {H : Hp} {P : Addr → Prop} {a : Addr} {xs : List V} (h : NL K H P a xs) : SqL K H a xs := by
  rcases h with ⟨h, _⟩ | ⟨o, h⟩ | h
  · exact .inl (.inl h)
  · exact .inl (.inr ⟨o, h⟩)
  · exact sqL_ofE h
def keyOf : D → Option (List L2.Key)
  | .tup xs => xs.mapM fun x => match x with
    | .int i => some (Sum.inl i)
    | .str s => some (Sum.inr (sS s))
    | _ => none
  | _ => none
def kD : L2.Key → D
  | .inl i => .int i
  | .inr s => .str s.cps.toList
def kT (k : List L2.Key) : D := .tup (k.map kD)
mutual
inductive Rp (K : PySem.W.Frag) (H : Hp) (P : Addr → Prop) : V → D → Prop
  | non : Rp K H P .non .non
  | bl (b : Bool) : Rp K H P (.bl b) (.bl b)
  | int (i : Int) : Rp K H P (.int i) (.int i)
  | str (s : List Nat) : Rp K H P (.str (sS s)) (.str s)
  | tup {a : Addr} {xs : List V} {ds : List D} : SqT K H a xs → RpA K H P xs ds → Rp K H P (.ref a) (.tup ds)
  | lst {a : Addr} {xs : List V} {ds : List D} : H a = some (.lst xs) → ¬ P a → RpA K H P xs ds → Rp K H P (.ref a) (.lst ds)
  | scr {a : Addr} {xs : List V} {ds : List D} : NL K H P a xs → RpA K H P xs ds → Rp K H P (.ref a) (.scr ds)
  | dct {a : Addr} {kvs : List (List L2.Key × V)} {ks ds : List D} : H a = some (.dT kvs) → ¬ P a → ks = kvs.map (fun p => kT p.1) → RpA K H P (kvs.map (·.2)) ds → Rp K H P (.ref a) (.dct ks ds)
  | dci {a : Addr} {kvs : List (L2.Key × V)} {ks : List Int} {ds : List D} : H a = some (.dK kvs) → ¬ P a → kvs.map (·.1) = ks.map Sum.inl → RpA K H P (kvs.map (·.2)) ds → Rp K H P (.ref a) (.dci ks ds)
  | exn0 {a : Addr} {c : List Nat} : H a = some (EXN (.ref (He.ga K (sS c))) none a) → Rp K H P (.ref a) (.exn c [] [])
  | exnd {a dx : Addr} {c : List Nat} {ks : List (List Nat)} {ws : List (Str × V)} {vs : List D} : H a = some (EXN (.ref (He.ga K (sS c))) (some dx) a) → H dx = some (.xd ws) → ws.map (·.1) = ks.map sS → D.nols vs = true → RpA K H P (ws.map (·.2)) vs → Rp K H P (.ref a) (.exn c ks vs)
  | fnc (nm : List Nat) : Rp K H P (.ref (He.ga K (sS nm))) (.fnc nm)
inductive RpA (K : PySem.W.Frag) (H : Hp) (P : Addr → Prop) : List V → List D → Prop
  | nil : RpA K H P [] []
  | cons {v : V} {x : D} {vs : List V} {xs : List D} : Rp K H P v x → RpA K H P vs xs → RpA K H P (v :: vs) (x :: xs)
end
/-- a's own list (dict) holds these -/
def Own (K : PySem.W.Frag) (H : Hp) (P : Addr → Prop) (a : Addr) : D → Prop
  | .lst ds => ∃ xs, H a = some (.lst xs) ∧ RpA K H P xs ds
  | .dct ks ds => ∃ kvs : List (List L2.Key × V), H a = some (.dT kvs) ∧ ks = kvs.map (fun p => kT p.1) ∧ RpA K H P (kvs.map (·.2)) ds
  | .dci ks ds => ∃ kvs : List (L2.Key × V), H a = some (.dK kvs) ∧ kvs.map (·.1) = ks.map Sum.inl ∧ RpA K H P (kvs.map (·.2)) ds
  | _ => False
/-- may be read as x -/
def Vw (K : PySem.W.Frag) (H : Hp) (P : Addr → Prop) (v : V) (x : D) : Prop := Rp K H P v x ∨ ∃ a, v = .ref a ∧ Own K H P a x

/-- a code object's table -/
def isTb : HO → Prop
  | .tbl _ => True
  | _ => False
/-- how the heap may change under what is shared -/
structure Kp (P : Addr → Prop) (m : List Addr) (H : Hp) (P' : Addr → Prop) (H' : Hp) : Prop where
  ld : ∀ a, P a → ∃ o, H a = some o ∧ isLD o
  ins : ∀ a ∈ m, ∃ o, H a = some o ∧ isIns o
  keep : ∀ b o, H b = some o → ¬ P b → b ∉ m → ¬ isTb o → H' b = some o
  np : ∀ b o, H b = some o → ¬ P b → ¬ P' b
section
variable {K : PySem.W.Frag} {H H' : Hp} {P P' : Addr → Prop} {m : List Addr}
theorem Kp.at (k : Kp P m H P' H') {b : Addr} {o : HO} (h : H b = some o) (n1 : ¬ isLD o) (n2 : ¬ isIns o) (n3 : ¬ isTb o) : H' b = some o ∧ ¬ P' b := by
  have p : ¬ P b := fun q => by
    obtain ⟨u, e, l⟩ := k.ld b q
    rw [h] at e; cases e; exact n1 l
  have q : b ∉ m := fun q => by
    obtain ⟨u, e, l⟩ := k.ins b q
    rw [h] at e; cases e; exact n2 l
  exact ⟨k.keep b o h p q n3, k.np b o h p⟩
theorem Kp.lst (k : Kp P m H P' H') {b : Addr} {xs : List V} (h : H b = some (.lst xs)) (p : ¬ P b) : H' b = some (.lst xs) ∧ ¬ P' b := by
  have q : b ∉ m := fun q => by
    obtain ⟨u, e, l⟩ := k.ins b q
    rw [h] at e; cases e; exact l
  exact ⟨k.keep b _ h p q (fun z => z), k.np b _ h p⟩
theorem Kp.ldo (k : Kp P m H P' H') {b : Addr} {o : HO} (h : H b = some o) (l : isLD o) (p : ¬ P b) : H' b = some o ∧ ¬ P' b := by
  have q : b ∉ m := fun q => by
    obtain ⟨u, e, i⟩ := k.ins b q
    rw [h] at e; cases e
    cases o <;> first | exact l.elim | exact i.elim
  exact ⟨k.keep b _ h p q (fun z => by cases o <;> first | exact l.elim | exact z.elim), k.np b _ h p⟩
theorem Kp.sqT (k : Kp P m H P' H') {b : Addr} {xs : List V} (h : SqT K H b xs) : SqT K H' b xs := by
  rcases h with (h | ⟨o, h⟩) | h
  · exact .inl (.inl (k.at h (fun z => z) (fun z => z) (fun z => z)).1)
  · exact .inl (.inr ⟨o, (k.at h (fun z => z) (fun z => z) (fun z => z)).1⟩)
  · exact .inr h
theorem Kp.nL (k : Kp P m H P' H') {b : Addr} {xs : List V} (h : NL K H P b xs) : NL K H' P' b xs := by
  rcases h with ⟨h, p⟩ | ⟨o, h⟩ | h
  · exact .inl (k.lst h p)
  · exact .inr (.inl ⟨o, (k.at h (fun z => z) (fun z => z) (fun z => z)).1⟩)
  · exact .inr (.inr h)
mutual
theorem Rp.mono (k : Kp P m H P' H') : ∀ {v : V} {x : D}, Rp K H P v x → Rp K H' P' v x
  | _, _, .non => .non
  | _, _, .bl b => .bl b
  | _, _, .int i => .int i
  | _, _, .str s => .str s
  | _, _, .tup h hs => .tup (k.sqT h) (RpA.mono k hs)
  | _, _, .lst h n hs => .lst (k.lst h n).1 (k.lst h n).2 (RpA.mono k hs)
  | _, _, .scr h hs => .scr (k.nL h) (RpA.mono k hs)
  | _, _, .dct h n e hs => .dct (k.ldo h trivial n).1 (k.ldo h trivial n).2 e (RpA.mono k hs)
  | _, _, .dci h n e hs => .dci (k.ldo h trivial n).1 (k.ldo h trivial n).2 e (RpA.mono k hs)
  | _, _, .exn0 h => .exn0 (k.at h (fun z => z) (fun z => z) (fun z => z)).1
  | _, _, .exnd h h2 e n hs => .exnd (k.at h (fun z => z) (fun z => z) (fun z => z)).1 (k.at h2 (fun z => z) (fun z => z) (fun z => z)).1 e n (RpA.mono k hs)
  | _, _, .fnc nm => .fnc nm
theorem RpA.mono (k : Kp P m H P' H') : ∀ {vs : List V} {xs : List D}, RpA K H P vs xs → RpA K H' P' vs xs
  | _, _, .nil => .nil
  | _, _, .cons h hs => .cons (Rp.mono k h) (RpA.mono k hs)
end
theorem NL.anti {b : Addr} {xs : List V} (w : ∀ a, P' a → P a) (h : NL K H P b xs) : NL K H P' b xs := h.imp (fun z => ⟨z.1, fun q => z.2 (w b q)⟩) id
mutual
theorem Rp.anti (w : ∀ a, P' a → P a) : ∀ {v : V} {x : D}, Rp K H P v x → Rp K H P' v x
  | _, _, .non => .non
  | _, _, .bl b => .bl b
  | _, _, .int i => .int i
  | _, _, .str s => .str s
  | _, _, .tup h hs => .tup h (RpA.anti w hs)
  | _, _, .lst h n hs => .lst h (fun q => n (w _ q)) (RpA.anti w hs)
  | _, _, .scr h hs => .scr (h.anti w) (RpA.anti w hs)
  | _, _, .dct h n e hs => .dct h (fun q => n (w _ q)) e (RpA.anti w hs)
  | _, _, .dci h n e hs => .dci h (fun q => n (w _ q)) e (RpA.anti w hs)
  | _, _, .exn0 h => .exn0 h
  | _, _, .exnd h h2 e n hs => .exnd h h2 e n (RpA.anti w hs)
  | _, _, .fnc nm => .fnc nm
theorem RpA.anti (w : ∀ a, P' a → P a) : ∀ {vs : List V} {xs : List D}, RpA K H P vs xs → RpA K H P' vs xs
  | _, _, .nil => .nil
  | _, _, .cons h hs => .cons (Rp.anti w h) (RpA.anti w hs)
end
theorem Own.anti (w : ∀ a, P' a → P a) {a : Addr} {x : D} (h : Own K H P a x) : Own K H P' a x := by
  cases x with
  | lst ds => obtain ⟨xs, h1, h2⟩ := h; exact ⟨xs, h1, h2.anti w⟩
  | dct ks ds => obtain ⟨xs, h1, h2, h3⟩ := h; exact ⟨xs, h1, h2, h3.anti w⟩
  | dci ks ds => obtain ⟨xs, h1, h2, h3⟩ := h; exact ⟨xs, h1, h2, h3.anti w⟩
  | _ => exact h.elim
theorem RpA.length : ∀ {vs : List V} {xs : List D}, RpA K H P vs xs → vs.length = xs.length
  | _, _, .nil => rfl
  | _, _, .cons _ t => by rw [List.length_cons, List.length_cons, RpA.length t]
theorem RpA.get : ∀ {vs : List V} {xs : List D} {i : Nat} {x : D}, RpA K H P vs xs → xs[i]? = some x → ∃ v, vs[i]? = some v ∧ Rp K H P v x
  | _, _, _, _, .nil, e => by simp at e
  | _, _, 0, _, .cons h _, e => by simp at e; subst e; exact ⟨_, rfl, h⟩
  | _, _, i + 1, _, .cons _ t, e => by
    obtain ⟨v, h1, h2⟩ := RpA.get (i := i) t (by simpa using e)
    exact ⟨v, by simpa using h1, h2⟩
theorem RpA.get' : ∀ {vs : List V} {xs : List D} {i : Nat} {v : V}, RpA K H P vs xs → vs[i]? = some v → ∃ x, xs[i]? = some x ∧ Rp K H P v x
  | _, _, _, _, .nil, e => by simp at e
  | _, _, 0, _, .cons h _, e => by simp at e; subst e; exact ⟨_, rfl, h⟩
  | _, _, i + 1, _, .cons _ t, e => by
    obtain ⟨v, h1, h2⟩ := RpA.get' (i := i) t (by simpa using e)
    exact ⟨v, by simpa using h1, h2⟩
theorem RpA.app : ∀ {vs us : List V} {xs ys : List D}, RpA K H P vs xs → RpA K H P us ys → RpA K H P (vs ++ us) (xs ++ ys)
  | _, _, _, _, .nil, q => q
  | _, _, _, _, .cons h t, q => .cons h (RpA.app t q)
theorem RpA.take : ∀ {vs : List V} {xs : List D} (n : Nat), RpA K H P vs xs → RpA K H P (vs.take n) (xs.take n)
  | _, _, 0, _ => .nil
  | _, _, _ + 1, .nil => .nil
  | _, _, n + 1, .cons h t => .cons h (RpA.take n t)
theorem RpA.drop : ∀ {vs : List V} {xs : List D} (n : Nat), RpA K H P vs xs → RpA K H P (vs.drop n) (xs.drop n)
  | _, _, 0, h => h
  | _, _, _ + 1, .nil => .nil
  | _, _, n + 1, .cons _ t => RpA.drop n t
theorem RpA.set : ∀ {vs : List V} {xs : List D} {v : V} {x : D} (n : Nat), RpA K H P vs xs → Rp K H P v x → RpA K H P (vs.set n v) (xs.set n x)
  | _, _, _, _, _, .nil, _ => .nil
  | _, _, _, _, 0, .cons _ t, q => .cons q t
  | _, _, _, _, n + 1, .cons h t, q => .cons h (RpA.set n t q)
theorem RpA.rev {vs : List V} {xs : List D} (h : RpA K H P vs xs) : RpA K H P vs.reverse xs.reverse := by
  induction vs generalizing xs with
  | nil => cases h; exact .nil
  | cons v vs ih =>
    cases h with
    | cons h1 h2 =>
      rw [List.reverse_cons, List.reverse_cons]
      exact (ih h2).app (.cons h1 .nil)
theorem RpA.ins {vs : List V} {xs : List D} {v : V} {x : D} (h : RpA K H P vs xs) (q : Rp K H P v x) (n : Nat) : RpA K H P (vs.take n ++ v :: vs.drop n) (xs.take n ++ x :: xs.drop n) :=
  (h.take n).app (.cons q (h.drop n))
theorem RpA.ints {is : List Int} : RpA K H P (is.map V.int) (is.map D.int) := by
  induction is with
  | nil => exact .nil
  | cons i is ih => exact .cons (.int i) ih
end
end MI

namespace MI
open PySem L2

/-- the name of the program's one lambda -/
abbrev LN : Str := "steps_within.<locals>.<lambda>"
/-- a code object's table, all of whose code objects bear that name -/
structure TbS (H : Hp) (P : Addr) (n : Str) : Prop where
  nm : n = LN
  ok : LamX.TabS H P n
theorem TbS.ext {H H' : Hp} {P : Addr} {n : Str} (t : TbS H P n) (e : ∀ b o, H b = some o → H' b = some o) : TbS H' P n := ⟨t.nm, t.ok.ext e⟩
/-! ### the state as it stands -/
structure Fx where
  K : PySem.W.Frag
  T : List (Addr × Str)
  cl : Nat → Addr
  fn : List Str
  P0 : Addr → Prop
  m0 : List Addr
  H0 : Hp
  pr : Program
  w : World
structure G where
  own : Nat → Option Addr
  m : List Addr
def PP (F : Fx) (g : G) (a : Addr) : Prop := F.P0 a ∨ ∃ i, g.own i = some a
inductive FR (K : PySem.W.Frag) (fn : List Str) (H : Hp) (P : Addr → Prop) : List (Str × V) → List (Nat × D) → Prop
  | nil : FR K fn H P [] []
  | cons {f : Nat} {nm : Str} {v : V} {x : D} {vs : List (Str × V)} {xs : List (Nat × D)} : fn[f]? = some nm → x.nol = true → Rp K H P v x → FR K fn H P vs xs → FR K fn H P ((nm, v) :: vs) ((f, x) :: xs)
structure StR (K : PySem.W.Frag) (cl : Nat → Addr) (fn : List Str) (P : Addr → Prop) (m : List Addr) (S : Store) (H : Hp) : Prop where
  nd : m.Nodup
  len : m.length = S.length
  at_ : ∀ (j : Nat) (o : Inst), S[j]? = some o → ∃ a dx vs, m[j]? = some a ∧ H a = some (.ins (cl o.cls) dx vs) ∧ FR K fn H P vs o.fs
/-- a dict that is asked for its keys alone: its object, its keys' tuples -/
structure Dc0 (P : Program) (w : World) (a : Addr) (xs : List (List L2.Key × Addr × Value)) (h : Heap) : Prop where
  sys : (a == sysModules) = false
  at_ : ∃ o es ep, h.get? a = some o ∧ o.ExactDict ∧ o.data = .dict es ep ∧ es.toList = xs.map (entryOfKey (tupleKind (mixKind P w)))
  nd : (xs.map (·.1)).Nodup
def DcO (P : Program) (w : World) (a : Addr) (xs : List (List L2.Key × Addr × Value)) : HO := .ext (Dc0 P w a xs)
def DcR (F : Fx) (H : Hp) (v : V) (ks : List (List D)) : Prop :=
  ∃ (a : Addr) (xs : List (List L2.Key × Addr × Value)), v = .ref a ∧ H a = some (DcO F.pr F.w a xs) ∧ ks = xs.map (fun y => y.1.map kD) ∧ ∀ y ∈ xs, SqT F.K H y.2.1 (y.1.map kV)
theorem DcR.mono {F : Fx} {H H' : Hp} {P P' : Addr → Prop} {m : List Addr} (k : Kp P m H P' H') {v : V} {ks : List (List D)} (h : DcR F H v ks) : DcR F H' v ks := by
  obtain ⟨a, xs, e, h1, h2, h3⟩ := h
  exact ⟨a, xs, e, (k.at h1 (fun z => z) (fun z => z) (fun z => z)).1, h2, fun y hy => k.sqT (h3 y hy)⟩
structure RS (F : Fx) (g : G) (s : State) (σ : L2.St) (H : Hp) : Prop where
  len : s.r.length = σ.length
  sl : ∀ (i : Nat) (x : D), s.r[i]? = some (.v x false) → ∃ v, σ[i]? = some (some v) ∧ Rp F.K H (PP F g) v x
  ow : ∀ (i : Nat) (x : D), s.r[i]? = some (.v x true) → ∃ a, g.own i = some a ∧ σ[i]? = some (some (.ref a)) ∧ Own F.K H (PP F g) a x
  ob : ∀ (i j : Nat), s.r[i]? = some (.o j) → ∃ a, g.m[j]? = some a ∧ σ[i]? = some (some (.ref a))
  dc : ∀ (i : Nat) (ks : List (List D)), s.r[i]? = some (.d ks) → ∃ v, σ[i]? = some (some v) ∧ DcR F H v ks
  inj : ∀ (i j : Nat) (a : Addr), g.own i = some a → g.own j = some a → i = j
  own : ∀ (i : Nat) (a : Addr), g.own i = some a → F.H0 a = none ∧ ¬ F.P0 a ∧ ∃ o, H a = some o ∧ isLD o
  p0 : ∀ a, F.P0 a → ∃ o, H a = some o ∧ isLD o
  k0 : ∀ (b : Addr) (o : HO), F.H0 b = some o → b ∉ F.m0 → ¬ isTb o → H b = some o
  d0 : ∀ (b : Addr) (o : HO), F.H0 b = some o → ∃ o', H b = some o'
  tb : ∀ p ∈ F.T, TbS H p.1 p.2
  i0 : ∀ a ∈ F.m0, ∃ o, F.H0 a = some o ∧ isIns o
  pre : ∃ r, g.m = F.m0 ++ r ∧ ∀ a ∈ r, F.H0 a = none
  st : StR F.K F.cl F.fn (PP F g) g.m s.S H
/-- a step of an expression -/
structure StE (g : G) (H : Hp) (g' : G) (H' : Hp) : Prop where
  keep : ∀ (b : Addr) (o : HO), H b = some o → b ∉ g.m → ¬ isTb o → H' b = some o
  tb : ∀ (a : Addr) (n : Str), TbS H a n → TbS H' a n
  dom : ∀ (b : Addr) (o : HO), H b = some o → ∃ o', H' b = some o'
  sub : ∀ (i : Nat) (a : Addr), g'.own i = some a → g.own i = some a
  pre : ∃ r, g'.m = g.m ++ r ∧ ∀ a ∈ r, H a = none
/-- a step of a statement -/
structure Stp (F : Fx) (g : G) (H : Hp) (g' : G) (H' : Hp) : Prop where
  keep : ∀ (b : Addr) (o : HO), H b = some o → ¬ PP F g b → b ∉ g.m → ¬ isTb o → H' b = some o
  tb : ∀ (a : Addr) (n : Str), TbS H a n → TbS H' a n
  dom : ∀ (b : Addr) (o : HO), H b = some o → ∃ o', H' b = some o'
  np : ∀ (b : Addr) (o : HO), H b = some o → ¬ PP F g b → ¬ PP F g' b
  pre : ∃ r, g'.m = g.m ++ r ∧ ∀ a ∈ r, H a = none
/-- a list's or an instance's own object is another one than a table's or a code's -/
theorem tab_upd {H : Hp} {a : Addr} {o u : HO} (h : H a = some u) (l : isLD u ∨ isIns u) {c : Addr} {n : Str} (t : TbS H c n) : TbS (upd H a o) c n := by
  have ne : ∀ {b : Addr} {v : HO}, H b = some v → ¬ (isLD v ∨ isIns v) → b ≠ a := fun {b v} e k z => by
    subst z
    rw [h] at e; cases e; exact k l
  obtain ⟨nm, ps, h1, h2, h3⟩ := t
  refine ⟨nm, ps, by rw [upd_ne (ne h1 (by rintro (z | z) <;> exact z))]; exact h1, h2, fun pos cv hc => ?_⟩
  obtain ⟨d, e1, e2⟩ := h3 pos cv hc
  exact ⟨d, e1, by rw [upd_ne (ne e2 (by rintro (z | z) <;> exact z))]; exact e2⟩
theorem free_of {H H' : Hp} (dom : ∀ (b : Addr) (o : HO), H b = some o → ∃ o', H' b = some o') {a : Addr} (h : H' a = none) : H a = none := by
  cases q : H a with
  | none => rfl
  | some o =>
    obtain ⟨o', e⟩ := dom a o q
    rw [h] at e; cases e
theorem mem_of_pre {H : Hp} {m m' : List Addr} (h : ∃ r, m' = m ++ r ∧ ∀ a ∈ r, H a = none) {b : Addr} {o : HO} (e : H b = some o) (n : b ∉ m) : b ∉ m' := by
  obtain ⟨r, e1, e2⟩ := h
  subst e1
  intro q
  rcases List.mem_append.mp q with q | q
  · exact n q
  · rw [e2 b q] at e; cases e
theorem pre_trans {H H' : Hp} {m m1 m2 : List Addr} (dom : ∀ (b : Addr) (o : HO), H b = some o → ∃ o', H' b = some o') (a : ∃ r, m1 = m ++ r ∧ ∀ a ∈ r, H a = none) (b : ∃ r, m2 = m1 ++ r ∧ ∀ a ∈ r, H' a = none) : ∃ r, m2 = m ++ r ∧ ∀ a ∈ r, H a = none := by
  obtain ⟨r1, e1, n1⟩ := a
  obtain ⟨r2, e2, n2⟩ := b
  refine ⟨r1 ++ r2, by rw [e2, e1, List.append_assoc], fun c hc => ?_⟩
  rcases List.mem_append.mp hc with hc | hc
  · exact n1 c hc
  · exact free_of dom (n2 c hc)
section
variable {F : Fx} {g g' g2 : G} {s s' : State} {σ σ' : L2.St} {H H' H2 : Hp}
theorem RS.ins (R : RS F g s σ H) : ∀ a ∈ g.m, ∃ o, H a = some o ∧ isIns o := fun a ha => by
  obtain ⟨j, hj, e⟩ := List.getElem_of_mem ha
  have hl : j < s.S.length := by rw [← R.st.len]; exact hj
  obtain ⟨b, dx, vs, e1, e2, _⟩ := R.st.at_ j s.S[j] (List.getElem?_eq_getElem hl)
  rw [List.getElem?_eq_getElem hj] at e1
  have : g.m[j] = b := Option.some.inj e1
  rw [← e, this]
  exact ⟨_, e2, trivial⟩
theorem RS.ld (R : RS F g s σ H) : ∀ a, PP F g a → ∃ o, H a = some o ∧ isLD o := fun a ha => by
  rcases ha with h | ⟨i, h⟩
  · exact R.p0 a h
  · exact (R.own i a h).2.2
theorem StE.refl : StE g H g H := ⟨fun _ _ h _ _ => h, fun _ _ h => h, fun _ o h => ⟨o, h⟩, fun _ _ h => h, [], by simp, by simp⟩
theorem StE.pp (t : StE g H g' H') {a : Addr} (h : PP F g' a) : PP F g a := by
  rcases h with h | ⟨i, h⟩
  · exact .inl h
  · exact .inr ⟨i, t.sub i a h⟩
theorem StE.stp (t : StE g H g' H') : Stp F g H g' H' := ⟨fun b o h _ m z => t.keep b o h m z, t.tb, t.dom, fun b o _ n h => n (t.pp h), t.pre⟩
theorem RS.kp (R : RS F g s σ H) (t : Stp F g H g' H') : Kp (PP F g) g.m H (PP F g') H' := ⟨R.ld, R.ins, t.keep, t.np⟩
theorem RS.kpE (R : RS F g s σ H) (t : StE g H g' H') : Kp (PP F g) g.m H (PP F g') H' := R.kp t.stp
theorem StE.trans (a : StE g H g' H') (b : StE g' H' g2 H2) : StE g H g2 H2 where
  keep := fun c o h n z => b.keep c o (a.keep c o h n z) (mem_of_pre a.pre h n) z
  tb := fun c q h => b.tb c q (a.tb c q h)
  dom := fun c o h => let ⟨_, e⟩ := a.dom c o h; b.dom c _ e
  sub := fun i c h => a.sub i c (b.sub i c h)
  pre := pre_trans a.dom a.pre b.pre
theorem Stp.refl : Stp F g H g H := StE.refl.stp
theorem Stp.trans (a : Stp F g H g' H') (b : Stp F g' H' g2 H2) : Stp F g H g2 H2 where
  keep := fun c o h p n z => b.keep c o (a.keep c o h p n z) (a.np c o h p) (mem_of_pre a.pre h n) z
  tb := fun c q h => b.tb c q (a.tb c q h)
  dom := fun c o h => let ⟨_, e⟩ := a.dom c o h; b.dom c _ e
  np := fun c o h p => let ⟨_, e⟩ := a.dom c o h; b.np c _ e (a.np c o h p)
  pre := pre_trans a.dom a.pre b.pre
theorem StE.free (t : StE g H g' H') {a : Addr} (h : H' a = none) : H a = none := free_of t.dom h

theorem FR.mono {K : PySem.W.Frag} {fn : List Str} {P P' : Addr → Prop} {m : List Addr} (k : Kp P m H P' H') : ∀ {vs : List (Str × V)} {xs : List (Nat × D)}, FR K fn H P vs xs → FR K fn H' P' vs xs
  | _, _, .nil => .nil
  | _, _, .cons e n h t => .cons e n (h.mono k) (FR.mono k t)
mutual
theorem Rp.nolist {K : PySem.W.Frag} {P P' : Addr → Prop} : ∀ {v : V} {x : D}, Rp K H P v x → x.nol = true → Rp K H P' v x
  | _, _, .non, _ => .non
  | _, _, .bl b, _ => .bl b
  | _, _, .int i, _ => .int i
  | _, _, .str s, _ => .str s
  | _, _, .tup h hs, n => .tup h (RpA.nolist hs (by simpa [D.nol] using n))
  | _, _, .lst _ _ _, n => by simp [D.nol] at n
  | _, _, .scr _ _, n => by simp [D.nol] at n
  | _, _, .dct _ _ _ _, n => by simp [D.nol] at n
  | _, _, .dci _ _ _ _, n => by simp [D.nol] at n
  | _, _, .exn0 _, n => by simp [D.nol] at n
  | _, _, .exnd _ _ _ _ _, n => by simp [D.nol] at n
  | _, _, .fnc _, n => by simp [D.nol] at n
theorem RpA.nolist {K : PySem.W.Frag} {P P' : Addr → Prop} : ∀ {vs : List V} {xs : List D}, RpA K H P vs xs → D.nols xs = true → RpA K H P' vs xs
  | _, _, .nil, _ => .nil
  | _, _, .cons h hs, n => by
    simp only [D.nols, Bool.and_eq_true] at n
    exact .cons (Rp.nolist h n.1) (RpA.nolist hs n.2)
end
theorem FR.any {K : PySem.W.Frag} {fn : List Str} {P P' : Addr → Prop} : ∀ {vs : List (Str × V)} {xs : List (Nat × D)}, FR K fn H P vs xs → FR K fn H P' vs xs
  | _, _, .nil => .nil
  | _, _, .cons e n h t => .cons e n (h.nolist n) (FR.any t)
theorem StR.any {K : PySem.W.Frag} {cl : Nat → Addr} {fn : List Str} {P P' : Addr → Prop} {m : List Addr} {S : Store} (h : StR K cl fn P m S H) : StR K cl fn P' m S H :=
  ⟨h.nd, h.len, fun j o e => let ⟨a, dx, vs, h1, h2, h3⟩ := h.at_ j o e; ⟨a, dx, vs, h1, h2, h3.any⟩⟩
theorem Own.mono {K : PySem.W.Frag} {P P' : Addr → Prop} {m : List Addr} (k : Kp P m H P' H') {a : Addr} {x : D} (e : ∀ o, isLD o → H a = some o → H' a = some o) (h : Own K H P a x) : Own K H' P' a x := by
  cases x with
  | lst ds =>
    obtain ⟨xs, h1, h2⟩ := h
    exact ⟨xs, e _ trivial h1, h2.mono k⟩
  | dct ks ds =>
    obtain ⟨xs, h1, h2, h3⟩ := h
    exact ⟨xs, e _ trivial h1, h2, h3.mono k⟩
  | dci ks ds =>
    obtain ⟨xs, h1, h2, h3⟩ := h
    exact ⟨xs, e _ trivial h1, h2, h3.mono k⟩
  | _ => exact h.elim
theorem notIns (i : ∀ a ∈ g.m, ∃ o, H a = some o ∧ isIns o) {b : Addr} {o : HO} (h : H b = some o) (n : ¬ isIns o) : b ∉ g.m := fun q => by
  obtain ⟨u, e, l⟩ := i b q
  rw [h] at e; cases e; exact n l
theorem ld_nt {o : HO} (h : isLD o) : ¬ isTb o := fun q => by cases o <;> first | exact h.elim | exact q.elim
theorem ld_ni {o : HO} (h : isLD o) : ¬ isIns o := fun q => by cases o <;> first | exact h.elim | exact q.elim

/-- the heap grows, all that was tracked stays -/
theorem RS.grow (R : RS F g s σ H) (k : ∀ (b : Addr) (o : HO), H b = some o → H' b = some o) : RS F g s σ H' := by
  have kk : Kp (PP F g) g.m H (PP F g) H' := ⟨R.ld, R.ins, fun b o h _ _ _ => k b o h, fun _ _ _ n => n⟩
  refine ⟨R.len, fun i x e => ?_, fun i x e => ?_, R.ob, fun i ks e => let ⟨v, e1, h⟩ := R.dc i ks e; ⟨v, e1, h.mono kk⟩, R.inj, fun i a e => ?_, fun a e => ?_, fun b o h n z => k b o (R.k0 b o h n z), fun b o h => let ⟨o', e⟩ := R.d0 b o h; ⟨o', k b o' e⟩, fun p hp => (R.tb p hp).ext k, R.i0, R.pre, R.st.nd, R.st.len, fun j o e => ?_⟩
  · obtain ⟨v, e1, r⟩ := R.sl i x e
    exact ⟨v, e1, r.mono kk⟩
  · obtain ⟨a, e1, e2, r⟩ := R.ow i x e
    exact ⟨a, e1, e2, r.mono kk fun o _ h => k a o h⟩
  · obtain ⟨h1, h2, o, h3, h4⟩ := R.own i a e
    exact ⟨h1, h2, o, k a o h3, h4⟩
  · obtain ⟨o, h3, h4⟩ := R.p0 a e
    exact ⟨o, k a o h3, h4⟩
  · obtain ⟨a, dx, vs, e1, e2, r⟩ := R.st.at_ j o e
    exact ⟨a, dx, vs, e1, k a _ e2, r.mono kk⟩
theorem same_upd {a : Addr} {o : HO} (h : H a = none) : ∀ (b : Addr) (u : HO), H b = some u → upd H a o b = some u := fun b u e => by rw [upd_ne (ne_of_none e h)]; exact e
theorem RS.alloc (R : RS F g s σ H) {a : Addr} {o : HO} (h : H a = none) : RS F g s σ (upd H a o) := R.grow (same_upd h)
theorem StE.alloc (t : StE g H g' H') {a : Addr} {o : HO} (h : H' a = none) : StE g H g' (upd H' a o) :=
  ⟨fun b u e n z => same_upd h b u (t.keep b u e n z), fun c q z => (t.tb c q z).ext (same_upd h), fun b u e => let ⟨o', q⟩ := t.dom b u e; ⟨o', same_upd h b o' q⟩, t.sub, t.pre⟩
theorem StE.grow {H3 : Hp} (t : StE g H g' H') (k : ∀ (b : Addr) (o : HO), H' b = some o → H3 b = some o) : StE g H g' H3 :=
  ⟨fun b u e n z => k b u (t.keep b u e n z), fun c q z => (t.tb c q z).ext k, fun b u e => let ⟨o', q⟩ := t.dom b u e; ⟨o', k b o' q⟩, t.sub, t.pre⟩
theorem kp_grow (R : RS F g s σ H) (k : ∀ (b : Addr) (o : HO), H b = some o → H' b = some o) : Kp (PP F g) g.m H (PP F g) H' := ⟨R.ld, R.ins, fun b o h _ _ _ => k b o h, fun _ _ _ n => n⟩

/-- what an expression was lent is one's own again, when its value holds no list -/
theorem RS.lend (R : RS F g s σ H) (R' : RS F g' s' σ H') (t : StE g H g' H') : RS F ⟨g.own, g'.m⟩ ⟨s.r, s'.S⟩ σ H' ∧ StE g H ⟨g.own, g'.m⟩ H' := by
  have t2 : StE g H ⟨g.own, g'.m⟩ H' := ⟨t.keep, t.tb, t.dom, fun _ _ h => h, t.pre⟩
  refine ⟨⟨R.len, fun i x h => ?_, fun i x h => ?_, fun i j h => ?_, fun i ks e => let ⟨v, e1, h⟩ := R.dc i ks e; ⟨v, e1, h.mono (R.kpE t2)⟩, R.inj, fun i a h => ?_, R'.p0, R'.k0, R'.d0, R'.tb, R'.i0, R'.pre, R'.st.any⟩, t2⟩
  · obtain ⟨v, h1, h2⟩ := R.sl i x h
    exact ⟨v, h1, h2.mono (R.kpE t2)⟩
  · obtain ⟨a, h1, h2, h3⟩ := R.ow i x h
    exact ⟨a, h1, h2, h3.mono (R.kpE t2) fun o l q => t.keep a o q (notIns R.ins q (ld_ni l)) (ld_nt l)⟩
  · obtain ⟨a, h1, h2⟩ := R.ob i j h
    obtain ⟨r, e1, _⟩ := t.pre
    refine ⟨a, ?_, h2⟩
    have hj : j < g.m.length := (List.getElem?_eq_some_iff.mp h1).1
    show g'.m[j]? = some a
    rw [e1, List.getElem?_append_left hj]
    exact h1
  · obtain ⟨h1, h2, o, e, l⟩ := R.own i a h
    exact ⟨h1, h2, o, t.keep a o e (notIns R.ins e (ld_ni l)) (ld_nt l), l⟩
/-! ### values of expressions -/
/-- one's own from now on -/
def FrR (F : Fx) (g : G) (Hs H : Hp) (v : V) (x : D) : Prop := ∃ a, v = .ref a ∧ Hs a = none ∧ ¬ PP F g a ∧ Own F.K H (fun b => PP F g b ∨ b = a) a x
theorem FrR.mono (R : RS F g s σ H) (t : StE g H g' H') {Hs : Hp} {v : V} {y : D} (h : FrR F g Hs H v y) : FrR F g' Hs H' v y := by
  obtain ⟨a, e, z, n, o⟩ := h
  have lda : ∃ o, H a = some o ∧ isLD o := by
    cases y <;> first | exact o.elim | (obtain ⟨xs, h1, _⟩ := o; exact ⟨_, h1, trivial⟩)
  have k : Kp (fun b => PP F g b ∨ b = a) g.m H (fun b => PP F g' b ∨ b = a) H' := ⟨fun b q => q.elim (R.ld b) fun q => by rw [q]; exact lda, R.ins, fun b o h _ n z => t.keep b o h n z, fun b o h n q => n (q.imp t.pp id)⟩
  exact ⟨a, e, z, fun q => n (t.pp q), o.mono k fun o l q => t.keep a o q (notIns R.ins q (ld_ni l)) (ld_nt l)⟩
/-- a pair: the first part one's own from now on, where it is a list -/
def FtR (F : Fx) (g : G) (Hs H : Hp) (v : V) (x y : D) : Prop := ∃ t v1 v2, v = .ref t ∧ SqT F.K H t [v1, v2] ∧ y.nolx = true ∧ Rp F.K H (PP F g) v2 y ∧ ((x.nolx = true ∧ Rp F.K H (PP F g) v1 x) ∨ (flatL x = true ∧ FrR F g Hs H v1 x))
theorem FtR.mono (R : RS F g s σ H) (t : StE g H g' H') {Hs : Hp} {v : V} {x y : D} (h : FtR F g Hs H v x y) : FtR F g' Hs H' v x y := by
  obtain ⟨u, v1, v2, e, sq, n, r, q⟩ := h
  exact ⟨u, v1, v2, e, (R.kpE t).sqT sq, n, r.mono (R.kpE t), q.imp (fun z => ⟨z.1, z.2.mono (R.kpE t)⟩) fun z => ⟨z.1, z.2.mono R t⟩⟩
def EVR (F : Fx) (g : G) (Hs H : Hp) (v : V) : EV → Prop
  | .ft x y => FtR F g Hs H v x y
  | .sh x => Rp F.K H (PP F g) v x
  | .fr x => ∃ a, v = .ref a ∧ Hs a = none ∧ ¬ PP F g a ∧ Own F.K H (fun b => PP F g b ∨ b = a) a x
  | .bo x => Vw F.K H (PP F g) v x
  | .ob j => ∃ a, g.m[j]? = some a ∧ v = .ref a
theorem EVR.vw {Hs : Hp} {v : V} {e : EV} {x : D} (h : EVR F g Hs H v e) (d : e.dat = some x) : Vw F.K H (PP F g) v x := by
  cases e with
  | sh y => cases d; exact .inl h
  | fr y => cases d; obtain ⟨a, e, _, _, o⟩ := h; exact .inr ⟨a, e, o.anti fun _ => .inl⟩
  | bo y => cases d; exact h
  | ob j => cases d
  | ft x y => cases d
/-- fresh becomes shared -/
theorem own_rp {K : PySem.W.Frag} {P : Addr → Prop} {a : Addr} {x : D} (h : Own K H P a x) (n : ¬ P a) : Rp K H P (.ref a) x := by
  cases x with
  | lst ds => obtain ⟨xs, h1, h2⟩ := h; exact .lst h1 n h2
  | dct ks ds => obtain ⟨xs, h1, h2, h3⟩ := h; exact .dct h1 n h2 h3
  | dci ks ds => obtain ⟨xs, h1, h2, h3⟩ := h; exact .dci h1 n h2 h3
  | _ => exact h.elim
theorem EVR.rp {Hs : Hp} {v : V} {e : EV} {x : D} (h : EVR F g Hs H v e) (d : sto e = some x) : Rp F.K H (PP F g) v x := by
  cases e with
  | sh y => cases d; exact h
  | fr y => cases d; obtain ⟨a, e, _, n, o⟩ := h; rw [e]; exact own_rp (o.anti fun _ => .inl) n
  | bo y => cases d
  | ob j => cases d
  | ft x y => cases d
theorem Vw.mono (R : RS F g s σ H) (t : StE g H g' H') {v : V} {x : D} (h : Vw F.K H (PP F g) v x) : Vw F.K H' (PP F g') v x := by
  rcases h with h | ⟨a, e, h⟩
  · exact .inl (h.mono (R.kpE t))
  · exact .inr ⟨a, e, h.mono (R.kpE t) fun o l q => t.keep a o q (notIns R.ins q (ld_ni l)) (ld_nt l)⟩
theorem EVR.mono (R : RS F g s σ H) (t : StE g H g' H') {Hs : Hp} {v : V} {e : EV} (h : EVR F g Hs H v e) : EVR F g' Hs H' v e := by
  cases e with
  | ft x y => exact FtR.mono R t h
  | sh y => exact Rp.mono (R.kpE t) h
  | fr y =>
    obtain ⟨a, e, z, n, o⟩ := h
    have lda : ∃ o, H a = some o ∧ isLD o := by
      cases y <;> first | exact o.elim | (obtain ⟨xs, h1, _⟩ := o; exact ⟨_, h1, trivial⟩)
    have k : Kp (fun b => PP F g b ∨ b = a) g.m H (fun b => PP F g' b ∨ b = a) H' := ⟨fun b q => q.elim (R.ld b) fun q => by rw [q]; exact lda, R.ins, fun b o h _ n z => t.keep b o h n z, fun b o h n q => n (q.imp t.pp id)⟩
    exact ⟨a, e, z, fun q => n (t.pp q), o.mono k fun o l q => t.keep a o q (notIns R.ins q (ld_ni l)) (ld_nt l)⟩
  | bo y => exact Vw.mono R t h
  | ob j =>
    obtain ⟨a, e, z⟩ := h
    obtain ⟨r, e1, _⟩ := t.pre
    refine ⟨a, ?_, z⟩
    have hj : j < g.m.length := (List.getElem?_eq_some_iff.mp e).1
    rw [e1, List.getElem?_append_left hj]
    exact e
/-- a slot's value handed on -/
def ArgR (F : Fx) (g : G) (H : Hp) (v : V) : Slot → Prop
  | .v x false => Rp F.K H (PP F g) v x
  | .o j => ∃ a, g.m[j]? = some a ∧ v = .ref a
  | _ => False
theorem EVR.arg {Hs : Hp} {v : V} {e : EV} {x : Slot} (h : EVR F g Hs H v e) (d : e.slot = some x) : ArgR F g H v x := by
  cases e with
  | sh y => cases d; exact h
  | fr y => cases d; exact EVR.rp (e := .fr y) h rfl
  | bo y => cases d
  | ft x y => cases d
  | ob j => cases d; exact h
theorem ArgR.mono (R : RS F g s σ H) (t : StE g H g' H') {v : V} {x : Slot} (h : ArgR F g H v x) : ArgR F g' H' v x := by
  cases x with
  | u => exact h.elim
  | d ks => exact h.elim
  | v y b =>
    cases b with
    | true => exact h.elim
    | false => exact Rp.mono (R.kpE t) h
  | o j => exact EVR.mono (e := .ob j) (Hs := H) R t h
inductive ArgsR (F : Fx) (g : G) (H : Hp) : List V → List Slot → Prop
  | nil : ArgsR F g H [] []
  | cons {v : V} {x : Slot} {vs : List V} {xs : List Slot} : ArgR F g H v x → ArgsR F g H vs xs → ArgsR F g H (v :: vs) (x :: xs)
theorem ArgsR.mono (R : RS F g s σ H) (t : StE g H g' H') : ∀ {vs : List V} {xs : List Slot}, ArgsR F g H vs xs → ArgsR F g' H' vs xs
  | _, _, .nil => .nil
  | _, _, .cons h q => .cons (h.mono R t) (ArgsR.mono R t q)
theorem ArgsR.length : ∀ {vs : List V} {xs : List Slot}, ArgsR F g H vs xs → vs.length = xs.length
  | _, _, .nil => rfl
  | _, _, .cons _ q => by rw [List.length_cons, List.length_cons, ArgsR.length q]
theorem ArgsR.dats : ∀ {vs : List V} {xs : List Slot} {ds : List D}, ArgsR F g H vs xs → dats xs = some ds → RpA F.K H (PP F g) vs ds
  | _, _, _, .nil, e => by cases e; exact .nil
  | _, _, ds, .cons (x := x) h q, e => by
    cases x with
    | u => exact h.elim
    | d ks => exact h.elim
    | o j => cases e
    | v y b =>
      cases b with
      | true => exact h.elim
      | false =>
        simp only [MI.dats, Option.map_eq_some_iff] at e
        obtain ⟨ds', e1, e2⟩ := e
        subst e2
        exact .cons h (ArgsR.dats q e1)
inductive VwA (F : Fx) (g : G) (H : Hp) : List V → List D → Prop
  | nil : VwA F g H [] []
  | cons {v : V} {x : D} {vs : List V} {xs : List D} : Vw F.K H (PP F g) v x → VwA F g H vs xs → VwA F g H (v :: vs) (x :: xs)

/-! ### what is wanted behind an expression -/
/-- an exception in the air: its class, its dict -/
def ExR (F : Fx) (g : G) (H : Hp) (C : Value) (d : Option Addr) (e : Exn) : Prop :=
  C = .ref (He.ga F.K (sS e.c)) ∧ ((e.ks = [] ∧ e.vs = [] ∧ d = none) ∨ ∃ dx ws, d = some dx ∧ H dx = some (.xd ws) ∧ ws.map (·.1) = e.ks.map sS ∧ D.nols e.vs = true ∧ RpA F.K H (PP F g) (ws.map (·.2)) e.vs)
abbrev WX := Value → Option Addr → L2.St → Hp → Prop
def Post {α : Type} (F : Fx) (W : MI.WX) (g : G) (σ : L2.St) (H : Hp) (r : R State α) (k : α → G → State → Hp → Prop) : Prop := match r with
  | .ok a s' => ∀ g' H', RS F g' s' σ H' → StE g H g' H' → k a g' s' H'
  | .exc e s' => ∀ g' H' C d, RS F g' s' σ H' → StE g H g' H' → ExR F g' H' C d e → W C d σ H'
  | .bad => False
theorem Post.bind {α β : Type} {W : MI.WX} {r : R State α} {f : α → State → R State β} {k : β → G → State → Hp → Prop} (h : Post F W g σ H (r.bind f) k) :
    Post F W g σ H r fun a g1 s1 H1 => StE g H g1 H1 → Post F W g1 σ H1 (f a s1) fun b g2 s2 H2 => StE g1 H1 g2 H2 → k b g2 s2 H2 := by
  cases r with
  | bad => exact h
  | exc e s' => exact h
  | ok a s1 =>
    intro g1 H1 R1 t1 _
    have h' : Post F W g σ H (f a s1) k := h
    cases q : f a s1 with
    | bad => rw [q] at h'; exact h'
    | exc e s2 => rw [q] at h'; exact fun g2 H2 C d R2 t2 x => h' g2 H2 C d R2 (t1.trans t2) x
    | ok b s2 => rw [q] at h'; exact fun g2 H2 R2 t2 _ => h' g2 H2 R2 (t1.trans t2)
theorem Post.mono {α : Type} {W : MI.WX} {r : R State α} {k k' : α → G → State → Hp → Prop} (h : Post F W g σ H r k) (m : ∀ a g' s' H', r = .ok a s' → RS F g' s' σ H' → StE g H g' H' → k a g' s' H' → k' a g' s' H') : Post F W g σ H r k' := by
  cases r with
  | bad => exact h
  | exc e s' => exact h
  | ok a s1 => exact fun g' H' R t => m a g' s1 H' rfl R t (h g' H' R t)
/-- the data of the value -/
theorem Post.dat {β : Type} {W : MI.WX} {r : R State EV} {f : D → State → R State β} {k : β → G → State → Hp → Prop} (h : Post F W g σ H (r.dat f) k) :
    Post F W g σ H r fun a g1 s1 H1 => StE g H g1 H1 → ∃ x, a.dat = some x ∧ Post F W g1 σ H1 (f x s1) fun b g2 s2 H2 => StE g1 H1 g2 H2 → k b g2 s2 H2 := by
  refine Post.mono (Post.bind h) fun a g1 s1 H1 _ _ _ q t => ?_
  have q := q t
  cases e : a.dat with
  | none => rw [e] at q; exact q.elim
  | some x => rw [e] at q; exact ⟨x, rfl, q⟩
end
end MI

namespace MI
open PySem L2

theorem SZ_line : SZ = sizeLine := by decide
theorem fits_iff {n : Nat} : fits n = true ↔ n ≤ sizeLine := by unfold fits; rw [← SZ_line]; exact decide_eq_true_iff
theorem gd_some {α : Type} {b : Bool} {x y : α} (h : gd b x = some y) : b = true ∧ x = y := by
  unfold gd at h
  split at h
  · next e => exact ⟨e, Option.some.inj h⟩
  · cases h

/-! ### the data as the library's data -/
mutual
def D.py : D → PyData
  | .non => .none
  | .bl b => .bool b
  | .int i => .int i
  | .str s => .str (sS s)
  | .tup xs => .tuple (D.pys xs)
  | .lst xs => .list (D.pys xs)
  | .scr _ => .dict []
  | .dct _ _ => .dict []
  | .dci _ _ => .dict []
  | .exn _ _ _ => .dict []
  | .fnc _ => .dict []
def D.pys : List D → List PyData
  | [] => []
  | x :: xs => D.py x :: D.pys xs
end
theorem pys_map : ∀ xs : List D, D.pys xs = xs.map D.py
  | [] => by simp [D.pys]
  | x :: xs => by simp [D.pys, pys_map xs]
mutual
theorem eqv_py : ∀ x y : D, PyData.eqv x.py y.py = D.eqv x y
  | .non, y => by cases y <;> simp [D.py, D.eqv, PyData.eqv]
  | .bl a, y => by
    cases y <;> simp [D.py, D.eqv, PyData.eqv]
    rw [Bool.beq_eq_decide_eq]
  | .int i, y => by
    cases y <;> simp [D.py, D.eqv, PyData.eqv] <;> rw [Bool.beq_eq_decide_eq]
  | .str a, y => by
    cases y <;> simp [D.py, D.eqv, PyData.eqv]
    rename_i b
    by_cases e : a = b
    · subst e; simp
    · have : ¬ sS a = sS b := fun q => e (sS_inj q)
      simp [e]
  | .tup xs, y => by
    cases y <;> simp [D.py, D.eqv, PyData.eqv]
    exact eqvs_py xs _
  | .lst xs, y => by
    cases y <;> simp [D.py, D.eqv, PyData.eqv]
    exact eqvs_py xs _
  | .scr xs, y => by cases y <;> simp [D.py, D.eqv, PyData.eqv]
  | .dct _ _, y => by cases y <;> simp [D.py, D.eqv, PyData.eqv]
  | .dci _ _, y => by cases y <;> simp [D.py, D.eqv, PyData.eqv]
  | .exn _ _ _, y => by cases y <;> simp [D.py, D.eqv, PyData.eqv]
  | .fnc _, y => by cases y <;> simp [D.py, D.eqv, PyData.eqv]
theorem eqvs_py : ∀ xs ys : List D, PyData.eqvAll (D.pys xs) (D.pys ys) = D.eqvs xs ys
  | [], ys => by cases ys <;> simp [D.pys, D.eqvs, PyData.eqvAll]
  | x :: xs, ys => by
    cases ys with
    | nil => simp [D.pys, D.eqvs, PyData.eqvAll]
    | cons y ys => simp [D.pys, D.eqvs, PyData.eqvAll, eqv_py x y, eqvs_py xs ys]
end
mutual
theorem okd_py : ∀ (x : D) (n : Nat), x.okd n = true → x.py.canLay0 = true ∧ x.py.depth ≤ n
  | .non, n, _ => by simp [D.py, PyData.canLay0, PyData.depth]
  | .bl _, n, _ => by simp [D.py, PyData.canLay0, PyData.depth]
  | .int _, n, _ => by simp [D.py, PyData.canLay0, PyData.depth]
  | .str s, n, h => by
    simp only [D.okd, List.all_eq_true, decide_eq_true_eq] at h
    refine ⟨?_, by simp [D.py, PyData.depth]⟩
    simp only [D.py, PyData.canLay0, PyData.strOk]
    rw [Array.all_eq_true]
    intro i hi
    exact decide_eq_true (h _ (by simp))
  | .tup xs, 0, h => by simp [D.okd] at h
  | .tup xs, n + 1, h => by
    obtain ⟨a, b⟩ := okds_py xs n (by simpa [D.okd] using h)
    refine ⟨by simpa [D.py, PyData.canLay0] using a, ?_⟩
    simp only [D.py, PyData.depth]
    omega
  | .lst xs, 0, h => by simp [D.okd] at h
  | .lst xs, n + 1, h => by
    obtain ⟨a, b⟩ := okds_py xs n (by simpa [D.okd] using h)
    refine ⟨by simpa [D.py, PyData.canLay0] using a, ?_⟩
    simp only [D.py, PyData.depth]
    omega
  | .scr _, n, h => by simp [D.okd] at h
  | .dct _ _, n, h => by simp [D.okd] at h
  | .dci _ _, n, h => by simp [D.okd] at h
  | .exn _ _ _, n, h => by simp [D.okd] at h
  | .fnc _, n, h => by simp [D.okd] at h
theorem okds_py : ∀ (xs : List D) (n : Nat), D.okds xs n = true → PyData.canLayAll0 (D.pys xs) = true ∧ PyData.depthAll (D.pys xs) ≤ n
  | [], n, _ => by simp [D.pys, PyData.canLayAll0, PyData.depthAll]
  | x :: xs, n, h => by
    simp only [D.okds, Bool.and_eq_true] at h
    obtain ⟨a, b⟩ := okd_py x n h.1
    obtain ⟨c, d⟩ := okds_py xs n h.2
    refine ⟨by simp [D.pys, PyData.canLayAll0, a, c], ?_⟩
    simp only [D.pys, PyData.depthAll]
    omega
end
theorem shaped_py {x : D} (h : x.okd DEEP = true) : SeqAt.shaped x.py = true := by
  obtain ⟨a, b⟩ := okd_py x DEEP h
  unfold SeqAt.shaped
  rw [a, Bool.true_and]
  exact decide_eq_true (Nat.le_trans b (by decide))
section
variable {K : PySem.W.Frag} {H : Hp} {P : Addr → Prop}
mutual
theorem Rp.dp : ∀ {v : V} {x : D} {n : Nat}, Rp K H P v x → x.okd n = true → Dp K H v x.py
  | _, _, _, .non, _ => by simp only [D.py]; exact .non
  | _, _, _, .bl b, _ => by simp only [D.py]; exact .bl b
  | _, _, _, .int i, _ => by simp only [D.py]; exact .int i
  | _, _, _, .str s, _ => by simp only [D.py]; exact .str _
  | _, _, 0, .tup h hs, k => by simp [D.okd] at k
  | _, _, n + 1, .tup h hs, k => by simp only [D.py]; exact .tup h (RpA.dp hs (n := n) (by simpa [D.okd] using k))
  | _, _, 0, .lst h _ hs, k => by simp [D.okd] at k
  | _, _, n + 1, .lst h _ hs, k => by simp only [D.py]; exact .lst (.of h) (RpA.dp hs (n := n) (by simpa [D.okd] using k))
  | _, _, _, .scr _ _, k => by simp [D.okd] at k
  | _, _, _, .exn0 _, k => by simp [D.okd] at k
  | _, _, _, .exnd _ _ _ _ _, k => by simp [D.okd] at k
  | _, _, _, .fnc _, k => by simp [D.okd] at k
theorem RpA.dp : ∀ {vs : List V} {xs : List D} {n : Nat}, RpA K H P vs xs → D.okds xs n = true → DpAll K H vs (D.pys xs)
  | _, _, _, .nil, _ => by simp only [D.pys]; exact .nil
  | _, _, n, .cons h hs, k => by
    simp only [D.okds, Bool.and_eq_true] at k
    simp only [D.pys]
    exact .cons (Rp.dp h k.1) (RpA.dp hs k.2)
end
theorem Vw.dp {v : V} {x : D} (h : Vw K H P v x) (k : x.okd DEEP = true) : Dp K H v x.py := by
  rcases h with h | ⟨a, e, h⟩
  · exact h.dp k
  · cases x with
    | lst ds =>
      obtain ⟨xs, h1, h2⟩ := h
      subst e
      have k' : D.okds ds 59 = true := by simpa [D.okd, DEEP] using k
      simp only [D.py]
      exact .lst (.of h1) (h2.dp k')
    | dct ks ds => simp [D.okd] at k
    | dci ks ds => simp [D.okd] at k
    | _ => exact h.elim

/-! ### shapes -/
theorem Vw.int {v : V} {i : Int} (h : Vw K H P v (.int i)) : v = .int i := by
  rcases h with h | ⟨a, e, h⟩
  · cases h; rfl
  · exact h.elim
theorem Vw.bl {v : V} {b : Bool} (h : Vw K H P v (.bl b)) : v = .bl b := by
  rcases h with h | ⟨a, e, h⟩
  · cases h; rfl
  · exact h.elim
theorem Vw.non {v : V} (h : Vw K H P v .non) : v = .non := by
  rcases h with h | ⟨a, e, h⟩
  · cases h; rfl
  · exact h.elim
theorem Vw.str {v : V} {s : List Nat} (h : Vw K H P v (.str s)) : v = .str (sS s) := by
  rcases h with h | ⟨a, e, h⟩
  · cases h; rfl
  · exact h.elim
theorem Vw.tup {v : V} {ds : List D} (h : Vw K H P v (.tup ds)) : ∃ a xs, v = .ref a ∧ SqT K H a xs ∧ RpA K H P xs ds := by
  rcases h with h | ⟨a, e, h⟩
  · cases h with | tup h hs => exact ⟨_, _, rfl, h, hs⟩
  · exact h.elim
theorem Vw.lst {v : V} {ds : List D} (h : Vw K H P v (.lst ds)) : ∃ a xs, v = .ref a ∧ H a = some (.lst xs) ∧ RpA K H P xs ds := by
  rcases h with h | ⟨a, e, h⟩
  · cases h with | lst h _ hs => exact ⟨_, _, rfl, h, hs⟩
  · obtain ⟨xs, h1, h2⟩ := h; exact ⟨a, xs, e, h1, h2⟩
theorem Vw.scr {v : V} {ds : List D} (h : Vw K H P v (.scr ds)) : ∃ a xs, v = .ref a ∧ SqL K H a xs ∧ RpA K H P xs ds := by
  rcases h with h | ⟨a, e, h⟩
  · cases h with | scr h hs => exact ⟨_, _, rfl, h.sq, hs⟩
  · exact h.elim
theorem Vw.flat {v : V} {x : D} (h : Vw K H P v x) (f : flatD x = true) : Rp K H P v x := by
  rcases h with h | ⟨a, e, h⟩
  · exact h
  · cases x <;> first | exact h.elim | cases f
theorem Vw.dct {v : V} {ks ds : List D} (h : Vw K H P v (.dct ks ds)) : ∃ (a : Addr) (kvs : List (List L2.Key × V)), v = .ref a ∧ H a = some (.dT kvs) ∧ ks = kvs.map (fun p => kT p.1) ∧ RpA K H P (kvs.map (·.2)) ds := by
  rcases h with h | ⟨a, e, h⟩
  · cases h with | dct h _ e hs => exact ⟨_, _, rfl, h, e, hs⟩
  · obtain ⟨xs, h1, h2, h3⟩ := h; exact ⟨a, xs, e, h1, h2, h3⟩
theorem Vw.dci {v : V} {ks : List Int} {ds : List D} (h : Vw K H P v (.dci ks ds)) : ∃ (a : Addr) (kvs : List (L2.Key × V)), v = .ref a ∧ H a = some (.dK kvs) ∧ kvs.map (·.1) = ks.map Sum.inl ∧ RpA K H P (kvs.map (·.2)) ds := by
  rcases h with h | ⟨a, e, h⟩
  · cases h with | dci h _ e hs => exact ⟨_, _, rfl, h, e, hs⟩
  · obtain ⟨xs, h1, h2, h3⟩ := h; exact ⟨a, xs, e, h1, h2, h3⟩
theorem RpA.keys : ∀ {vs : List V} {ds : List D}, RpA K H P vs ds → ds.all keyPart = true → ∃ k : List L2.Key, vs = k.map L2.kV ∧ ds = k.map kD
  | _, _, .nil, _ => ⟨[], rfl, rfl⟩
  | _, _, .cons h hs, n => by
    rw [List.all_cons, Bool.and_eq_true] at n
    obtain ⟨k, e1, e2⟩ := RpA.keys hs n.2
    have n1 := n.1
    cases h with
    | int i => exact ⟨.inl i :: k, by rw [e1]; rfl, by rw [e2]; rfl⟩
    | str s => exact ⟨.inr (sS s) :: k, by rw [e1]; rfl, by rw [e2]; simp [kD]⟩
    | _ => cases n1
theorem Vw.key {v : V} {x : D} (h : Vw K H P v x) (k : x.keyok = true) : ∃ (a : Addr) (key : List L2.Key), v = .ref a ∧ SqT K H a (key.map L2.kV) ∧ x = kT key := by
  cases x <;> first | (simp [D.keyok] at k; done) | skip
  obtain ⟨a, xs, rfl, h1, h2⟩ := h.tup
  obtain ⟨key, e1, e2⟩ := h2.keys (by simpa [D.keyok] using k)
  subst e1 e2
  exact ⟨a, key, rfl, h1, rfl⟩
/-! keys that are asked for -/
abbrev Lf := PySem.Leaf
def lfK : L2.Key → Lf
  | .inl i => .num i
  | .inr x => .text x
def lfD : D → Option Lf
  | .non => some .none
  | .bl b => some (.num (if b = true then 1 else 0))
  | .int i => some (.num i)
  | .str s => some (.text (sS s))
  | _ => none
inductive LfA : List V → List Lf → Prop
  | nil : LfA [] []
  | non {vs : List V} {ls : List Lf} : LfA vs ls → LfA (.non :: vs) (.none :: ls)
  | bl {b : Bool} {vs : List V} {ls : List Lf} : LfA vs ls → LfA (.bl b :: vs) (.num (if b = true then 1 else 0) :: ls)
  | int {i : Int} {vs : List V} {ls : List Lf} : LfA vs ls → LfA (.int i :: vs) (.num i :: ls)
  | str {x : Str} {vs : List V} {ls : List Lf} : LfA vs ls → LfA (.str x :: vs) (.text x :: ls)
theorem RpA.leafs : ∀ {vs : List V} {ds : List D}, RpA K H P vs ds → ds.all keyPartN = true → ∃ ls : List Lf, LfA vs ls ∧ ds.map lfD = ls.map some
  | _, _, .nil, _ => ⟨[], .nil, rfl⟩
  | _, _, .cons (x := x) h t, n => by
    rw [List.all_cons, Bool.and_eq_true] at n
    obtain ⟨ls, e1, e2⟩ := t.leafs n.2
    cases h with
    | non => exact ⟨_, .non e1, by rw [List.map_cons, List.map_cons, e2]; rfl⟩
    | bl b => exact ⟨_, .bl e1, by rw [List.map_cons, List.map_cons, e2]; rfl⟩
    | int i => exact ⟨_, .int e1, by rw [List.map_cons, List.map_cons, e2]; rfl⟩
    | str s => exact ⟨_, .str e1, by rw [List.map_cons, List.map_cons, e2]; rfl⟩
    | _ => exact nomatch n.1
theorem Vw.keyN {v : V} {x : D} (h : Vw K H P v x) (k : x.keyokN = true) : ∃ (a : Addr) (vs : List V) (ds : List D) (ls : List Lf), v = .ref a ∧ x = .tup ds ∧ SqT K H a vs ∧ LfA vs ls ∧ ds.map lfD = ls.map some := by
  cases x <;> first | (simp [D.keyokN] at k; done) | skip
  obtain ⟨a, xs, rfl, h1, h2⟩ := h.tup
  obtain ⟨ls, e1, e2⟩ := h2.leafs (by simpa [D.keyokN] using k)
  exact ⟨a, xs, _, ls, rfl, rfl, h1, e1, e2⟩
theorem lf_eqv (k : L2.Key) : ∀ {d : D} {l : Lf}, lfD d = some l → D.eqv (kD k) d = decide (lfK k = l) := by
  intro d l h
  cases d <;> first | (cases h; done) | skip
  all_goals cases h
  · cases k <;> simp [kD, lfK, D.eqv]
  · cases k with
    | inl i => simp [kD, lfK, D.eqv]
    | inr x => simp [kD, lfK, D.eqv]
  · cases k <;> simp [kD, lfK, D.eqv]
  · cases k with
    | inl i => simp [kD, lfK, D.eqv]
    | inr x =>
      rename_i s
      simp only [kD, lfK, D.eqv, PySem.Leaf.text.injEq]
      rw [decide_eq_decide]
      constructor
      · intro h; cases x; simp only [Str.mk.injEq]; first | (subst h; simp) | (rw [← h]; simp)
      · intro h; subst h; simp
theorem lfs_eqv : ∀ (k : List L2.Key) {ds : List D} {ls : List Lf}, ds.map lfD = ls.map some → D.eqvs (k.map kD) ds = decide (k.map lfK = ls)
  | [], ds, ls, h => by
    cases ds with
    | nil => cases ls with
      | nil => simp [D.eqvs]
      | cons l ls => cases h
    | cons d ds => cases ls with
      | nil => cases h
      | cons l ls => simp [D.eqvs]
  | k :: ks, ds, ls, h => by
    cases ds with
    | nil => cases ls with
      | nil => simp [D.eqvs]
      | cons l ls => cases h
    | cons d ds => cases ls with
      | nil => cases h
      | cons l ls =>
        rw [List.map_cons, List.map_cons] at h
        injection h with h1 h2
        simp only [List.map_cons, D.eqvs]
        rw [lf_eqv k h1, lfs_eqv ks h2]
        simp
theorem kD_eqv (a b : L2.Key) : D.eqv (kD a) (kD b) = decide (a = b) := by
  cases a <;> cases b <;> simp [kD, D.eqv]
  rename_i x y
  constructor
  · intro h
    cases x; cases y
    simp only [Str.mk.injEq]
    first | exact h | exact Array.toList_inj.mp h
  · intro h; rw [h]
theorem kDs_eqv : ∀ a b : List L2.Key, D.eqvs (a.map kD) (b.map kD) = decide (a = b)
  | [], [] => by simp [D.eqvs]
  | [], _ :: _ => by simp [D.eqvs]
  | _ :: _, [] => by simp [D.eqvs]
  | x :: xs, y :: ys => by
    simp only [List.map_cons, D.eqvs]
    rw [kD_eqv, kDs_eqv xs ys]
    simp
theorem kT_eqv (a b : List L2.Key) : D.eqv (kT a) (kT b) = decide (a = b) := by
  simp only [kT, D.eqv]
  exact kDs_eqv a b
theorem memD_kT (k : List L2.Key) : ∀ kvs : List (List L2.Key × V), memD (kT k) (kvs.map fun p => kT p.1) = (valV kvs k).isSome
  | [] => rfl
  | p :: r => by
    unfold memD
    rw [List.map_cons, List.any_cons]
    have ih := memD_kT k r
    unfold memD at ih
    rw [ih, kT_eqv]
    by_cases e : p.1 = k
    · rw [valV_pos e, decide_eq_true e]; rfl
    · rw [valV_neg e, decide_eq_false e]; rfl
section
variable {X : Cx} {pins : List (Addr × Obj)} {σ : L2.St} {H : Hp} {s : Shared} {a b : Addr} {kvs : List (List L2.Key × V)} {key : List L2.Key}
theorem key_at (I : Inv X pins σ H s) (h : SqT X.K H b (key.map L2.kV)) : (PySem.tupleKind (L2.mixKind X.prog X.w)).is s.heap key b := by
  obtain ⟨its, r, ⟨o, h1, h2, n, h3⟩, _⟩ := I.tuple h
  exact ⟨o, its.toArray, n, h1, h2, h3, by simpa using items_are r⟩
abbrev kTMx (P : Program) (w : World) := PySem.tupleKind (L2.mixKind P w)
abbrev kTLx (P : Program) (w : World) := PySem.tupleKind (PySem.leafKind P w)
def liftK (y : List L2.Key × Addr × Value) : List Lf × Addr × Value := (y.1.map lfK, y.2)
theorem hash_lf {P : Program} {w : World} (k : L2.Key) : (PySem.leafKind P w).hash (lfK k) = (L2.mixKind P w).hash k := by cases k <;> rfl
theorem entry_lift {P : Program} {w : World} (y : List L2.Key × Addr × Value) : entryOfKey (kTLx P w) (liftK y) = entryOfKey (kTMx P w) y := by
  have e : tupleKeyHash (PySem.leafKind P w) (y.1.map lfK) = tupleKeyHash (L2.mixKind P w) y.1 := by
    unfold tupleKeyHash
    rw [List.map_map]
    exact congrArg (fun z => reduceHash (Builtin.Tuple.tupleHashOf z)) (List.map_congr_left fun k _ => hash_lf (P := P) (w := w) k)
  unfold entryOfKey
  show (⟨_, _, _⟩ : DictEntry) = _
  first | rw [show (kTLx P w).hash (liftK y).1 = (kTMx P w).hash y.1 from e] | skip
  all_goals rfl
theorem items_lift {P : Program} {w : World} : ∀ {ks : List L2.Key} {vs : List Value}, ItemsAre (L2.mixKind P w) ks vs → ItemsAre (PySem.leafKind P w) (ks.map lfK) vs
  | _, _, .nil => .nil
  | _, _, .cons (k := k) (v := v) h t => .cons (by
      rcases keyIs_shape (show keyIs k v = true from h) with ⟨i, t, rfl, rfl⟩ | ⟨x, t, rfl, rfl⟩
      · show decide (i = i) = true
        simp
      · exact h) (items_lift t)
theorem lfK_inj : ∀ {a b : L2.Key}, lfK a = lfK b → a = b
  | .inl _, .inl _, e => by injection e with e; rw [e]
  | .inr _, .inr _, e => by injection e with e; rw [e]
  | .inl _, .inr _, e => nomatch e
  | .inr _, .inl _, e => nomatch e
theorem lfKs_inj : ∀ {a b : List L2.Key}, a.map lfK = b.map lfK → a = b
  | [], [], _ => rfl
  | [], _ :: _, e => nomatch e
  | _ :: _, [], e => nomatch e
  | x :: xs, y :: ys, e => by
    rw [List.map_cons, List.map_cons] at e
    injection e with e1 e2
    rw [lfK_inj e1, lfKs_inj e2]
theorem nodup_lift : ∀ {xs : List (List L2.Key × Addr × Value)}, (xs.map (·.1)).Nodup → ((xs.map liftK).map (·.1)).Nodup
  | [], _ => by simp
  | x :: xs, h => by
    rw [List.map_cons, List.nodup_cons] at h
    rw [List.map_cons, List.map_cons, List.nodup_cons]
    refine ⟨fun z => h.1 ?_, nodup_lift h.2⟩
    obtain ⟨y, hy, e⟩ := List.mem_map.mp z
    obtain ⟨u, hu, rfl⟩ := List.mem_map.mp hy
    rw [← lfKs_inj e]
    exact List.mem_map.mpr ⟨u, hu, rfl⟩
theorem lift_dict {P : Program} {w : World} {h : Heap} {a : Addr} {xs : List (List L2.Key × Addr × Value)} (d : h.DictOfH (kTMx P w) a xs) : h.DictOfH (kTLx P w) a (xs.map liftK) := by
  obtain ⟨o, es, ep, h1, h2, h3, h4, h5, h6⟩ := d
  refine ⟨o, es, ep, h1, h2, h3, ?_, fun y hy => ?_, nodup_lift h6⟩
  · rw [h4, List.map_map, List.map_congr_left fun y _ => (entry_lift (P := P) (w := w) y).symm]
    rfl
  · obtain ⟨u, hu, rfl⟩ := List.mem_map.mp hy
    obtain ⟨o, items, n, g1, g2, g3, g4⟩ := h5 u hu
    exact ⟨o, items, n, g1, g2, g3, items_lift g4⟩
theorem leafs_are {P : Program} {w : World} : ∀ {vs : List V} {ls : List Lf} {us : List Value}, LfA vs ls → Vals vs us → ItemsAre (PySem.leafKind P w) ls us
  | _, _, _, .nil, .nil => .nil
  | _, _, _, .non l, .cons r t => by cases r; exact .cons rfl (leafs_are l t)
  | _, _, _, .bl l, .cons r t => by cases r; exact .cons (by show decide (_ = _) = true; simp) (leafs_are l t)
  | _, _, _, .int (i := i) l, .cons r t => by obtain ⟨k, rfl⟩ := r; exact .cons (by show decide (i = i) = true; simp) (leafs_are l t)
  | _, _, _, .str (x := x) l, .cons r t => by obtain ⟨k, rfl⟩ := r; exact .cons (by show Value.isStrOf x (.str x k) = true; simp [Value.isStrOf]) (leafs_are l t)
theorem leafs_at {vs : List V} {ls : List Lf} (I : Inv X pins σ H s) (h : SqT X.K H b vs) (l : LfA vs ls) : (kTLx X.prog X.w).is s.heap ls b := by
  obtain ⟨its, r, ⟨o, h1, h2, n, h3⟩, _⟩ := I.tuple h
  exact ⟨o, its.toArray, n, h1, h2, h3, by simpa using leafs_are l r⟩
theorem atKey_lift {ls : List Lf} : ∀ {xs : List (List L2.Key × Addr × Value)}, (atKey (xs.map liftK) ls).isSome = xs.any fun y => decide (y.1.map lfK = ls)
  | [] => rfl
  | x :: xs => by
    have ih := atKey_lift (ls := ls) (xs := xs)
    unfold atKey at ih ⊢
    rw [Option.isSome_map] at ih ⊢
    rw [List.map_cons, List.any_cons, List.find?_cons]
    by_cases e : x.1.map lfK = ls
    · have e' : decide ((liftK x).1 = ls) = true := decide_eq_true e
      rw [e', decide_eq_true e]; rfl
    · have e' : decide ((liftK x).1 = ls) = false := decide_eq_false e
      rw [e', decide_eq_false e, Bool.false_or]
      exact ih
section
variable {vs : List V} {ls : List Lf} {xs : List (List L2.Key × Addr × Value)} {Q : VK}
theorem dq_in (hu : X.A.units + 1 < cLine) (I : Inv X pins σ H s) (hd : (a == sysModules) = false) (dd : s.heap.DictOfH (kTMx X.prog X.w) a xs) (eb : SqT X.K H b vs) (l : LfA vs ls) (h : Q (.bl (xs.any fun y => decide (y.1.map lfK = ls))) H) :
    wpAny (model X.prog X.w) X.A (compareOp .In (.ref b) (.ref a)) (EP X pins σ Q) X.xe s := by
  refine wpAny_in_heap (tupleKind_room_in1 hu) (leafs_at I eb l) hd (lift_dict dd) ?_
  rw [atKey_lift]
  exact ⟨.bl (xs.any fun y => decide (y.1.map lfK = ls)), H, I.tok _, rfl, h⟩
theorem dq_notIn (hu : X.A.units + 1 < cLine) (I : Inv X pins σ H s) (hd : (a == sysModules) = false) (dd : s.heap.DictOfH (kTMx X.prog X.w) a xs) (eb : SqT X.K H b vs) (l : LfA vs ls) (h : Q (.bl (!(xs.any fun y => decide (y.1.map lfK = ls)))) H) :
    wpAny (model X.prog X.w) X.A (compareOp .NotIn (.ref b) (.ref a)) (EP X pins σ Q) X.xe s := by
  refine PyProof.Rows.wpAny_notIn_heap (tupleKind_room_in1 hu) (leafs_at I eb l) hd (lift_dict dd) ?_
  rw [atKey_lift]
  exact ⟨.bl (!(xs.any fun y => decide (y.1.map lfK = ls))), H, I.tok _, rfl, h⟩
end
theorem kt_any {ds : List D} {ls : List Lf} (e : ds.map lfD = ls.map some) : ∀ {kvs : List (List L2.Key × V)} {xs : List (List L2.Key × Addr × Value)}, KT H kvs xs → (xs.any fun y => decide (y.1.map lfK = ls)) = memD (.tup ds) (kvs.map fun p => kT p.1)
  | _, _, .nil => rfl
  | p :: _, y :: _, .cons h t => by
    have ih := kt_any e t
    unfold memD at ih ⊢
    rw [List.map_cons, List.any_cons, List.any_cons, ih]
    congr 1
    show _ = D.eqvs (p.1.map kD) ds
    rw [lfs_eqv p.1 e, h.1]
theorem dct_in {Q : VK} {vs : List V} {ds : List D} {ls : List Lf} (hu : X.A.units + 1 < cLine) (I : Inv X pins σ H s) (e : H a = some (.dT kvs)) (eb : SqT X.K H b vs) (l : LfA vs ls) (el : ds.map lfD = ls.map some) (h : Q (.bl (memD (.tup ds) (kvs.map fun p => kT p.1))) H) : wpAny (model X.prog X.w) X.A (compareOp .In (.ref b) (.ref a)) (EP X pins σ Q) X.xe s := by
  obtain ⟨z, hd, xs, rel, dd⟩ := dt_rd I.hok (.inl e)
  exact dq_in hu I hd dd eb l (by rw [kt_any el rel]; exact h)
theorem dct_notIn {Q : VK} {vs : List V} {ds : List D} {ls : List Lf} (hu : X.A.units + 1 < cLine) (I : Inv X pins σ H s) (e : H a = some (.dT kvs)) (eb : SqT X.K H b vs) (l : LfA vs ls) (el : ds.map lfD = ls.map some) (h : Q (.bl (!(memD (.tup ds) (kvs.map fun p => kT p.1)))) H) : wpAny (model X.prog X.w) X.A (compareOp .NotIn (.ref b) (.ref a)) (EP X pins σ Q) X.xe s := by
  obtain ⟨z, hd, xs, rel, dd⟩ := dt_rd I.hok (.inl e)
  exact dq_notIn hu I hd dd eb l (by rw [kt_any el rel]; exact h)
end
theorem Vw.notNon {v : V} {x : D} (h : Vw K H P v x) (n : x ≠ .non) : v ≠ .non := by
  intro e
  subst e
  rcases h with h | ⟨a, e, h⟩
  · cases h; exact n rfl
  · cases e
end

/-! ### what an operator hands on -/
/-- the heap behind it: as it was, or one new object -/
def Gr (H H' : Hp) : Prop := H' = H ∨ ∃ p o, H p = none ∧ H' = upd H p o
theorem Gr.same {H H' : Hp} (h : Gr H H') : ∀ (b : Addr) (o : HO), H b = some o → H' b = some o := by
  rcases h with h | ⟨p, o, h1, h2⟩
  · subst h; exact fun _ _ e => e
  · subst h2; exact same_upd h1
/-- the operands' readings -/
structure Rd2 (F : Fx) (g : G) (H : Hp) : Prop where
  ld : ∀ a, PP F g a → ∃ o, H a = some o ∧ isLD o
  ins : ∀ a ∈ g.m, ∃ o, H a = some o ∧ isIns o
theorem Rd2.kp {F : Fx} {g : G} {H H' : Hp} (R : Rd2 F g H) (k : ∀ (b : Addr) (o : HO), H b = some o → H' b = some o) : Kp (PP F g) g.m H (PP F g) H' := ⟨R.ld, R.ins, fun b o h _ _ _ => k b o h, fun _ _ _ n => n⟩
theorem Rd2.np {F : Fx} {g : G} {H : Hp} (R : Rd2 F g H) {p : Addr} (h : H p = none) : ¬ PP F g p := fun q => by
  obtain ⟨o, e, _⟩ := R.ld p q
  rw [h] at e; cases e
/-- .. and a new thing at p that none of them reaches -/
theorem Rd2.kpa {F : Fx} {g : G} {H : Hp} (R : Rd2 F g H) {p : Addr} {o : HO} (h : H p = none) : Kp (PP F g) g.m H (fun b => PP F g b ∨ b = p) (upd H p o) :=
  ⟨R.ld, R.ins, fun b u e _ _ _ => same_upd h b u e, fun b u e n q => q.elim n fun q => by rw [q, h] at e; cases e⟩
theorem RS.rd2 {F : Fx} {g : G} {s : State} {σ : L2.St} {H : Hp} (R : RS F g s σ H) : Rd2 F g H := ⟨R.ld, R.ins⟩
/-- what is wanted of the result r -/
def Wnt (F : Fx) (g : G) (H : Hp) (r : EV) (Q : VK) : Prop := ∀ v H', Gr H H' → EVR F g H H' v r → Q v H'
section
variable {F : Fx} {g : G} {H : Hp} {Q : VK}
theorem Wnt.sh {v : V} {x : D} (h : Wnt F g H (.sh x) Q) (r : Rp F.K H (PP F g) v x) : Q v H := h v H (.inl rfl) r
theorem Wnt.int {i : Int} (h : Wnt F g H (.sh (.int i)) Q) : Q (.int i) H := h.sh (.int i)
theorem Wnt.bl {b : Bool} (h : Wnt F g H (.sh (.bl b)) Q) : Q (.bl b) H := h.sh (.bl b)
theorem Wnt.str {s : List Nat} (h : Wnt F g H (.sh (.str s)) Q) : Q (.str (sS s)) H := h.sh (.str s)
theorem Wnt.tup (R : Rd2 F g H) {ds : List D} {xs : List V} (h : Wnt F g H (.sh (.tup ds)) Q) (r : RpA F.K H (PP F g) xs ds) (p : Addr) (hp : H p = none) : Q (.ref p) (upd H p (.tup xs)) :=
  h _ _ (.inr ⟨p, _, hp, rfl⟩) (.tup (.of upd_same) (r.mono (R.kp (same_upd hp))))
theorem Wnt.lst (R : Rd2 F g H) {ds : List D} {xs : List V} (h : Wnt F g H (.fr (.lst ds)) Q) (r : RpA F.K H (PP F g) xs ds) (p : Addr) (hp : H p = none) : Q (.ref p) (upd H p (.lst xs)) :=
  h _ _ (.inr ⟨p, _, hp, rfl⟩) ⟨p, rfl, hp, R.np hp, xs, upd_same, r.mono (R.kpa hp)⟩
end
structure Pv where
  P0 : Addr → Prop
  m0 : List Addr
  H0 : Hp
structure Bs where
  cl : Nat → Addr
  flds : List Str
  fns : List Str
  cons : List Str
  cls : List Str
  blts : List Str
  k : Nat
  tb : List (Addr × Str)
  cd : Option (Addr × Addr)
  pr : Program
  w : World
abbrev FX (K : PySem.W.Frag) (q : Bs) (p : Pv) : Fx := ⟨K, q.tb, q.cl, q.flds, p.P0, p.m0, p.H0, q.pr, q.w⟩

/-! ### operators -/
def opOf : Bop → Operator
  | .add => .Add | .sub => .Sub | .mul => .Mult | .fdiv => .FloorDiv | .mod => .Mod | .pow => .Pow | .ndiv => .FloorDiv | .nmod => .Mod | .shl => .LShift | .shr => .RShift | .band => .BitAnd
def rBin (K : PySem.W.Frag) (q : Bs) (o : Bop) : R2 := fun v u H Q => ∃ (p : Pv) (g : G) (x y : D) (r : EV), Rd2 (FX K q p) g H ∧ Vw K H (PP (FX K q p) g) v x ∧ Vw K H (PP (FX K q p) g) u y ∧ binop o x y = some r ∧ Wnt (FX K q p) g H r Q
theorem sS_app (a b : List Nat) : sS a ++ sS b = sS (a ++ b) := by
  show (⟨a.toArray ++ b.toArray⟩ : Str) = ⟨(a ++ b).toArray⟩
  simp
theorem sS_len (a : List Nat) : (sS a).length = a.length := by simp [Str.length]
theorem log_pow {n k : Nat} (h : n < 2 ^ k) (k0 : 0 < k) : n.log2 < k := by
  by_cases e : n = 0
  · subst e; simpa using k0
  · exact (Nat.log2_lt e).mpr h
theorem rep_rp {K : PySem.W.Frag} {H : Hp} {P : Addr → Prop} {vs : List V} {xs : List D} (h : RpA K H P vs xs) (n : Nat) : RpA K H P (List.replicate n vs).flatten (List.replicate n xs).flatten := by
  induction n with
  | zero => exact .nil
  | succ n ih =>
    rw [List.replicate_succ, List.replicate_succ, List.flatten_cons, List.flatten_cons]
    exact h.app ih
theorem op_fdivNW {X : Cx} : OpR X (binaryOp .FloorDiv) (rI (fun _ j => j ≠ 0 ∧ j.natAbs.log2 < 9000) fun i j => .int (i.fdiv j)) := opI fun _ _ _ _ _ _ _ hc q => PyProof.Rows.floordiv_int hc.1 q (.inl (PyProof.noPylong_of_log2 hc.2))
theorem op_bin {X : Cx} (q : Bs) (o : Bop) : OpR X (binaryOp (opOf o)) (rBin X.K q o) := by
  intro pins s σ H v u vv uu Q I rv ru ⟨p, g, x, y, r, R, hx, hy, e, w⟩
  unfold binop at e
  split at e <;> first | (cases e; done) | skip
  · cases e; cases hx.int; cases hy.int
    exact op_add pins s σ H _ _ _ _ _ I rv ru ⟨_, _, rfl, rfl, w.int⟩
  · obtain ⟨k, rfl⟩ := gd_some e; cases hx.str; cases hy.str
    refine op_add_str pins s σ H _ _ _ _ _ I rv ru ⟨_, _, rfl, rfl, ?_, ?_⟩
    · rw [sS_len, sS_len]; exact fits_iff.mp k
    · rw [sS_app]; exact w.str
  · obtain ⟨k, rfl⟩ := gd_some e
    obtain ⟨a, xs, rfl, h1, r1⟩ := hx.lst
    obtain ⟨b, ys, rfl, h2, r2⟩ := hy.lst
    refine op_cat pins s σ H _ _ _ _ _ I rv ru ⟨a, b, xs, ys, rfl, rfl, h1, h2, ?_, fun l hl => w.lst R (r1.app r2) l hl⟩
    rw [r1.length, r2.length]; exact fits_iff.mp k
  · obtain ⟨k, rfl⟩ := gd_some e
    obtain ⟨a, xs, rfl, h1, r1⟩ := hx.tup
    obtain ⟨b, ys, rfl, h2, r2⟩ := hy.tup
    refine op_catA pins s σ H _ _ _ _ _ I rv ru ⟨a, b, xs, ys, rfl, rfl, h1, h2, ?_, fun z => ?_, fun _ z => ?_, fun _ _ l hl => w.tup R (r1.app r2) l hl⟩
    · rw [r1.length, r2.length]; exact fits_iff.mp k
    · subst z; cases r1
      exact w.sh (.tup h2 r2)
    · subst z; cases r2
      rw [List.append_nil] at w
      exact w.sh (.tup h1 r1)
  · cases e; cases hx.int; cases hy.int
    exact op_sub pins s σ H _ _ _ _ _ I rv ru ⟨_, _, rfl, rfl, w.int⟩
  · obtain ⟨k, rfl⟩ := gd_some e; cases hx.int; cases hy.int
    exact op_mulW pins s σ H _ _ _ _ _ I rv ru ⟨_, _, rfl, rfl, (show _ < _ from of_decide_eq_true (show decide _ = true from k)), w.int⟩
  · obtain ⟨k, rfl⟩ := gd_some e
    obtain ⟨a, xs, rfl, h1, r1⟩ := hx.lst
    cases hy.int
    rw [Bool.and_eq_true, Bool.and_eq_true] at k
    obtain ⟨k1, k2, k3⟩ := k
    have k1 := of_decide_eq_true k1
    have k2 := of_decide_eq_true k2
    refine op_rep pins s σ H _ _ _ _ _ I rv ru ⟨a, _, xs, rfl, rfl, h1, by omega, by omega, ?_, fun l hl => w.lst R (rep_rp r1 _) l hl⟩
    rw [r1.length]; exact fits_iff.mp k3
  · obtain ⟨k, rfl⟩ := gd_some e; cases hx.int; cases hy.int
    have k : (decide _ && decide _) = true := k
    rw [Bool.and_eq_true] at k
    exact op_fdivW pins s σ H _ _ _ _ _ I rv ru ⟨_, _, rfl, rfl, ⟨of_decide_eq_true k.1, of_decide_eq_true k.2⟩, w.int⟩
  · obtain ⟨k, rfl⟩ := gd_some e; cases hx.int; cases hy.int
    exact op_mod pins s σ H _ _ _ _ _ I rv ru ⟨_, _, rfl, rfl, of_decide_eq_true k, w.int⟩
  · obtain ⟨k, rfl⟩ := gd_some e; cases hx.int; cases hy.int
    have k : ((decide _ && decide _) && decide _) = true := k
    rw [Bool.and_eq_true, Bool.and_eq_true] at k
    refine op_pow pins s σ H _ _ _ _ _ I rv ru ⟨_, _, rfl, rfl, ⟨of_decide_eq_true k.1.1, of_decide_eq_true k.1.2, of_decide_eq_true k.2⟩, w.int⟩
  · obtain ⟨k, rfl⟩ := gd_some e; cases hx.int; cases hy.int
    have k : (decide _ && decide _) = true := k
    rw [Bool.and_eq_true] at k
    exact op_fdivNW pins s σ H _ _ _ _ _ I rv ru ⟨_, _, rfl, rfl, ⟨of_decide_eq_true k.1, of_decide_eq_true k.2⟩, w.int⟩
  · obtain ⟨k, rfl⟩ := gd_some e; cases hx.int; cases hy.int
    exact op_modN pins s σ H _ _ _ _ _ I rv ru ⟨_, _, rfl, rfl, of_decide_eq_true k, w.int⟩
  · obtain ⟨k, rfl⟩ := gd_some e; cases hx.int; cases hy.int
    have k : ((decide _ && decide _) && decide _) = true := k
    rw [Bool.and_eq_true, Bool.and_eq_true] at k
    exact op_shl pins s σ H _ _ _ _ _ I rv ru ⟨_, _, rfl, rfl, ⟨of_decide_eq_true k.1.1, of_decide_eq_true k.1.2, of_decide_eq_true k.2⟩, w.int⟩
  · obtain ⟨k, rfl⟩ := gd_some e; cases hx.int; cases hy.int
    exact op_shr pins s σ H _ _ _ _ _ I rv ru ⟨_, _, rfl, rfl, of_decide_eq_true k, w.int⟩
  · obtain ⟨k, rfl⟩ := gd_some e; cases hx.int; cases hy.int
    rename_i i j
    have k : (decide (0 ≤ i) && decide (j = 1)) = true := k
    rw [Bool.and_eq_true] at k
    obtain ⟨k1, k2⟩ := k
    have k1 := of_decide_eq_true k1
    have k2 := of_decide_eq_true k2
    subst k2
    obtain ⟨n, rfl⟩ : ∃ n : Nat, i = n := ⟨i.toNat, by omega⟩
    refine L2.op_odd pins s σ H _ _ _ _ _ I rv ru ⟨n, rfl, rfl, ?_⟩
    rw [show ((n % 2 : Nat) : Int) = (n : Int) % 2 by omega]
    exact w.int

/-! ### comparisons -/
def copOf : Cop → CmpOp
  | .eq => .Eq | .ne => .NotEq | .lt => .Lt | .le => .LtE | .gt => .Gt | .ge => .GtE | .mem => .In | .nmem => .NotIn
theorem flat_v {K : PySem.W.Frag} {H : Hp} {P : Addr → Prop} {v : V} {x : D} (h : Rp K H P v x) (f : flatD x = true) : flatV v = true := by
  cases h <;> first | rfl | cases f
theorem eqv_flat {K : PySem.W.Frag} {H : Hp} {P : Addr → Prop} {v u : V} {x y : D} (h : Rp K H P v x) (h' : Rp K H P u y) (f : flatD x = true) (f' : flatD y = true) : eqV v u = D.eqv x y := by
  cases h <;> cases h' <;> first | cases f | cases f' | skip
  all_goals first | rfl | skip
  all_goals simp only [eqV, D.eqv]
  all_goals first | rfl | (rw [Bool.beq_eq_decide_eq]) | skip
  · rename_i a b
    by_cases e : a = b
    · subst e; simp
    · have : ¬ sS a = sS b := fun q => e (sS_inj q)
      simp [e]
theorem inV_flat {K : PySem.W.Frag} {H : Hp} {P : Addr → Prop} {v : V} {x : D} (h : Rp K H P v x) (f : flatD x = true) : ∀ {vs : List V} {xs : List D}, RpA K H P vs xs → xs.all flatD = true → vs.all flatV = true ∧ inV v vs = memD x xs
  | _, _, .nil, _ => ⟨rfl, rfl⟩
  | _, _, .cons r t, k => by
    rw [List.all_cons, Bool.and_eq_true] at k
    obtain ⟨a, b⟩ := inV_flat h f t k.2
    refine ⟨by rw [List.all_cons, flat_v r k.1, a]; rfl, ?_⟩
    show (eqV _ v || inV v _) = (D.eqv _ x || memD x _)
    rw [b, eqv_flat r h k.1 f]
def rCmp (K : PySem.W.Frag) (q : Bs) (o : Cop) : R2 := fun v u H Q => ∃ (p : Pv) (g : G) (x y : D) (b : Bool), Rd2 (FX K q p) g H ∧ Vw K H (PP (FX K q p) g) v x ∧ Vw K H (PP (FX K q p) g) u y ∧ cmpop o x y = some b ∧ Q (.bl b) H
theorem okd_list {ys : List D} (h : (D.lst ys).okd DEEP = true) : SeqAt.shaped (PyData.list (D.pys ys)) = true := by
  have := shaped_py h
  simpa [D.py] using this
theorem memD_py (x : D) : ∀ ys : List D, ((D.pys ys).any fun z => PyData.eqv z x.py) = memD x ys
  | [] => rfl
  | y :: ys => by
    simp only [D.pys, List.any_cons, memD, eqv_py]
    rw [memD_py x ys]; rfl
theorem okd_tuple {ys : List D} (h : (D.tup ys).okd DEEP = true) : SeqAt.shaped (PyData.tuple (D.pys ys)) = true := by
  have := shaped_py h
  simpa [D.py] using this
theorem op_inDT {X : Cx} (hu : X.A.units + 65 < cLine) : OpR X (compareOp .In) (fun x y H Q => ∃ d ds, Dp X.K H x d ∧ Dp X.K H y (.tuple ds) ∧ SeqAt.shaped d = true ∧ SeqAt.shaped (.tuple ds) = true ∧ Q (.bl (ds.any fun z => PyData.eqv z d)) H) := by
  intro pins s σ H x y v u Q I rx ry h
  obtain ⟨d, ds, hd, he, sd, se, q⟩ := h
  obtain ⟨as, r1⟩ := Dp.reads I d x v hd rx
  obtain ⟨bs, r2⟩ := Dp.reads I (.tuple ds) y u he ry
  exact SeqAt.in_tuple_reads r2 r1 (SeqAt.canLay_of_shaped se) (SeqAt.canLay_of_shaped sd) (PyProof.Rows.room_in_shaped sd hu) ⟨.bl _, H, I, rfl, q⟩
theorem op_notInDT {X : Cx} (hu : X.A.units + 65 < cLine) : OpR X (compareOp .NotIn) (fun x y H Q => ∃ d ds, Dp X.K H x d ∧ Dp X.K H y (.tuple ds) ∧ SeqAt.shaped d = true ∧ SeqAt.shaped (.tuple ds) = true ∧ Q (.bl (!ds.any fun z => PyData.eqv z d)) H) := by
  intro pins s σ H x y v u Q I rx ry h
  obtain ⟨d, ds, hd, he, sd, se, q⟩ := h
  obtain ⟨as, r1⟩ := Dp.reads I d x v hd rx
  obtain ⟨bs, r2⟩ := Dp.reads I (.tuple ds) y u he ry
  exact SeqAt.notIn_tuple_reads r2 r1 (SeqAt.canLay_of_shaped se) (SeqAt.canLay_of_shaped sd) (PyProof.Rows.room_in_shaped sd hu) ⟨.bl _, H, I, rfl, q⟩
theorem op_cmp {X : Cx} (q : Bs) (o : Cop) (hu : X.A.units + 65 < cLine) : OpR X (compareOp (copOf o)) (rCmp X.K q o) := by
  intro pins s σ H v u vv uu Q I rv ru ⟨p, g, x, y, b, R, hx, hy, e, w⟩
  unfold cmpop at e
  split at e <;> first | (cases e; done) | skip
  · obtain ⟨k, rfl⟩ := gd_some e
    rw [Bool.and_eq_true] at k
    exact op_eqD (by omega) pins s σ H _ _ _ _ _ I rv ru ⟨_, _, hx.dp k.1, hy.dp k.2, shaped_py k.1, shaped_py k.2, by rw [eqv_py]; exact w⟩
  · obtain ⟨k, rfl⟩ := gd_some e
    rw [Bool.and_eq_true] at k
    exact op_neD (by omega) pins s σ H _ _ _ _ _ I rv ru ⟨_, _, hx.dp k.1, hy.dp k.2, shaped_py k.1, shaped_py k.2, by rw [eqv_py]; exact w⟩
  · cases e; cases hx.int; cases hy.int
    exact op_lt pins s σ H _ _ _ _ _ I rv ru ⟨_, _, rfl, rfl, w⟩
  · cases e; cases hx.int; cases hy.int
    exact op_le pins s σ H _ _ _ _ _ I rv ru ⟨_, _, rfl, rfl, w⟩
  · cases e; cases hx.int; cases hy.int
    exact op_gt pins s σ H _ _ _ _ _ I rv ru ⟨_, _, rfl, rfl, w⟩
  · cases e; cases hx.int; cases hy.int
    exact op_ge pins s σ H _ _ _ _ _ I rv ru ⟨_, _, rfl, rfl, w⟩
  · obtain ⟨k, rfl⟩ := gd_some e
    rw [Bool.and_eq_true] at k
    exact op_inD hu pins s σ H _ _ _ _ _ I rv ru ⟨_, _, hx.dp k.1, hy.dp k.2, shaped_py k.1, okd_list k.2, by rw [memD_py]; exact w⟩
  · obtain ⟨k, rfl⟩ := gd_some e
    rw [Bool.or_eq_true, Bool.and_eq_true, Bool.and_eq_true] at k
    rcases k with k | k
    · obtain ⟨a, xs, rfl, h1, r1⟩ := hy.tup
      have hx' := hx.flat k.1
      obtain ⟨k1, k2⟩ := inV_flat hx' k.1 r1 k.2
      exact op_in_seq pins s σ H _ _ _ _ _ I rv ru ⟨a, xs, rfl, .inr h1, flat_v hx' k.1, k1, by rw [k2]; exact w⟩
    · exact op_inDT hu pins s σ H _ _ _ _ _ I rv ru ⟨_, _, hx.dp k.1, by simpa [D.py] using hy.dp k.2, shaped_py k.1, okd_tuple k.2, by rw [memD_py]; exact w⟩
  · obtain ⟨k, rfl⟩ := gd_some e
    obtain ⟨a, kvs, rfl, h1, rfl, _⟩ := hy.dct
    obtain ⟨b, vs, ds, ls, rfl, rfl, h2, l2, l3⟩ := hx.keyN k
    cases rv; cases ru
    exact dct_in (by omega) I h1 h2 l2 l3 w
  · rename_i x' y'
    split at e
    · cases e; cases hx.str; cases hy.str
      exact op_in_sign pins s σ H _ _ _ _ _ I rv ru ⟨_, _, rfl, rfl, by simpa using w⟩
    · cases e
  · obtain ⟨k, rfl⟩ := gd_some e
    rw [Bool.and_eq_true] at k
    exact op_notInD hu pins s σ H _ _ _ _ _ I rv ru ⟨_, _, hx.dp k.1, hy.dp k.2, shaped_py k.1, okd_list k.2, by rw [memD_py]; exact w⟩
  · obtain ⟨k, rfl⟩ := gd_some e
    rw [Bool.or_eq_true, Bool.and_eq_true, Bool.and_eq_true] at k
    rcases k with k | k
    · obtain ⟨a, xs, rfl, h1, r1⟩ := hy.tup
      have hx' := hx.flat k.1
      obtain ⟨k1, k2⟩ := inV_flat hx' k.1 r1 k.2
      exact op_notIn_seq pins s σ H _ _ _ _ _ I rv ru ⟨a, xs, rfl, .inr h1, flat_v hx' k.1, k1, by rw [k2]; exact w⟩
    · exact op_notInDT hu pins s σ H _ _ _ _ _ I rv ru ⟨_, _, hx.dp k.1, by simpa [D.py] using hy.dp k.2, shaped_py k.1, okd_tuple k.2, by rw [memD_py]; exact w⟩
  · obtain ⟨k, rfl⟩ := gd_some e
    obtain ⟨a, kvs, rfl, h1, rfl, _⟩ := hy.dct
    obtain ⟨b, vs, ds, ls, rfl, rfl, h2, l2, l3⟩ := hx.keyN k
    cases rv; cases ru
    exact dct_notIn (by omega) I h1 h2 l2 l3 w
  · rename_i x' y'
    split at e
    · cases e; cases hx.str; cases hy.str
      exact op_notIn_sign pins s σ H _ _ _ _ _ I rv ru ⟨_, _, rfl, rfl, by simpa using w⟩
    · cases e

/-! ### subscripts, slices -/
theorem ixN_eq (n : Nat) (i : Int) : L2.ixN n i = MI.ixN n i := rfl
theorem atI_r {K : PySem.W.Frag} {H : Hp} {P : Addr → Prop} {vs : List V} {xs : List D} {i : Int} {x : D} (r : RpA K H P vs xs) (h : MI.atI xs i = some x) : ∃ v, L2.atI vs i = some v ∧ Rp K H P v x := by
  unfold MI.atI at h
  unfold L2.atI
  rw [r.length, ixN_eq]
  cases e : MI.ixN xs.length i with
  | none => rw [e] at h; cases h
  | some j =>
    rw [e] at h
    exact r.get h
def rIxD (K : PySem.W.Frag) (q : Bs) : R2 := fun v u H Q => ∃ (p : Pv) (g : G) (x y z : D), Rd2 (FX K q p) g H ∧ Vw K H (PP (FX K q p) g) v x ∧ Vw K H (PP (FX K q p) g) u y ∧ ixop x y = some z ∧ Wnt (FX K q p) g H (.sh z) Q
theorem op_ix {X : Cx} (q : Bs) : IxR X (rIxD X.K q) := by
  intro va sl pins s σ H v u vv uu Q I rv ru ⟨p, g, x, y, z, R, hx, hy, e, w⟩ hs
  unfold ixop at e
  split at e <;> first | (cases e; done) | skip
  · obtain ⟨a, xs, rfl, h1, r1⟩ := hx.tup
    cases hy.int
    obtain ⟨v, h3, h4⟩ := atI_r r1 e
    exact ix_tup va sl pins s σ H _ _ _ _ _ I rv ru ⟨a, xs, _, v, rfl, rfl, h1, h3, w.sh h4⟩ hs
  · obtain ⟨a, xs, rfl, h1, r1⟩ := hx.lst
    cases hy.int
    obtain ⟨v, h3, h4⟩ := atI_r r1 e
    exact ix_list va sl pins s σ H _ _ _ _ _ I rv ru ⟨a, xs, _, v, rfl, rfl, .of h1, h3, w.sh h4⟩ hs
  · obtain ⟨a, xs, rfl, h1, r1⟩ := hx.scr
    cases hy.int
    obtain ⟨v, h3, h4⟩ := atI_r r1 e
    exact ix_list va sl pins s σ H _ _ _ _ _ I rv ru ⟨a, xs, _, v, rfl, rfl, h1, h3, w.sh h4⟩ hs
  · split at e
    · rename_i k
      cases hx.str; cases hy.int
      simp only [Option.map_eq_some_iff] at e
      obtain ⟨c, e1, e2⟩ := e
      subst e2
      refine ix_str va sl pins s σ H _ _ _ _ _ I rv ru ⟨_, _, c, rfl, rfl, by rw [sS_len]; exact fits_iff.mp k, ?_, w.str⟩ hs
      simpa [L2.atI, MI.atI, ixN_eq] using e1
    · cases e
theorem cut_eq {α : Type} (xs : List α) (lo hi : Option Int) : cutD xs lo hi = (xs.drop (HT.sIx xs.length 0 lo)).take (HT.sIx xs.length xs.length hi - HT.sIx xs.length 0 lo) := by
  cases lo <;> cases hi <;> rfl
theorem cut_r {K : PySem.W.Frag} {H : Hp} {P : Addr → Prop} {vs : List V} {xs : List D} (lo hi : Option Int) (r : RpA K H P vs xs) : RpA K H P (cutV vs lo hi) (cutD xs lo hi) := by
  rw [cut_eq]
  unfold cutV
  rw [r.length]
  exact (r.drop _).take _
theorem sl_str_eq (s : List Nat) (lo hi : Option Int) : cutS (sS s) lo hi = sS (cutD s lo hi) := by
  unfold cutS
  rw [sS_len, cut_eq]
def rSlD (K : PySem.W.Frag) (q : Bs) : V → Option Int → Option Int → Hp → VK → Prop := fun v lo hi H Q => ∃ (p : Pv) (g : G) (x : D) (r : EV), Rd2 (FX K q p) g H ∧ Vw K H (PP (FX K q p) g) v x ∧ slop x lo hi = some r ∧ Wnt (FX K q p) g H r Q
theorem op_sl {X : Cx} (q : Bs) : SlR X (rSlD X.K q) := by
  intro pins s σ H v vv vl vu lo hi sl Q I rv hs pl pu ⟨p, g, x, r, R, hx, e, w⟩
  unfold slop at e
  split at e <;> first | (cases e; done) | skip
  · cases e
    obtain ⟨a, xs, rfl, h1, r1⟩ := hx.tup
    refine sl_tupA pins s σ H _ _ _ _ _ _ _ _ I rv hs pl pu ⟨a, xs, rfl, h1, fun hw => w.sh (.tup h1 ?_), fun _ b hb => w.tup R (cut_r lo hi r1) b hb⟩
    have := cut_r lo hi r1
    unfold cutV at this
    rw [hw.1, hw.2] at this
    simpa using this
  · cases e
    obtain ⟨a, xs, rfl, h1, r1⟩ := hx.lst
    exact sl_list pins s σ H _ _ _ _ _ _ _ _ I rv hs pl pu ⟨a, xs, rfl, .of h1, fun b hb => w.lst R (cut_r lo hi r1) b hb⟩
  · cases e
    obtain ⟨a, xs, rfl, h1, r1⟩ := hx.scr
    exact sl_list pins s σ H _ _ _ _ _ _ _ _ I rv hs pl pu ⟨a, xs, rfl, h1, fun b hb => w.lst R (cut_r lo hi r1) b hb⟩
  · obtain ⟨k, rfl⟩ := gd_some e
    cases hx.str
    refine sl_str pins s σ H _ _ _ _ _ _ _ _ I rv hs pl pu ⟨_, rfl, by rw [sS_len]; exact fits_iff.mp k, ?_⟩
    rw [sl_str_eq]
    exact w.str
end MI

namespace MI
open PySem PySem.Spec PyProof.Rows L2

/-! ### < of data, and the library's -/
abbrev toks (x : D) : List (Int ⊕ List Nat) := PySem.W.keyToks x.py
abbrev tokss (xs : List D) : List (Int ⊕ List Nat) := PySem.W.keyToksAll (D.pys xs)
def ltT (x y : D) : Bool := PySem.W.dataLt x.py y.py
mutual
theorem alike_py : ∀ x y : D, D.alike x y = PySem.W.alike x.py y.py
  | .non, y => by cases y <;> simp [D.py, D.alike, PySem.W.alike]
  | .bl a, y => by cases y <;> simp [D.py, D.alike, PySem.W.alike]
  | .int i, y => by cases y <;> simp [D.py, D.alike, PySem.W.alike]
  | .str a, y => by cases y <;> simp [D.py, D.alike, PySem.W.alike]
  | .tup xs, y => by
    cases y <;> simp [D.py, D.alike, PySem.W.alike]
    exact alikes_py xs _
  | .lst xs, y => by
    cases y <;> simp [D.py, D.alike, PySem.W.alike]
    exact alikes_py xs _
  | .scr xs, y => by cases y <;> simp [D.py, D.alike, PySem.W.alike]
  | .dct _ _, y => by cases y <;> simp [D.py, D.alike, PySem.W.alike]
  | .dci _ _, y => by cases y <;> simp [D.py, D.alike, PySem.W.alike]
  | .exn _ _ _, y => by cases y <;> simp [D.py, D.alike, PySem.W.alike]
  | .fnc _, y => by cases y <;> simp [D.py, D.alike, PySem.W.alike]
theorem alikes_py : ∀ xs ys : List D, D.alikes xs ys = PySem.W.alikeAll (D.pys xs) (D.pys ys)
  | [], ys => by cases ys <;> simp [D.pys, D.alikes, PySem.W.alikeAll]
  | x :: xs, ys => by
    cases ys with
    | nil => simp [D.pys, D.alikes, PySem.W.alikeAll]
    | cons y ys => simp [D.pys, D.alikes, PySem.W.alikeAll, alike_py x y, alikes_py xs ys]
end
theorem lexN_lt : ∀ a b : List Nat, lexN a b = decide (a < b)
  | [], [] => by simp [lexN]
  | [], _ :: _ => by simp [lexN]
  | _ :: _, [] => by simp [lexN]
  | x :: xs, y :: ys => by
    unfold lexN
    rw [lexN_lt xs ys]
    rw [Bool.eq_iff_iff]
    simp [List.cons_lt_cons_iff]
mutual
theorem lt_py : ∀ x y : D, D.alike x y = true → D.lt x y = ltT x y
  | .non, y, h => by
    cases y <;> simp [D.alike] at h
    simp [D.lt, ltT, D.py, PySem.W.dataLt, PySem.W.keyToks]
    rfl
  | .bl a, y, h => by
    cases y <;> simp [D.alike] at h
    simp only [D.lt, ltT, D.py]
    rw [PySem.W.dataLt_bool]
    rename_i b
    cases a <;> cases b <;> decide
  | .int i, y, h => by
    cases y <;> simp [D.alike] at h
    simp only [D.lt, ltT, D.py]
    rw [PySem.W.dataLt_int]
  | .str a, y, h => by
    cases y <;> simp [D.alike] at h
    simp only [D.lt, ltT, D.py]
    rw [PySem.W.dataLt_str, lexN_lt]
  | .tup xs, y, h => by
    cases y <;> simp [D.alike] at h
    simp only [D.lt, ltT, D.py]
    rw [PySem.W.dataLt_tuple]
    exact lts_py _ _ h
  | .lst xs, y, h => by
    cases y <;> simp [D.alike] at h
    simp only [D.lt, ltT, D.py]
    rw [PySem.W.dataLt_list]
    exact lts_py _ _ h
  | .scr xs, y, h => by simp [D.alike] at h
  | .dct _ _, y, h => by simp [D.alike] at h
  | .dci _ _, y, h => by simp [D.alike] at h
  | .exn _ _ _, y, h => by simp [D.alike] at h
  | .fnc _, y, h => by simp [D.alike] at h
theorem lts_py : ∀ xs ys : List D, D.alikes xs ys = true → D.lts xs ys = PyProof.Rows.lexLt itemOrd (tokss xs) (tokss ys)
  | [], [], h => by
    simp only [D.lts]
    exact (lex_irrefl _).symm
  | [], y :: ys, h => by
    simp only [D.lts, D.pys, tokss]
    rw [PySem.W.toks_all_cons]
    simp only [PySem.W.keyToksAll]
    rw [lex_diff (O := itemOrd) (by simp)]
    rfl
  | x :: xs, [], h => by
    simp only [D.lts, D.pys, tokss]
    rw [PySem.W.toks_all_cons]
    simp only [PySem.W.keyToksAll]
    rw [lex_diff (O := itemOrd) (by simp)]
    rfl
  | x :: xs, y :: ys, h => by
    simp only [D.alikes, Bool.and_eq_true] at h
    have h1 : PySem.W.alike x.py y.py = true := by rw [← alike_py]; exact h.1
    simp only [D.lts, tokss, D.pys]
    rw [lt_py x y h.1, lts_py xs ys h.2, ← eqv_py x y]
    cases e : PyData.eqv x.py y.py with
    | true =>
      rw [PySem.W.dataLt_all_yes h1 e]
      have e2 : PySem.W.keyToks x.py = PySem.W.keyToks y.py := (PySem.W.toks_eqv _ _ h1).1 e
      have : ltT x y = false := by
        unfold ltT PySem.W.dataLt
        rw [e2]
        exact lex_irrefl _
      rw [this]
      simp
    | false =>
      rw [PySem.W.dataLt_all_no h1 e]
      simp [ltT]
end
/-! ### sorted: the items are compared as data -/
theorem collect_tup {prog : Program} {w : World} {A : Around} {E : Value → Shared → Prop} {s : Shared} {l : Addr} {vs : List Value} {Q : List Value → Shared → Prop} (hl : IsTup s.heap l vs.toArray)
    (h : Q vs { s with heap := (s.heap.push (seqObj "list" #[] 0)).update s.heap.objs.size (Obj.mapSeq (· ++ vs.toArray)) }) (hsz : vs.length ≤ sizeLine) :
    wpAny (model prog w) A (collect (.ref l)) Q E s := by
  obtain ⟨o, ho, hc, n, hd⟩ := id hl
  unfold collect
  refine wpAny_bind (wpAny_runValue (codeAny_builtin entry_proto_collect' ?_))
  show wpAny _ _ (do again (.builtin "list.__iadd__" ⟨[← newList [], .ref l], []⟩)) _ _ s
  refine wpAny_bind (wpAny_newList (wpAny_pure ⟨Code.quiet_builtin _ (by decide +kernel), codeAny_builtin entry_list_iadd' ?_⟩))
  show wpAny _ _ (Builtin.List.listExtendWith (.ref s.heap.objs.size) (.ref l) (.ref s.heap.objs.size)) _ _ { s with heap := s.heap.push (seqObj "list" #[] 0) }
  unfold Builtin.List.listExtendWith
  have ho' : (s.heap.push (seqObj "list" #[] 0)).get? l = some o := Heap.get?_push_of_some _ ho
  refine wpAny_bind (wpAny_typeOf (T := "tuple") ⟨o, ho', hc⟩ ?_)
  have ht : (Value.type "tuple" == Value.type "tuple") = true := by rfl
  rw [if_pos (by rw [ht]; simp)]
  refine wpAny_bind (listItems_at ho' hd ?_)
  refine wpAny_bind (listItems_at (xs := #[]) (n := 0) (Heap.get?_push_size _ rfl) rfl ?_)
  rw [if_neg (by simp)]
  refine wpAny_bind (listUpdate_at (xs := #[]) (n := 0) (Heap.get?_push_size _ rfl) rfl ?_ (Nat.zero_le _) (by show (#[] ++ vs.toArray).size ≤ sizeLine + 1; simp only [Array.size_append, List.size_toArray, List.length_nil]; omega))
  refine wpAny_pure ?_
  show wpAny (model prog w) A (do
      let o ← load s.heap.objs.size
      match o.data with
      | .seq xs _ => pure xs.toList
      | _ => unsupported "internal:collect") Q E { s with heap := (s.heap.push (seqObj "list" #[] 0)).update s.heap.objs.size (Obj.mapSeq (· ++ vs.toArray)) }
  refine wpAny_bind (wpAny_load (get?_update_seq (Heap.get?_push_size _ rfl) _) ?_)
  show wpAny _ _ (pure ((#[] : Array Value) ++ vs.toArray).toList) Q E _
  rw [show ((#[] : Array Value) ++ vs.toArray).toList = vs by simp]
  exact wpAny_pure h
section
variable {prog : Program} {w : World} {A : Around} {E : Value → Shared → Prop} {s : Shared}
/-- sorted(x), x a list or a tuple whose items are collected -/
theorem sorted_src {β : Type} {l : Addr} {vs : List Value} {bs : List β} {enc : β → PyData} {R : Value → β → Prop} {Q : Value → Shared → Prop}
    (hl : ∀ (A : Around) (E : Value → Shared → Prop) (Q : List Value → Shared → Prop), Q vs { s with heap := (s.heap.push (seqObj "list" #[] 0)).update s.heap.objs.size (Obj.mapSeq (· ++ vs.toArray)) } → wpAny (model prog w) A (collect (.ref l)) Q E s)
    (e : PySem.W.EachIs R vs bs) (er : PySem.W.EachIs (fun v b => ∃ as, Reads s.heap v (enc b) as) vs bs) (hal : PySem.W.AllAlike (bs.map enc)) (hk : PySem.W.Sortable (bs.map enc)) (hL : bs.length ≤ sizeLine)
    (hu : ∀ b, b ∈ bs → A.units + 2 + (enc b).depth < cLine) (h : ∀ out, out.length = bs.length → PySem.W.EachIs R out (bs.mergeSort (PySem.W.dataLe false enc)) → Q (.ref (s.heap.objs.size + 1)) { s with heap := sortedAll s.heap vs (List.toArray out) }) :
    wpAny (model prog w) A (call (.builtin "sorted") [.ref l]) Q E s := by
  have hL2 : vs.length ≤ sizeLine := by rw [e.length]; exact hL
  have er' : PySem.W.EachIs (fun v b => ∃ as, Reads (PySem.W.sortingHeap (PySem.W.copyHeap s.heap vs) (s.heap.objs.size + 1) vs) v (enc b) as) vs bs := er.mono fun _ _ ⟨as, r⟩ => ⟨as, PyProof.Rows.Reads.keeps (fun _ _ => PySem.W.sorting_copy_old) r⟩
  have S := PySem.W.SortsAt.data (prog := prog) (w := w) (A := A.in1.in1) (s := { s with heap := PySem.W.sortingHeap (PySem.W.copyHeap s.heap vs) (s.heap.objs.size + 1) vs }) (PySem.W.each_map (R := fun v d => ∃ as, Reads (PySem.W.sortingHeap (PySem.W.copyHeap s.heap vs) (s.heap.objs.size + 1) vs) v d as) enc er') hal hk (PySem.W.bound_map hu)
  have hq := h _ (by rw [PySem.W.sortVals_length false rfl]; exact e.length) (PySem.W.sortVals_data false e er' hal)
  refine Calls.call_function_entry kind_sorted plain_sorted entry_sorted (args_sorted1 _) ?_
  unfold Builtin.«sorted»
  refine wpAny_bind (m := checkCount "sorted" 1 1 _) (wpAny_pure ?_)
  refine wpAny_bind (hl _ _ _ ?_)
  refine wpAny_bind (wpAny_newList ?_ hL2)
  have hsz : ((s.heap.push (seqObj "list" #[] 0)).update s.heap.objs.size (Obj.mapSeq (· ++ vs.toArray))).objs.size = s.heap.objs.size + 1 := by
    rw [Heap.size_update, size_push']
  show wpAny _ _ _ _ _ { s with heap := PySem.W.copyHeap s.heap vs }
  rw [hsz]
  refine wpAny_bind (wpAny_holding (wpAny_call_entry slot_list_sort ⟨_, PySem.W.copyHeap_at s.heap vs, rfl⟩ entry_list_sort ?body (args_list_sort _)))
  case body =>
    show wpAny (model prog w) A.in1.in1 (Builtin.«list.sort» ⟨[.ref (s.heap.objs.size + 1)], []⟩) _ _ _
    refine wpAny_mono (PySem.W.list_sort_vals (P := fun f s' => f = .done (.ret .none) ∧ Q (.ref (s.heap.objs.size + 1)) s') (E := fun _ _ => False) (s := { s with heap := PySem.W.copyHeap s.heap vs }) (PySem.W.copyHeap_at s.heap vs) S hL2 ⟨rfl, hq⟩) (fun f s' hf => ?_) fun _ _ e => e.elim
    obtain ⟨rfl, hq⟩ := hf
    exact ⟨_, rfl, wpAny_pure ⟨_, rfl, hq⟩⟩
end
theorem srtOk_of {xs : List D} (h : srtOk xs = true) : (∀ d ∈ xs, d.okd DEEP = true) ∧ (∀ x ∈ xs, ∀ y ∈ xs, D.alike x y = true) ∧ ((∀ d ∈ xs, tupNE d = true) ∨ ∀ d ∈ xs, notTup d = true) := by
  unfold srtOk at h
  rw [Bool.and_eq_true, Bool.and_eq_true, Bool.or_eq_true] at h
  refine ⟨List.all_eq_true.mp h.1.1, fun x hx y hy => ?_, h.2.imp (fun z => List.all_eq_true.mp z) fun z => List.all_eq_true.mp z⟩
  exact List.all_eq_true.mp (List.all_eq_true.mp h.1.2 x hx) y hy
section
variable {X : Cx} {pins : List (Addr × Obj)} {σ : L2.St} {H : Hp} {s : Shared} {P : Addr → Prop}
theorem each_zip : ∀ {vs : List V} {ds : List D} {us : List Value}, RpA X.K H P vs ds → Vals vs us → PySem.W.EachIs (fun u (p : V × D) => RelV p.1 u ∧ Rp X.K H P p.1 p.2) us (vs.zip ds)
  | _, _, _, .nil, .nil => .nil
  | _, _, _, .cons h hs, .cons r rs => .cons ⟨r, h⟩ (each_zip hs rs)
theorem each_un : ∀ {us : List Value} {ps : List (V × D)}, PySem.W.EachIs (fun u (p : V × D) => RelV p.1 u ∧ Rp X.K H P p.1 p.2) us ps → Vals (ps.map (·.1)) us ∧ RpA X.K H P (ps.map (·.1)) (ps.map (·.2))
  | _, _, .nil => ⟨.nil, .nil⟩
  | _, _, .cons ⟨r, h⟩ t => let ⟨a, b⟩ := each_un t; ⟨.cons r a, .cons h b⟩
theorem zip_snd : ∀ {vs : List V} {ds : List D}, RpA X.K H P vs ds → (vs.zip ds).map (·.2) = ds
  | _, _, .nil => rfl
  | _, _, .cons _ t => congrArg (_ :: ·) (zip_snd t)
theorem sorted_dat (I : Inv X pins σ H s) {a : Addr} {vs : List V} {ds : List D} {Q : VK} (src : SqL X.K H a vs ∨ SqT X.K H a vs) (r : RpA X.K H P vs ds) (ok : ∀ d ∈ ds, d.okd DEEP = true) (al : ∀ x ∈ ds, ∀ y ∈ ds, D.alike x y = true) (hs : (∀ d ∈ ds, tupNE d = true) ∨ ∀ d ∈ ds, notTup d = true)
    (hu : X.A.units + 65 < cLine) (hq : ∀ ws p, RpA X.K H P ws (sortD ds) → H p = none → Q (.ref p) (upd H p (.lst ws))) : wpAny (model X.prog X.w) X.A (call (.builtin "sorted") [.ref a]) (EP X pins σ Q) X.xe s := by
  obtain ⟨its, rv, hz, hl⟩ : ∃ its : List Value, Vals vs its ∧ vs.length ≤ sizeLine ∧ ∀ (A : Around) (E : Value → Shared → Prop) (Q : List Value → Shared → Prop), Q its { s with heap := (s.heap.push (seqObj "list" #[] 0)).update s.heap.objs.size (Obj.mapSeq (· ++ its.toArray)) } → wpAny (model X.prog X.w) A (collect (.ref a)) Q E s := by
    rcases src with src | src
    · obtain ⟨its, rv, hl, hz⟩ := I.list src
      exact ⟨its, rv, hz, fun A E Q q => collect_list hl.isList q (by rw [← rv.length]; exact hz)⟩
    · obtain ⟨its, rv, hl, hz⟩ := I.tuple src
      exact ⟨its, rv, hz, fun A E Q q => collect_tup hl q (by rw [← rv.length]; exact hz)⟩
  have hmem : ∀ p ∈ vs.zip ds, p.2 ∈ ds := fun p hp => by
    have := List.mem_map_of_mem (f := (·.2)) hp
    rw [zip_snd r] at this
    exact this
  refine sorted_src (bs := vs.zip ds) (enc := fun p => p.2.py) hl (each_zip r rv) ?_ ?_ ?_ ?_ (fun p hp => ?_) fun out h1 h2 => ?_
  · have go : ∀ {vs : List V} {ds : List D} {us : List Value}, RpA X.K H P vs ds → Vals vs us → (∀ d ∈ ds, d.okd DEEP = true) → PySem.W.EachIs (fun u (p : V × D) => ∃ as, Reads s.heap u p.2.py as) us (vs.zip ds) := fun {vs ds us} h => by
      induction h using RpA.rec (motive_1 := fun _ _ _ => True) generalizing us with
      | nil => intro q _; cases q; exact .nil
      | cons h hs _ ih =>
        intro q k
        cases q with
        | cons q qs => exact .cons (Dp.reads I _ _ _ (h.dp (k _ List.mem_cons_self)) q) (ih qs fun d hd => k d (List.mem_cons_of_mem _ hd))
      | _ => trivial
    exact go r rv ok
  · intro d hd d' hd'
    obtain ⟨p, hp, rfl⟩ := List.mem_map.mp hd
    obtain ⟨p', hp', rfl⟩ := List.mem_map.mp hd'
    rw [← alike_py]
    exact al _ (hmem p hp) _ (hmem p' hp')
  · refine hs.imp (fun h d hd => ?_) fun h d hd => ?_
    · obtain ⟨p, hp, rfl⟩ := List.mem_map.mp hd
      have := h _ (hmem p hp)
      obtain ⟨v, d⟩ := p
      cases d <;> first | (simp [tupNE] at this; done) | skip
      rename_i ys
      cases ys with
      | nil => simp [tupNE] at this
      | cons y ys => exact ⟨y.py, D.pys ys, by simp [D.py, D.pys]⟩
    · obtain ⟨p, hp, rfl⟩ := List.mem_map.mp hd
      have := h _ (hmem p hp)
      obtain ⟨v, d⟩ := p
      cases d <;> first | (simp [notTup] at this; done) | simp [D.py]
  · rw [List.length_zip]; omega
  · obtain ⟨_, b⟩ := okd_py p.2 DEEP (ok _ (hmem p hp))
    have : DEEP = 60 := rfl
    omega
  · obtain ⟨k1, k2⟩ := each_un h2
    obtain ⟨ep, he'⟩ := sortedAll_at s.heap its out.toArray
    have e : ((vs.zip ds).mergeSort (PySem.W.dataLe false fun p => p.2.py)).map (·.2) = sortD ds := by
      rw [List.map_mergeSort (s := fun x y => !D.lt y x), zip_snd r]
      · rfl
      · intro p hp p' hp'
        rw [PySem.W.dataLe_eq]
        show (!PySem.W.dataLt p'.2.py p.2.py) = (!D.lt p'.2 p.2)
        rw [lt_py _ _ (al _ (hmem p' hp') _ (hmem p hp))]
        rfl
    rw [e] at k2
    have hlen : (((vs.zip ds).mergeSort (PySem.W.dataLe false fun p => p.2.py)).map (·.1)).length ≤ sizeLine := by
      rw [List.length_map, List.length_mergeSort, List.length_zip]
      omega
    exact ⟨.ref _, _, I.laid (t' := s.toks) (fun _ _ => sortedAll_old) (Nat.le_succ _) (show ObjOk X.prog X.w _ _ _ (.lst (((vs.zip ds).mergeSort (PySem.W.dataLe false fun p => p.2.py)).map (·.1))) from ⟨hlen, out, ep, k1, he'⟩), rfl, hq _ _ k2 (I.hok.fresh (Nat.le_succ _))⟩
end
end MI

namespace MI
open PySem L2

/-! ### ints sorted -/
theorem insI_perm (x : Int) : ∀ ys : List Int, (insI x ys).Perm (x :: ys)
  | [] => .refl _
  | y :: ys => by
    unfold insI
    split
    · exact .refl _
    · exact ((insI_perm x ys).cons y).trans (.swap x y ys)
theorem insI_sorted (x : Int) : ∀ {ys : List Int}, ys.Pairwise (· ≤ ·) → (insI x ys).Pairwise (· ≤ ·)
  | [], _ => List.pairwise_singleton _ _
  | y :: ys, h => by
    unfold insI
    rw [List.pairwise_cons] at h
    split
    · next e =>
      refine List.pairwise_cons.mpr ⟨fun z hz => ?_, List.pairwise_cons.mpr h⟩
      rcases List.mem_cons.mp hz with q | q
      · omega
      · have := h.1 z q; omega
    · next e =>
      refine List.pairwise_cons.mpr ⟨fun z hz => ?_, insI_sorted x h.2⟩
      rcases List.mem_cons.mp ((insI_perm x ys).mem_iff.mp hz) with q | q
      · omega
      · exact h.1 z q
theorem sortI_perm : ∀ xs : List Int, (sortI xs).Perm xs
  | [] => .refl _
  | x :: xs => (insI_perm x _).trans ((sortI_perm xs).cons x)
theorem sortI_sorted : ∀ xs : List Int, (sortI xs).Pairwise (· ≤ ·)
  | [] => .nil
  | x :: xs => insI_sorted x (sortI_sorted xs)
theorem sorted_unique : ∀ {xs ys : List Int}, xs.Pairwise (· ≤ ·) → ys.Pairwise (· ≤ ·) → xs.Perm ys → xs = ys
  | [], ys, _, _, p => by simpa using p.symm.eq_nil
  | x :: xs, [], _, _, p => by simpa using p.eq_nil
  | x :: xs, y :: ys, h1, h2, p => by
    rw [List.pairwise_cons] at h1 h2
    have e : x = y := by
      have a : x ∈ y :: ys := p.mem_iff.mp List.mem_cons_self
      have b : y ∈ x :: xs := p.mem_iff.mpr List.mem_cons_self
      rcases List.mem_cons.mp a with a | a
      · exact a
      · rcases List.mem_cons.mp b with b | b
        · exact b.symm
        · have := h1.1 y b; have := h2.1 x a; omega
    subst e
    rw [sorted_unique h1.2 h2.2 (List.Perm.cons_inv p)]
theorem intsD_map : ∀ {xs : List D} {ns : List Int}, intsD xs = some ns → xs = ns.map D.int
  | [], _, h => by cases h; rfl
  | .int i :: xs, ns, h => by
    simp only [intsD, Option.map_eq_some_iff] at h
    obtain ⟨ms, h1, h2⟩ := h
    subst h2
    rw [intsD_map h1]; rfl
  | .non :: _, _, h => by cases h
  | .bl _ :: _, _, h => by cases h
  | .str _ :: _, _, h => by cases h
  | .tup _ :: _, _, h => by cases h
  | .lst _ :: _, _, h => by cases h
  | .scr _ :: _, _, h => by cases h
  | .dct _ _ :: _, _, h => by cases h
  | .dci _ _ :: _, _, h => by cases h
  | .exn _ _ _ :: _, _, h => by cases h
  | .fnc _ :: _, _, h => by cases h
theorem bools_map : ∀ {xs : List D} {bs : List Bool}, bools xs = some bs → xs = bs.map D.bl
  | [], _, h => by cases h; rfl
  | .bl i :: xs, ns, h => by
    simp only [bools, Option.map_eq_some_iff] at h
    obtain ⟨ms, h1, h2⟩ := h
    subst h2
    rw [bools_map h1]; rfl
  | .non :: _, _, h => by cases h
  | .int _ :: _, _, h => by cases h
  | .str _ :: _, _, h => by cases h
  | .tup _ :: _, _, h => by cases h
  | .lst _ :: _, _, h => by cases h
  | .scr _ :: _, _, h => by cases h
  | .dct _ _ :: _, _, h => by cases h
  | .dci _ _ :: _, _, h => by cases h
  | .exn _ _ _ :: _, _, h => by cases h
  | .fnc _ :: _, _, h => by cases h
theorem RpA.intsV {K : PySem.W.Frag} {H : Hp} {P : Addr → Prop} : ∀ {vs : List V} {ns : List Int}, RpA K H P vs (ns.map D.int) → vs = ns.map V.int
  | [], [], _ => rfl
  | _ :: _, [], h => by cases h
  | [], _ :: _, h => by cases h
  | v :: vs, n :: ns, h => by
    cases h with
    | cons h1 h2 => cases h1; rw [List.map_cons, ← RpA.intsV h2]
theorem RpA.blsV {K : PySem.W.Frag} {H : Hp} {P : Addr → Prop} : ∀ {vs : List V} {ns : List Bool}, RpA K H P vs (ns.map D.bl) → vs = ns.map V.bl
  | [], [], _ => rfl
  | _ :: _, [], h => by cases h
  | [], _ :: _, h => by cases h
  | v :: vs, n :: ns, h => by
    cases h with
    | cons h1 h2 => cases h1; rw [List.map_cons, ← RpA.blsV h2]

/-! ### built-ins -/
def bval : Blt → Value
  | .len => .builtin "len" | .abs => .builtin "abs" | .int => .type "int" | .list => .type "list" | .tuple => .type "tuple" | .all => .builtin "all" | .any => .builtin "any"
  | .sorted => .builtin "sorted" | .min => .builtin "min" | .max => .builtin "max" | .str => .type "str"
def rBlt (K : PySem.W.Frag) (q : Bs) (b : Blt) : List V → Hp → VK → Prop := fun vs H Q => ∃ (p : Pv) (g : G) (xs : List D) (r : EV), Rd2 (FX K q p) g H ∧ VwA (FX K q p) g H vs xs ∧ blt b xs = some r ∧ Wnt (FX K q p) g H r Q
theorem VwA.one {F : Fx} {g : G} {H : Hp} {vs : List V} {x : D} (h : VwA F g H vs [x]) : ∃ v, vs = [v] ∧ Vw F.K H (PP F g) v x := by
  cases h with | cons h1 h2 => cases h2; exact ⟨_, rfl, h1⟩
theorem VwA.two {F : Fx} {g : G} {H : Hp} {vs : List V} {x y : D} (h : VwA F g H vs [x, y]) : ∃ v u, vs = [v, u] ∧ Vw F.K H (PP F g) v x ∧ Vw F.K H (PP F g) u y := by
  cases h with | cons h1 h2 => cases h2 with | cons h3 h4 => cases h4; exact ⟨_, _, rfl, h1, h3⟩
theorem lenI {α β : Type} {xs : List α} {ys : List β} (h : xs.length = ys.length) : V.int (xs.length : Nat) = V.int (ys.length : Nat) := by rw [h]
theorem op_blt {X : Cx} (q : Bs) (b : Blt) (hc : X.calm = true) (hu : X.A.units + 65 < cLine) : CallR X (bval b) (rBlt X.K q b) := by
  intro pins s σ H vs us Q I rv ⟨p, g, xs, r, R, hx, e, w⟩
  unfold blt at e
  split at e <;> first | (cases e; done) | skip
  · cases e; obtain ⟨v, rfl, h⟩ := hx.one
    obtain ⟨a, ys, rfl, h1, r1⟩ := h.tup
    exact call_len_seq pins s σ H _ _ _ I rv ⟨a, ys, rfl, .inr h1, by rw [r1.length]; exact w.int⟩
  · cases e; obtain ⟨v, rfl, h⟩ := hx.one
    obtain ⟨a, ys, rfl, h1, r1⟩ := h.lst
    exact call_len_seq pins s σ H _ _ _ I rv ⟨a, ys, rfl, .inl (.of h1), by rw [r1.length]; exact w.int⟩
  · cases e; obtain ⟨v, rfl, h⟩ := hx.one
    obtain ⟨a, ys, rfl, h1, r1⟩ := h.scr
    exact call_len_seq pins s σ H _ _ _ I rv ⟨a, ys, rfl, .inl h1, by rw [r1.length]; exact w.int⟩
  · obtain ⟨k, rfl⟩ := gd_some e; obtain ⟨v, rfl, h⟩ := hx.one
    cases h.str
    exact call_len_str pins s σ H _ _ _ I rv ⟨_, rfl, by rw [sS_len]; exact fits_iff.mp k, by rw [sS_len]; exact w.int⟩
  · cases e; obtain ⟨v, rfl, h⟩ := hx.one
    cases h.int
    exact call_abs pins s σ H _ _ _ I rv ⟨_, rfl, w.int⟩
  · cases e; obtain ⟨v, rfl, h⟩ := hx.one
    cases h.int
    exact call_int1 pins s σ H _ _ _ I rv (.inl ⟨_, rfl, w.int⟩)
  · cases e; obtain ⟨v, rfl, h⟩ := hx.one
    cases h.bl
    exact call_int1 pins s σ H _ _ _ I rv (.inr ⟨_, rfl, w.int⟩)
  · cases e; obtain ⟨v, rfl, h⟩ := hx.one
    obtain ⟨a, ys, rfl, h1, r1⟩ := h.tup
    exact call_list_of pins s σ H _ _ _ I rv ⟨a, ys, rfl, .inr h1, fun l hl => w.lst R r1 l hl⟩
  · cases e; obtain ⟨v, rfl, h⟩ := hx.one
    obtain ⟨a, ys, rfl, h1, r1⟩ := h.lst
    exact call_list_of pins s σ H _ _ _ I rv ⟨a, ys, rfl, .inl (.of h1), fun l hl => w.lst R r1 l hl⟩
  · cases e; obtain ⟨v, rfl, h⟩ := hx.one
    obtain ⟨a, ys, rfl, h1, r1⟩ := h.scr
    exact call_list_of pins s σ H _ _ _ I rv ⟨a, ys, rfl, .inl h1, fun l hl => w.lst R r1 l hl⟩
  · cases e; obtain ⟨v, rfl, h⟩ := hx.one
    obtain ⟨a, ys, rfl, h1, r1⟩ := h.tup
    exact call_tuple_of pins s σ H _ _ _ I rv ⟨a, ys, rfl, .inr ⟨h1, w.sh (.tup h1 r1)⟩⟩
  · cases e; obtain ⟨v, rfl, h⟩ := hx.one
    obtain ⟨a, ys, rfl, h1, r1⟩ := h.lst
    exact call_tuple_of pins s σ H _ _ _ I rv ⟨a, ys, rfl, .inl ⟨.of h1, fun l hl => w.tup R r1 l hl⟩⟩
  · simp only [Option.map_eq_some_iff] at e
    obtain ⟨bs, e1, rfl⟩ := e
    obtain ⟨v, rfl, h⟩ := hx.one
    obtain ⟨a, ys, rfl, h1, r1⟩ := h.lst
    cases bools_map e1
    have r2 := r1.blsV
    subst r2
    exact cr_all hc pins s σ H _ _ _ I rv ⟨a, bs, rfl, .of h1, w.bl⟩
  · simp only [Option.map_eq_some_iff] at e
    obtain ⟨bs, e1, rfl⟩ := e
    obtain ⟨v, rfl, h⟩ := hx.one
    obtain ⟨a, ys, rfl, h1, r1⟩ := h.lst
    cases bools_map e1
    have r2 := r1.blsV
    subst r2
    exact cr_any hc pins s σ H _ _ _ I rv ⟨a, bs, rfl, .of h1, w.bl⟩
  · obtain ⟨v, rfl, h⟩ := hx.one
    obtain ⟨a, ys, rfl, h1, r1⟩ := h.lst
    rename_i ds
    cases e1 : intsD ds with
    | some ns =>
      rw [e1] at e
      cases e
      cases intsD_map e1
      have r2 := r1.intsV
      subst r2
      refine cr_sortedI pins s σ H _ _ _ I rv ⟨a, ns, rfl, .of h1, fun ns' l p1 p2 hl => ?_⟩
      have := sorted_unique p2 (sortI_sorted ns) (p1.trans (sortI_perm ns).symm)
      subst this
      exact w.lst R RpA.ints l hl
    | none =>
      rw [e1] at e
      obtain ⟨k, rfl⟩ := gd_some e
      obtain ⟨k1, k2, k3⟩ := srtOk_of k
      obtain ⟨u, rfl, ru⟩ := rv.one
      cases ru
      exact sorted_dat I (.inl (.of h1)) r1 k1 k2 k3 hu fun ws p rr hp => w.lst R rr p hp
  · obtain ⟨v, rfl, h⟩ := hx.one
    obtain ⟨a, ys, rfl, h1, r1⟩ := h.tup
    obtain ⟨k, rfl⟩ := gd_some e
    obtain ⟨k1, k2, k3⟩ := srtOk_of k
    obtain ⟨u, rfl, ru⟩ := rv.one
    cases ru
    exact sorted_dat I (.inr h1) r1 k1 k2 k3 hu fun ws p rr hp => w.lst R rr p hp
  · cases e; obtain ⟨v, u, rfl, h, h'⟩ := hx.two
    cases h.int; cases h'.int
    exact call_min2 hc pins s σ H _ _ _ I rv ⟨_, _, rfl, w.int⟩
  · cases e; obtain ⟨v, u, rfl, h, h'⟩ := hx.two
    cases h.int; cases h'.int
    exact call_max2 hc pins s σ H _ _ _ I rv ⟨_, _, rfl, w.int⟩
/-! ### isinstance -/
def tyS : Ty → String
  | .int => "int" | .bool => "bool" | .str => "str" | .tuple => "tuple" | .list => "list"
def tyD : D → String
  | .non => "NoneType" | .bl _ => "bool" | .int _ => "int" | .str _ => "str" | .tup _ => "tuple" | .lst _ => "list" | .scr _ => "list" | .dct _ _ => "dict" | .dci _ _ => "dict" | .exn _ _ _ => "dict" | .fnc _ => "dict"
theorem Vw.ty {K : PySem.W.Frag} {H : Hp} {P : Addr → Prop} {v : V} {x : D} (h : Vw K H P v x) (nx : x.obj = false) : TyX K H v (.type (tyD x)) := by
  have sq : ∀ {a : Addr} {xs : List V}, SqL K H a xs → TyX K H (.ref a) (.type "list") := fun {a xs} q => by
    rcases q with (q | ⟨o, q⟩) | ⟨o, _, _, q, c, _⟩
    · exact .base (.lst q)
    · exact .base (.frz q)
    · exact .kList q c
  have st : ∀ {a : Addr} {xs : List V}, SqT K H a xs → TyX K H (.ref a) (.type "tuple") := fun {a xs} q => by
    rcases q with (q | ⟨o, q⟩) | ⟨o, _, _, q, c, _⟩
    · exact .base (.tup q)
    · exact .fTuple q
    · exact .kTuple q c
  rcases h with h | ⟨a, e, h⟩
  · cases h with
    | non => exact .base .non
    | bl b => exact .base (.bl b)
    | int i => exact .base (.int i)
    | str s => exact .base (.str _)
    | tup h _ => exact st h
    | lst h _ _ => exact .base (.lst h)
    | scr h _ => exact sq h.sq
    | dct h _ _ _ => exact .base (.dT h)
    | dci h _ _ _ => exact .base (.dK h)
    | exn0 _ => cases nx
    | exnd _ _ _ _ _ => cases nx
    | fnc _ => cases nx
  · subst e
    cases x with
    | lst ds => obtain ⟨xs, h1, _⟩ := h; exact .base (.lst h1)
    | dct ks ds => obtain ⟨xs, h1, _⟩ := h; exact .base (.dT h1)
    | dci ks ds => obtain ⟨xs, h1, _⟩ := h; exact .base (.dK h1)
    | _ => exact h.elim
theorem isi_kit (t : Ty) (x : D) {K : PySem.W.Frag} : PySem.W.kitOne K (.type (tyD x)) (.type (tyS t)) = some (isiD t x) := by
  refine kit_ty ?_
  cases t <;> cases x
  all_goals (simp only [tyD, tyS, isiD]; decide +kernel)
end MI

namespace MI
open PySem L2

/-! ### the check: this piece of syntax is that text -/
def visK : Option NameKind → Bool
  | some .local => true | some .cell => true | some .free => true | _ => false
def locK : Option NameKind → Bool
  | some .local => true | some .cell => true | _ => false
def glK : Option NameKind → Bool
  | some .globalImplicit => true | _ => false
def vis (N : List Str) (sc : Scope) (i : Nat) (x : Str) : Bool := decide (N[i]? = some x) && visK (sc.names.lookup x) && !(x == ("__debug__" : Str)) && !(x == ("__classdict__" : Str))
/-- a name that is stored: in a def's body a local or a cell, in a comprehension's block a local -/
def loc (d : Bool) (N : List Str) (sc : Scope) (i : Nat) (x : Str) : Bool := decide (N[i]? = some x) && (if d = true then locK (sc.names.lookup x) else decide (sc.names.lookup x = some .local))
def glo (sc : Scope) (x : Str) : Bool := glK (sc.names.lookup x) && !(x == ("__debug__" : Str))
def notStar : Expr → Bool
  | .Starred _ _ => false | _ => true
def notSet : Expr → Bool
  | .Set _ _ _ => false | _ => true
def notComp : Expr → Bool
  | .ListComp _ _ _ _ => false | .SetComp _ _ _ _ => false | .DictComp _ _ _ _ _ => false | _ => true
def notSlice : Expr → Bool
  | .Slice _ _ _ _ => false | _ => true
def isNm : Expr → Option Str
  | .Name x _ => some x | _ => none
def bname : Blt → Str
  | .len => "len" | .abs => "abs" | .int => "int" | .list => "list" | .tuple => "tuple" | .all => "all" | .any => "any" | .sorted => "sorted" | .min => "min" | .max => "max" | .str => "str"
def tname : Ty → Str
  | .int => "int" | .bool => "bool" | .str => "str" | .tuple => "tuple" | .list => "list"
def chkNs (d : Bool) (N : List Str) (sc : Scope) : List Nat → List Expr → Bool
  | [], [] => true
  | i :: is, .Name x _ :: es => loc d N sc i x && chkNs d N sc is es
  | _, _ => false
def chkTg (d : Bool) (N : List Str) (sc : Scope) : Tg → Expr → Bool
  | .one i, .Name x _ => loc d N sc i x
  | .many is, .Tuple es _ _ => chkNs d N sc is es && decide (0 < is.length)
  | _, _ => false
/-- the same in a comprehension's block (names rs, as written raw): a local, or a cell of its own -/
def locC (N : List Str) (raw rs : Scope) (i : Nat) (x : Str) : Bool := decide (N[i]? = some x) && (decide (rs.names.lookup x = some .local) || (decide (raw.names.lookup x = some .cell) && decide (rs.names.lookup x = some .cell)))
def chkNsC (N : List Str) (raw rs : Scope) : List Nat → List Expr → Bool
  | [], [] => true
  | i :: is, .Name x _ :: es => locC N raw rs i x && chkNsC N raw rs is es
  | _, _ => false
def chkTgC (N : List Str) (raw rs : Scope) : Tg → Expr → Bool
  | .one i, .Name x _ => locC N raw rs i x
  | .many is, .Tuple es _ _ => chkNsC N raw rs is es && decide (0 < is.length)
  | _, _ => false
def tgIn : Tg → List Nat → Bool
  | .one i, vs => decide (i ∈ vs)
  | .many is, vs => is.all fun i => decide (i ∈ vs)
def sliceOf : Expr → Option (Option Expr × Option Expr)
  | .Slice lo hi none _ => some (lo, hi)
  | _ => none
def isYes : E → Bool
  | .kb b => b | _ => false
def isZip : E → Bool
  | .zip _ _ => true | _ => false
/-- the forms of the operators of one thing: what they are of, the built-in names in them -/
def unE (u : Un) (e : Expr) : Option (Expr × List Str) := match u with
  | .rvs => (match e with | .Subscript e (.Slice none none (some (.UnaryOp .USub (.Constant (.int 1) _ _) _)) _) _ => some (e, []) | _ => none)
  | .trv => (match e with | .Call (.Name x _) [.Call (.Name y _) [e] [] _] [] _ => if x = "tuple" ∧ y = "reversed" ∧ notStar e = true then some (e, [x, y]) else none | _ => none)
  | .sst => (match e with | .Call (.Name x _) [.Call (.Name y _) [e] [] _] [] _ => if x = "sorted" ∧ y = "set" ∧ notStar e = true then some (e, [x, y]) else none | _ => none)
  | .lrv => (match e with | .Call (.Name x _) [.Call (.Name y _) [e] [] _] [] _ => if x = "list" ∧ y = "reversed" ∧ notStar e = true then some (e, [x, y]) else none | _ => none)
def isNameE : Expr → Bool
  | .Name _ _ => true | _ => false
/-- the lambda of one parameter: step[0] * (whole // step[1]) -/
def lamP : Arguments → Bool
  | ⟨[], [⟨a, none, _⟩], none, [], [], none, []⟩ => decide (a = "step")
  | _ => false
def lamB : Expr → Bool
  | .BinOp (.Subscript (.Name a _) (.Constant (.int i) _ _) _) .Mult (.BinOp (.Name b _) .FloorDiv (.Subscript (.Name c _) (.Constant (.int j) _ _) _) _) _ => decide (a = "step") && (decide (c = "step") && (decide (b = "whole") && (decide (i = 0) && decide (j = 1))))
  | _ => false
def lamS (sc : Scope) : Bool := decide (sc.kind = .function) && (!sc.isCoroutine && (!sc.isGenerator && decide (sc.names = [(("step" : Str), NameKind.local), (("whole" : Str), NameKind.free)])))
/-- sorted(e, key=that lambda) -/
def lamK : Expr → Option (Str × Expr)
  | .Call (.Name x _) [ea] [⟨some kn, .Lambda ps b lsc _, _⟩] _ => if kn = "key" ∧ (notStar ea = true ∧ (lamP ps = true ∧ (lamB b = true ∧ lamS lsc = true))) then some (x, ea) else none
  | _ => none
/-- a list comprehension -/
def isLC : Expr → Bool
  | .ListComp _ _ _ _ => true
  | _ => false
mutual
def chkE (q : Bs) (N : List Str) (sc : Scope) : E → Expr → Bool
  | .var i, e => (match isNm e with | some x => vis N sc i x | none => false)
  | .bor i, e => (match isNm e with | some x => vis N sc i x | none => false)
  | .kn, e => (match e with | .Constant .none _ _ => true | _ => false)
  | .kb b, e => (match e with | .Constant (.bool c) _ _ => b == c | _ => false)
  | .ki i, e => (match e with | .Constant (.int j) _ _ => decide (i = j) | _ => false)
  | .ks x, e => (match e with | .Constant (.str y) _ _ => decide (sS x = y) | _ => false)
  | .glo n _, e => (match e with | .Name x _ => glo sc x && decide (q.cons[n]? = some x) | _ => false)
  | .bin o a b, e => (match e with | .BinOp ea op eb _ => decide (op = opOf o) && chkE q N sc a ea && chkE q N sc b eb | _ => false)
  | .neg a, e => (match e with | .UnaryOp .USub ea _ => chkE q N sc a ea | _ => false)
  | .cmp o a b, e => (match e with | .Compare ea [op] [eb] _ => decide (op = copOf o) && notSet eb && chkE q N sc a ea && chkE q N sc b eb | _ => false)
  | .chn o p a b c, e => (match e with | .Compare ea [op, op'] [eb, ec] _ => decide (op = copOf o) && decide (op' = copOf p) && notSet eb && notSet ec && chkE q N sc a ea && chkE q N sc b eb && chkE q N sc c ec | _ => false)
  | .isn a, e => (match e with | .Compare ea [.Is] [.Constant .none _ _] _ => chkE q N sc a ea | _ => false)
  | .isnn a, e => (match e with | .Compare ea [.IsNot] [.Constant .none _ _] _ => chkE q N sc a ea | _ => false)
  | .lend a, e => !isLC e && chkE q N sc a e
  | .not a, e => (match e with | .UnaryOp .Not ea _ => chkE q N sc a ea | _ => false)
  | .and a b, e => (match e with | .BoolOp .And (ea :: es) _ => !es.isEmpty && chkE q N sc a ea && chkL q N sc .And b es | _ => false)
  | .or a b, e => (match e with | .BoolOp .Or (ea :: es) _ => !es.isEmpty && chkE q N sc a ea && chkL q N sc .Or b es | _ => false)
  | .ite c a b, e => (match e with | .IfExp ec ea eb _ => chkE q N sc c ec && chkE q N sc a ea && chkE q N sc b eb | _ => false)
  | .tup as, e => (match e with | .Tuple es _ _ => decide (es.length ≤ 1000) && chkA q N sc as es | _ => false)
  | .lst as, e => (match e with | .List es _ => decide (es.length ≤ 1000) && chkA q N sc as es | _ => false)
  | .ix a i, e => (match e with | .Subscript ea ei _ => notSlice ei && chkE q N sc a ea && chkE q N sc i ei | _ => false)
  | .sl a lo hi, e => (match e with
    | .Subscript ea es _ => (match sliceOf es with
      | some (l, h) => chkE q N sc a ea && chkO q N sc lo l && chkO q N sc hi h
      | none => false)
    | _ => false)
  | .call n _ as, e => (match e with | .Call (.Name x _) es [] _ => glo sc x && decide (q.fns[n]? = some x) && chkA q N sc as es | _ => false)
  | .fnv nm, e => (match e with | .Name x _ => glo sc x && decide (x = sS nm) | _ => false)
  | .cax a fs as, e => (match e with | .Call (.Subscript u v w) es [] _ => chkE q N sc a (.Subscript u v w) && (fs.all fun p => decide (q.fns[p.1]? = some (sS p.2.1))) && chkA q N sc as es | _ => false)
  | .cal i fs as, e => (match e with | .Call (.Name x _) es [] _ => vis N sc i x && (fs.all fun p => decide (q.fns[p.1]? = some (sS p.2.1))) && chkA q N sc as es | _ => false)
  | .new n c _ as, e => (match e with | .Call (.Name x _) es [] _ => glo sc x && decide (q.cls[c]? = some x) && chkA q N sc as es | _ => false)
  | .mth n i _ _ as, e => (match e with | .Call (.Attribute (.Name y _) m ap) es [] cp => vis N sc i y && decide (q.fns[n]? = some m) && decide (es.length < 30) && (ap.endLine == cp.line) && chkA q N sc as es | _ => false)
  | .fld i _ f, e => (match e with | .Attribute (.Name y _) m _ => vis N sc i y && decide (q.flds[f]? = some m) && decide q.flds.Nodup | _ => false)
  | .blt b as, e => (match e with | .Call (.Name x _) (ea :: es) [] _ => glo sc x && decide (x = bname b) && decide (x ∈ q.blts) && chkA q N sc as (ea :: es) | _ => false)
  | .dnew, e => (match e with | .Dict [] [] _ => true | _ => false)
  | .dnwi, e => (match e with | .Dict [] [] _ => true | _ => false)
  | .dqe z a b, e => (match e with | .Compare (.Call (.Name x _) [ea] [] _) [op] [.Call (.Name y _) [eb] [] _] _ => glo sc x && glo sc y && decide (x = "dict") && decide (y = "dict") && decide (x ∈ q.blts) && decide (y ∈ q.blts) && decide (op = if z = true then CmpOp.Eq else CmpOp.NotEq) && notStar ea && notStar eb && chkE q N sc a ea && chkE q N sc b eb | _ => false)
  | .din z k i, e => (match e with | .Compare ek [op] [.Name y _] _ => vis N sc i y && decide (op = if z = true then CmpOp.In else CmpOp.NotIn) && chkE q N sc k ek | _ => false)
  | .stp a b, e => (match e with | .Subscript ea (.Slice none none (some et) _) _ => notSlice et && chkE q N sc a ea && chkE q N sc b et | _ => false)
  | .dgt a b c, e => (match e with | .Call (.Attribute (.Name y p) mm ap) [ek, ee] [] cp => decide (mm = "get") && (ap.endLine == cp.line) && notStar ek && notStar ee && chkE q N sc a (.Name y p) && chkE q N sc b ek && chkE q N sc c ee | _ => false)
  | .lr1 a, e => (match e with | .Call (.Name x _) [.Call (.Name y _) [ea] [] _] [] _ => glo sc x && glo sc y && decide (x = "list") && decide (y = "range") && decide (x ∈ q.blts) && decide (y ∈ q.blts) && notStar ea && chkE q N sc a ea | _ => false)
  | .lr2 a b, e => (match e with | .Call (.Name x _) [.Call (.Name y _) [ea, eb] [] _] [] _ => glo sc x && glo sc y && decide (x = "list") && decide (y = "range") && decide (x ∈ q.blts) && decide (y ∈ q.blts) && notStar ea && notStar eb && chkE q N sc a ea && chkE q N sc b eb | _ => false)
  | .un u a, e => (match unE u e with | some (ea, xs) => (xs.all fun x => glo sc x && decide (x ∈ q.blts)) && chkE q N sc a ea | none => false)
  | .srk a w, e => (match lamK e with | some (x, ea) => glo sc x && decide (x = "sorted") && decide (x ∈ q.blts) && decide (N[w]? = some ("whole" : Str)) && decide (sc.names.lookup ("whole" : Str) = some NameKind.cell) && chkE q N sc a ea | none => false)
  | .bm m a as, e => (match e with | .Call (.Attribute (.Name y p) mm ap) [ei] [] cp => decide (m = .index) && decide (mm = "index") && (ap.endLine == cp.line) && chkE q N sc a (.Name y p) && chkA q N sc as [ei] | _ => false)
  | .isi a t, e => (match e with | .Call (.Name x _) [ea, .Name y _] [] _ => glo sc x && glo sc y && decide (x = "isinstance") && decide (y = tname t) && decide (x ∈ q.blts) && decide (y ∈ q.blts) && notStar ea && chkE q N sc a ea | _ => false)
  | .isx a t _ _, e => (match e with | .Call (.Name x _) [ea, .Name y _] [] _ => glo sc x && glo sc y && decide (x = "isinstance") && decide (y = sS t) && decide (x ∈ q.blts) && notStar ea && chkE q N sc a ea | _ => false)
  | .xf a f _, e => (match e with | .Attribute ea m _ => decide (m = sS f) && isNameE ea && chkE q N sc a ea | _ => false)
  | .com vs t it c el, e => (match e with
    | .ListComp eel [⟨tg, eit, ifs, 0⟩] scope _ => blkC N sc scope (vs.map fun i => (N.getD i "", i)) && (notSet eit && (match t with | .one _ => !isZip it | .many _ => true)) && chkTgC N scope (relS scope sc) t tg && tgIn t vs && (match it with | .itb i => (match isNm eit with | some x => vis N sc i x | none => false) | _ => chkI q N sc it eit) &&
      (match ifs with
        | [] => isYes c
        | [ec] => chkE q N (relS scope sc) c ec
        | _ => false) && chkE q N (relS scope sc) el eel
    | _ => false)
  | _, _ => false
def chkL (q : Bs) (N : List Str) (sc : Scope) (op : BoolOp) : E → List Expr → Bool
  | .one a, es => (match es with | [e] => chkE q N sc a e | _ => false)
  | .and a b, es => (match op, es with | .And, ea :: eb :: es => chkE q N sc a ea && chkL q N sc .And b (eb :: es) | _, _ => false)
  | .or a b, es => (match op, es with | .Or, ea :: eb :: es => chkE q N sc a ea && chkL q N sc .Or b (eb :: es) | _, _ => false)
  | _, _ => false
def chkA (q : Bs) (N : List Str) (sc : Scope) : E → List Expr → Bool
  | .nil, es => es.isEmpty
  | .cons a as, es => (match es with | e :: es => notStar e && chkE q N sc a e && chkA q N sc as es | [] => false)
  | _, _ => false
def chkO (q : Bs) (N : List Str) (sc : Scope) : E → Option Expr → Bool
  | .gap, e => e.isNone
  | .one a, e => (match e with | some e => chkE q N sc a e | none => false)
  | _, _ => false
def chkI (q : Bs) (N : List Str) (sc : Scope) : E → Expr → Bool
  | .it a, e => chkE q N sc a e
  | .rg1 a, e => (match e with | .Call (.Name x _) [ea] [] _ => glo sc x && decide (x = "range") && decide (x ∈ q.blts) && notStar ea && chkE q N sc a ea | _ => false)
  | .rg2 a b, e => (match e with | .Call (.Name x _) [ea, eb] [] _ => glo sc x && decide (x = "range") && decide (x ∈ q.blts) && notStar ea && notStar eb && chkE q N sc a ea && chkE q N sc b eb | _ => false)
  | .rg3 a b c, e => (match e with | .Call (.Name x _) [ea, eb, .UnaryOp .USub (.Constant (.int i) _ _) _] [] _ => glo sc x && decide (x = "range") && decide (x ∈ q.blts) && notStar ea && notStar eb && decide (i = 1) && decide (c = -1) && chkE q N sc a ea && chkE q N sc b eb | _ => false)
  | .zip a b, e => (match e with | .Call (.Name x _) [ea, eb] [] _ => glo sc x && decide (x = "zip") && decide (x ∈ q.blts) && notStar ea && notStar eb && chkE q N sc a ea && chkE q N sc b eb | _ => false)
  | .rev a, e => (match e with | .Call (.Name x _) [ea] [] _ => glo sc x && decide (x = "reversed") && decide (x ∈ q.blts) && notStar ea && chkE q N sc a ea | _ => false)
  | _, _ => false
end
end MI

namespace MI
open PySem L2

theorem ba {a b : Bool} (h : (a && b) = true) : a = true ∧ b = true := by rwa [Bool.and_eq_true] at h
theorem dec {p : Prop} [Decidable p] (h : decide p = true) : p := of_decide_eq_true h
/-- where a piece of syntax stands -/
structure CO (q : Bs) (X : Cx) (W : L2.WX) (sc : Scope) (N : List Str) : Prop where
  hsc : X.env.scope = sc
  hN : X.N = N
  calm : X.calm = true
  nd : N.Nodup
  tk : Takes X W
  po : PassesOwn (model X.prog X.w) X.A X.env X.xe
  room : Room q.k X.A
  k1 : 1 ≤ q.k
  blt : ∀ x ∈ q.blts, X.mg x = none
  pr : q.pr = X.prog
  w : q.w = X.w
  lam : ∀ p, q.cd = some p → X.env.code = .ref p.1 ∧ X.env.qual ++ "<lambda>" = LN
section
variable {q : Bs} {X : Cx} {W : L2.WX} {sc : Scope} {N : List Str}
theorem CO.u65 (C : CO q X W sc N) : X.A.units + 65 < cLine := by
  have := C.room.un
  omega
theorem CO.vis (C : CO q X W sc N) {i : Nat} {x : Str} (h : vis N sc i x = true) : X.N[i]? = some x ∧ Vis X.env.scope x ∧ (x == ("__debug__" : Str)) = false ∧ (x == ("__classdict__" : Str)) = false := by
  obtain ⟨h, h4⟩ := ba h
  obtain ⟨h, h3⟩ := ba h
  obtain ⟨h1, h2⟩ := ba h
  refine ⟨by rw [C.hN]; exact dec h1, ?_, by simpa using h3, by simpa using h4⟩
  unfold Vis
  rw [C.hsc]
  unfold visK at h2
  split at h2 <;> simp_all
theorem CO.glo (C : CO q X W sc N) {x : Str} (h : glo sc x = true) : Gl X x ∧ (x == ("__debug__" : Str)) = false := by
  obtain ⟨h1, h2⟩ := ba h
  refine ⟨?_, by simpa using h2⟩
  show X.env.scope.names.lookup x = some .globalImplicit
  rw [C.hsc]
  unfold glK at h1
  split at h1 <;> simp_all
theorem starEach_cons {e : Expr} {es : List Expr} {env : Env} (h : notStar e = true) : starEach (e :: es) env = (false, eval e env) :: starEach es env := by
  cases e <;> first | rfl | cases h
def allStar : List Expr → Bool
  | [] => true
  | e :: es => notStar e && allStar es
theorem star_none {es : List Expr} {env : Env} {pos : Pos} (h : allStar es = true) : (backTo pos (starEach es env)).any (·.1) = false := by
  induction es with
  | nil => rfl
  | cons e es ih =>
    obtain ⟨h1, h2⟩ := ba h
    rw [starEach_cons h1]
    show (false || (backTo pos (starEach es env)).any (·.1)) = false
    rw [ih h2]; rfl
theorem chkA_star : ∀ {c : E} {es : List Expr}, chkA q N sc c es = true → allStar es = true
  | .nil, es, h => by
    have : es = [] := by simpa [chkA] using h
    subst this; rfl
  | .cons a as, [], h => rfl
  | .cons a as, e :: es, h => by
    have h' : (notStar e && chkE q N sc a e && chkA q N sc as es) = true := h
    obtain ⟨h1, h2⟩ := ba h'
    show (notStar e && allStar es) = true
    rw [(ba h1).1, chkA_star h2]; rfl
theorem nomark' {b : Expr} {op : CmpOp} (h : notSet b = true) : behindInMarks op b = false := by
  cases b <;> first | rfl | cases h
theorem folded' {e : Expr} {env : Env} (h : notSet e = true) : ∀ x, foldedSetIterable e env x = pure x := by
  cases e <;> first | (intro x; rfl) | cases h
theorem swaps' {e : Expr} {t : Option Expr} {l : Nat} {env : Env} (h : notComp e = true) : swapsWith e t l env = pure false := by
  cases e <;> first | rfl | cases h
theorem plainIx' {e : Expr} (h : notSlice e = true) : PlainIx e := by
  cases e <;> first | exact fun _ _ => rfl | cases h
end

section
variable {X : Cx}
theorem PE.imp {e : Expr} {t t' : TE} (h : PE X e t) (m : ∀ σ H Q, t' σ H Q → t σ H Q) : PE X e t' := ⟨fun pins s σ H Q I k => h.run pins s σ H Q I (m σ H Q k)⟩
theorem PT.imp {e : Expr} {t t' : TT} (h : PT X e t) (m : ∀ σ H Q, t' σ H Q → t σ H Q) : PT X e t' := ⟨fun pins s σ H Q I k => h.run pins s σ H Q I (m σ H Q k)⟩
theorem PW.imp {e : Expr} {t t' : TT} (h : PW X e t) (m : ∀ σ H Q, t' σ H Q → t σ H Q) : PW X e t' := ⟨fun w pins s σ H Q I k => h.run w pins s σ H Q I (m σ H Q k)⟩
theorem PA.imp {e : List Expr} {t t' : TA} (h : PA X e t) (m : ∀ σ H Q, t' σ H Q → t σ H Q) : PA X e t' := ⟨fun p pins s σ H Q I k => h.run p pins s σ H Q I (m σ H Q k)⟩
theorem PO.imp {e : Option Expr} {t t' : TO} (h : PO X e t) (m : ∀ σ H Q, t' σ H Q → t σ H Q) : PO X e t' := ⟨fun pins s σ H Q I k => h.run pins s σ H Q I (m σ H Q k)⟩
theorem PI.imp {g e : Expr} {t t' : TI} (h : PI X g e t) (m : ∀ σ H Q, t' σ H Q → t σ H Q) : PI X g e t' := ⟨fun pins s σ H Q I k => h.run pins s σ H Q I (m σ H Q k)⟩
theorem PG.imp {e : Expr} {t t' : TG} (h : PG X e t) (m : ∀ v σ H Q, t' v σ H Q → t v σ H Q) : PG X e t' := ⟨fun pins s σ H v u Q I r k => h.run pins s σ H v u Q I r (m v σ H Q k)⟩
theorem PG.or {e : Expr} {t t' : TG} (h : PG X e t) (h' : PG X e t') : PG X e (fun v σ H Q => t v σ H Q ∨ t' v σ H Q) := ⟨fun pins s σ H v u Q I r k => k.elim (h.run pins s σ H v u Q I r) (h'.run pins s σ H v u Q I r)⟩
theorem PI.or {g e : Expr} {t t' : TI} (h : PI X g e t) (h' : PI X g e t') : PI X g e (fun σ H Q => t σ H Q ∨ t' σ H Q) := ⟨fun pins s σ H Q I k => k.elim (h.run pins s σ H Q I) (h'.run pins s σ H Q I)⟩
theorem PS.imp {e : Stmt} {t t' : TS} (h : PS X e t) (m : ∀ D σ H, t' D σ H → t D σ H) : PS X e t' := ⟨fun pins s σ H D I k => h.run pins s σ H D I (m D σ H k)⟩
theorem PSs.imp {e : List Stmt} {t t' : TS} (h : PSs X e t) (m : ∀ D σ H, t' D σ H → t D σ H) : PSs X e t' := ⟨fun pins s σ H D I k => h.run pins s σ H D I (m D σ H k)⟩
end

/-! ### the slots -/
section
variable {F : Fx} {g : G} {s : State} {σ : L2.St} {H : Hp}
def G.drop (g : G) (i : Nat) : G := ⟨fun j => if j = i then none else g.own j, g.m⟩
theorem drop_own {i j : Nat} {a : Addr} (h : (g.drop i).own j = some a) : j ≠ i ∧ g.own j = some a := by
  have h' : (if j = i then none else g.own j) = some a := h
  split at h'
  · cases h'
  · next e => exact ⟨e, h'⟩
theorem drop_pp {i : Nat} {a : Addr} (h : PP F (g.drop i) a) : PP F g a := by
  rcases h with h | ⟨j, h⟩
  · exact .inl h
  · exact .inr ⟨j, (drop_own h).2⟩
theorem stE_drop {i : Nat} : StE g H (g.drop i) H := ⟨fun _ _ h _ _ => h, fun _ _ h => h, fun _ o h => ⟨o, h⟩, fun _ _ h => (drop_own h).2, [], by simp [G.drop], by simp⟩
/-- another reading of the slots over the same heap -/
theorem RS.re (R : RS F g s σ H) {g' : G} {s' : State} {σ' : L2.St} (hm : g'.m = g.m) (hS : s'.S = s.S) (hl : s'.r.length = σ'.length) (ho : ∀ i a, g'.own i = some a → g.own i = some a)
    (sl : ∀ (i : Nat) (x : D), s'.r[i]? = some (.v x false) → ∃ v, σ'[i]? = some (some v) ∧ Rp F.K H (PP F g') v x)
    (ow : ∀ (i : Nat) (x : D), s'.r[i]? = some (.v x true) → ∃ a, g'.own i = some a ∧ σ'[i]? = some (some (.ref a)) ∧ Own F.K H (PP F g') a x)
    (ob : ∀ (i j : Nat), s'.r[i]? = some (.o j) → ∃ a, g.m[j]? = some a ∧ σ'[i]? = some (some (.ref a)))
    (dc : ∀ (i : Nat) (ks : List (List D)), s'.r[i]? = some (.d ks) → ∃ v, σ'[i]? = some (some v) ∧ DcR F H v ks) : RS F g' s' σ' H := by
  have pp : ∀ {a : Addr}, PP F g' a → PP F g a := fun {a} h => by
    rcases h with h | ⟨j, h⟩
    · exact .inl h
    · exact .inr ⟨j, ho j a h⟩
  have k : Kp (PP F g) g.m H (PP F g') H := ⟨R.ld, R.ins, fun b o h _ _ _ => h, fun b o _ n h => n (pp h)⟩
  refine ⟨hl, sl, ow, fun i j h => by rw [hm]; exact ob i j h, dc, fun i j a h1 h2 => R.inj i j a (ho i a h1) (ho j a h2), fun i a h => R.own i a (ho i a h), R.p0, R.k0, R.d0, R.tb, R.i0, by rw [hm]; exact R.pre, ?_⟩
  rw [hm, hS]
  refine ⟨R.st.nd, R.st.len, fun j o e => ?_⟩
  obtain ⟨a, dx, vs, e1, e2, r⟩ := R.st.at_ j o e
  exact ⟨a, dx, vs, e1, e2, r.mono k⟩
theorem kp_drop (R : RS F g s σ H) (i : Nat) : Kp (PP F g) g.m H (PP F (g.drop i)) H := ⟨R.ld, R.ins, fun b o h _ _ _ => h, fun b o _ n h => n (drop_pp h)⟩
theorem get_set {α : Type} {xs : List α} {i j : Nat} {a b : α} (h : (xs.set i a)[j]? = some b) : (i = j ∧ a = b ∧ i < xs.length) ∨ (i ≠ j ∧ xs[j]? = some b) := by
  by_cases e : i = j
  · subst e
    rw [List.getElem?_set] at h
    simp only [if_true] at h
    split at h
    · next hl => cases h; exact .inl ⟨rfl, rfl, hl⟩
    · cases h
  · rw [List.getElem?_set_ne e] at h
    exact .inr ⟨e, h⟩
/-- shared data are stored -/
theorem RS.setS (R : RS F g s σ H) {i : Nat} {v : V} {x : D} (h : Rp F.K H (PP F (g.drop i)) v x) : RS F (g.drop i) ⟨s.r.set i (.v x false), s.S⟩ (σ.set i (some v)) H := by
  have k := kp_drop R i
  refine R.re rfl rfl (by simp [R.len]) (fun _ _ h => (drop_own h).2) (fun j y e => ?_) (fun j y e => ?_) (fun j n e => ?_) (fun j ks e => by rcases get_set e with ⟨rfl, q, _⟩ | ⟨n, q⟩ <;> first | (cases q; done) | (obtain ⟨v, h1, h2⟩ := R.dc j ks q; exact ⟨v, by rw [List.getElem?_set_ne n]; exact h1, h2⟩))
  · rcases get_set e with ⟨rfl, e1, hl⟩ | ⟨n, e1⟩
    · cases e1
      exact ⟨v, List.getElem?_set_self (by rw [← R.len]; exact hl), h⟩
    · obtain ⟨u, h1, h2⟩ := R.sl j y e1
      exact ⟨u, by rw [List.getElem?_set_ne n]; exact h1, h2.mono k⟩
  · rcases get_set e with ⟨rfl, e1, hl⟩ | ⟨n, e1⟩
    · cases e1
    · obtain ⟨a, h1, h2, h3⟩ := R.ow j y e1
      exact ⟨a, (if_neg (Ne.symm n)).trans h1, by rw [List.getElem?_set_ne n]; exact h2, h3.mono k fun _ _ z => z⟩
  · rcases get_set e with ⟨rfl, e1, hl⟩ | ⟨n', e1⟩
    · cases e1
    · obtain ⟨a, h1, h2⟩ := R.ob j n e1
      exact ⟨a, h1, by rw [List.getElem?_set_ne n']; exact h2⟩
/-- a slot is read: it owns nothing any more -/
theorem RS.unown (R : RS F g s σ H) {i : Nat} {x : D} {b : Bool} (e : s.r[i]? = some (.v x b)) : ∃ v, σ[i]? = some (some v) ∧ Rp F.K H (PP F (g.drop i)) v x ∧ RS F (g.drop i) ⟨s.r.set i (.v x false), s.S⟩ σ H := by
  obtain ⟨v, h1, h2⟩ : ∃ v, σ[i]? = some (some v) ∧ Rp F.K H (PP F (g.drop i)) v x := by
    cases b with
    | false =>
      obtain ⟨v, h1, h2⟩ := R.sl i x e
      exact ⟨v, h1, h2.mono (kp_drop R i)⟩
    | true =>
      obtain ⟨a, h1, h2, h3⟩ := R.ow i x e
      refine ⟨_, h2, own_rp (h3.mono (kp_drop R i) fun _ _ z => z) ?_⟩
      rintro (z | ⟨j, z⟩)
      · exact (R.own i a h1).2.1 z
      · obtain ⟨n, z⟩ := drop_own z
        exact n (R.inj j i a z h1)
  refine ⟨v, h1, h2, ?_⟩
  have q := R.setS (i := i) h2
  have e2 : σ.set i (some v) = σ := by
    apply List.ext_getElem?
    intro j
    by_cases ej : i = j
    · subst ej
      rw [List.getElem?_set_self (List.getElem?_eq_some_iff.mp h1).1, h1]
    · rw [List.getElem?_set_ne ej]
  rw [e2] at q
  exact q
/-- a slot is looked at -/
theorem RS.look (R : RS F g s σ H) {i : Nat} {x : D} {b : Bool} (e : s.r[i]? = some (.v x b)) : ∃ v, σ[i]? = some (some v) ∧ Vw F.K H (PP F g) v x := by
  cases b with
  | false => obtain ⟨v, h1, h2⟩ := R.sl i x e; exact ⟨v, h1, .inl h2⟩
  | true => obtain ⟨a, h1, h2, h3⟩ := R.ow i x e; exact ⟨_, h2, .inr ⟨a, rfl, h3⟩⟩
/-- slots are forgotten, others stay -/
theorem RS.weak (R : RS F g s σ H) {r' : List Slot} {σ' : L2.St} (hl : r'.length = σ'.length) (w : ∀ (i : Nat) (z : Slot), r'[i]? = some z → z = .u ∨ (s.r[i]? = some z ∧ σ'[i]? = σ[i]?)) : RS F g ⟨r', s.S⟩ σ' H := by
  refine R.re rfl rfl hl (fun _ _ h => h) (fun j y e => ?_) (fun j y e => ?_) (fun j n e => ?_) (fun j ks e => by rcases w j _ e with z | ⟨z, z2⟩ <;> first | (cases z; done) | (rw [z2]; exact R.dc j ks z))
  · rcases w j _ e with z | ⟨z, z2⟩
    · cases z
    · rw [z2]; exact R.sl j y z
  · rcases w j _ e with z | ⟨z, z2⟩
    · cases z
    · rw [z2]; exact R.ow j y z
  · rcases w j _ e with z | ⟨z, z2⟩
    · cases z
    · rw [z2]; exact R.ob j n z
theorem wipeR_len (vs : List Nat) (r : List Slot) : (wipeR vs r).length = r.length := by
  induction vs with
  | nil => rfl
  | cons v vs ih => simp [wipeR, ih]
theorem wipeR_get {vs : List Nat} {r : List Slot} {i : Nat} {z : Slot} (h : (wipeR vs r)[i]? = some z) : z = .u ∨ (i ∉ vs ∧ r[i]? = some z) := by
  induction vs generalizing z with
  | nil => exact .inr ⟨by simp, h⟩
  | cons v vs ih =>
    rcases get_set (show ((wipeR vs r).set v .u)[i]? = some z from h) with ⟨_, e, _⟩ | ⟨n, e⟩
    · exact .inl e.symm
    · rcases ih e with q | ⟨q1, q2⟩
      · exact .inl q
      · exact .inr ⟨by simp [q1, Ne.symm n], q2⟩
theorem wipe_get {σ : L2.St} {vs : List Nat} {i : Nat} (h : i ∉ vs) : (wipe σ vs)[i]? = σ[i]? := wipe_out h
theorem RS.wipe (R : RS F g s σ H) (vs : List Nat) : RS F g ⟨wipeR vs s.r, s.S⟩ (L2.wipe σ vs) H :=
  R.weak (by rw [wipeR_len, wipe_length, R.len]) fun i z e => by
    rcases wipeR_get e with q | ⟨q1, q2⟩
    · exact .inl q
    · exact .inr ⟨q2, wipe_get q1⟩
theorem RS.kill (R : RS F g s σ H) (vs : List Nat) : RS F g ⟨wipeR vs s.r, s.S⟩ σ H :=
  R.weak (by rw [wipeR_len, R.len]) fun i z e => by
    rcases wipeR_get e with q | ⟨q1, q2⟩
    · exact .inl q
    · exact .inr ⟨q2, rfl⟩
theorem RS.unwipe {vs : List Nat} {r : List Slot} {S : Store} (R : RS F g ⟨wipeR vs r, S⟩ (L2.wipe σ vs) H) : RS F g ⟨wipeR vs r, S⟩ σ H :=
  RS.weak (s := ⟨wipeR vs r, S⟩) R (by have := R.len; rw [wipe_length] at this; exact this) fun i z e => by
    rcases wipeR_get e with q | ⟨q1, q2⟩
    · exact .inl q
    · exact .inr ⟨e, (wipe_get q1).symm⟩
end
end MI

namespace MI
open PySem L2

theorem ev_one (a : E) (s : State) : ev (.one a) s = ev a s := by simp only [ev]
theorem evT_one (a : E) (s : State) : evT (.one a) s = evT a s := by unfold evT; rw [ev_one]
theorem evT_not (a : E) (s : State) : evT (.not a) s = (evT a s).bind fun b s1 => .ok (!b) s1 := by
  unfold evT
  simp only [ev]
  cases ev a s with
  | bad => rfl
  | exc e s' => rfl
  | ok v s1 => cases v <;> first | rfl | (rename_i x; cases x <;> first | rfl | (rename_i bb; cases bb <;> rfl))
theorem evT_and (a b : E) (s : State) : evT (.and a b) s = (evT a s).bind fun k s1 => if k = true then evT b s1 else .ok false s1 := by
  unfold evT
  simp only [ev]
  cases ev a s with
  | bad => rfl
  | exc e s' => rfl
  | ok v s1 => cases v <;> first | rfl | (rename_i x; cases x <;> first | rfl | (rename_i bb; cases bb <;> rfl))
theorem evT_or (a b : E) (s : State) : evT (.or a b) s = (evT a s).bind fun k s1 => if k = true then .ok true s1 else evT b s1 := by
  unfold evT
  simp only [ev]
  cases ev a s with
  | bad => rfl
  | exc e s' => rfl
  | ok v s1 => cases v <;> first | rfl | (rename_i x; cases x <;> first | rfl | (rename_i bb; cases bb <;> rfl))
theorem ev_ite (c a b : E) (s : State) : ev (.ite c a b) s = (evT c s).bind fun k s1 => if k = true then ev a s1 else ev b s1 := by
  unfold evT
  simp only [ev]
  cases ev c s with
  | bad => rfl
  | exc e s' => rfl
  | ok v s1 => cases v <;> first | rfl | (rename_i x; cases x <;> first | rfl | (rename_i bb; cases bb <;> rfl))
theorem evT_ite (c a b : E) (s : State) : evT (.ite c a b) s = (evT c s).bind fun k s1 => if k = true then evT a s1 else evT b s1 := by
  unfold evT
  simp only [ev]
  cases ev c s with
  | bad => rfl
  | exc e s' => rfl
  | ok v s1 => cases v <;> first | rfl | (rename_i x; cases x <;> first | rfl | (rename_i bb; cases bb <;> rfl))
theorem isTrue_ite (c a b : Expr) (pos : Pos) (env : Env) (w : Sem Value) : isTrue (.IfExp c a b pos) env w = (do if ← isTrue c env (eval c env) then isTrue a env (eval a env) else isTrue b env (eval b env)) := by rfl
/-! ### the readings of the pieces -/
section
variable (K : PySem.W.Frag) (q : Bs) (W : L2.WX)
def tE (c : E) : TE := fun σ H Q => ∃ (p : Pv) (g : G) (s : State), RS (FX K q p) g s σ H ∧ Post (FX K q p) W g σ H (ev c s) fun r g' _ H' => ∀ v, EVR (FX K q p) g' H H' v r → Q v H'
def tT (c : E) : TT := fun σ H Q => ∃ (p : Pv) (g : G) (s : State), RS (FX K q p) g s σ H ∧ Post (FX K q p) W g σ H (evT c s) fun b _ _ H' => Q b H'
def tA (c : E) : TA := fun σ H Q => ∃ (p : Pv) (g : G) (s : State), RS (FX K q p) g s σ H ∧ Post (FX K q p) W g σ H (evA c s) fun xs g' _ H' => ∀ vs, ArgsR (FX K q p) g' H' vs xs → Q vs H'
def tL (c : E) : TA := fun σ H Q => ∃ (p : Pv) (g : G) (s : State), RS (FX K q p) g s σ H ∧ Post (FX K q p) W g σ H (evL c s) fun xs g' _ H' => ∀ vs, VwA (FX K q p) g' H' vs xs → Q vs H'
def tO (c : E) : TO := fun σ H Q => ∃ (p : Pv) (g : G) (s : State), RS (FX K q p) g s σ H ∧ Post (FX K q p) W g σ H (evO c s) fun o _ _ H' => Q o H'
/-- an item that a walk gives at a turn -/
def ItY (F : Fx) (g : G) (H H2 : Hp) (x : V) (d : D) (H3 : Hp) : Prop :=
  (H3 = H2 ∧ Rp F.K H (PP F g) x d) ∨ ∃ T vs ds, H2 T = none ∧ x = .ref T ∧ d = .tup ds ∧ H3 = upd H2 T (.tup vs) ∧ RpA F.K H (PP F g) vs ds
def ItR (F : Fx) (g : G) (H : Hp) (xs : List D) (J : It) : Prop := ∀ (i : Nat) (P' : Addr → Prop) (H2 : Hp), Kp (PP F g) g.m H P' H2 →
  (∀ d, xs[i]? = some d → J.go i H2 ∧ ∀ x H3, J.yld i H2 x H3 → ItY F g H H2 x d H3) ∧ (xs.length ≤ i → J.stop i H2)
def tI (c : E) : TI := fun σ H R => ∃ (p : Pv) (g : G) (s : State), RS (FX K q p) g s σ H ∧ Post (FX K q p) W g σ H (evI c s) fun xs g' _ H' => ∀ J, ItR (FX K q p) g' H' xs J → R J H'
/-- for a comprehension: what stands, stands still at its turns -/
def ItC (F : Fx) (g : G) (H : Hp) (xs : List D) (J : It) : Prop := ∀ (i : Nat) (P' : Addr → Prop) (H2 : Hp), Kp (PP F g) g.m H P' H2 → (∀ b o, H b = some o → b ∉ g.m → ¬ isTb o → H2 b = some o) →
  (∀ d, xs[i]? = some d → J.go i H2 ∧ ∀ x H3, J.yld i H2 x H3 → ItY F g H H2 x d H3) ∧ (xs.length ≤ i → J.stop i H2)
theorem ItR.c {F : Fx} {g : G} {H : Hp} {xs : List D} {J : It} (h : ItR F g H xs J) : ItC F g H xs J := fun i P' H2 k _ => h i P' H2 k
def tIc (c : E) : TI := fun σ H R => ∃ (p : Pv) (g : G) (s : State), RS (FX K q p) g s σ H ∧ Post (FX K q p) W g σ H (evI c s) fun xs g' _ H' => ∀ J, ItC (FX K q p) g' H' xs J → R J H'
theorem tIc_i {c : E} {σ : L2.St} {H : Hp} {R : It → Hp → Prop} (h : tIc K q W c σ H R) : tI K q W c σ H R := by
  obtain ⟨p, g, s, R1, k⟩ := h
  exact ⟨p, g, s, R1, Post.mono k fun xs g' s' H' _ _ _ k J hJ => k J hJ.c⟩
end
theorem ItY.to {F F' : Fx} {g g2 : G} {H H2 H3 : Hp} {x : V} {d : D} (hK : F'.K = F.K) (k : Kp (PP F g) g.m H (PP F' g2) H2) (R : Rd2 F' g2 H2) (h : ItY F g H H2 x d H3) : Gr H2 H3 ∧ Rp F'.K H3 (PP F' g2) x d := by
  rcases h with ⟨e, r⟩ | ⟨T, vs, ds, n, e1, e2, e3, r⟩
  · subst e
    exact ⟨.inl rfl, by rw [hK]; exact r.mono k⟩
  · subst e1 e2 e3
    refine ⟨.inr ⟨T, _, n, rfl⟩, .tup (.of upd_same) ?_⟩
    rw [hK]
    exact (r.mono k).mono (R.kp (same_upd n))
section
variable {F : Fx} {g g' : G} {s : State} {σ : L2.St} {H H' Hs : Hp} {W : L2.WX}
theorem EVR.back (b : ∀ a, H a = none → Hs a = none) {v : V} {e : EV} (h : EVR F g H H' v e) : EVR F g Hs H' v e := by
  cases e with
  | sh x => exact h
  | fr x => obtain ⟨a, e, z, r⟩ := h; exact ⟨a, e, b a z, r⟩
  | bo x => exact h
  | ob j => exact h
  | ft x y => obtain ⟨t, v1, v2, e, sq, n, r, k⟩ := h; exact ⟨t, v1, v2, e, sq, n, r, k.imp id fun ⟨z, a, e, y, w⟩ => ⟨z, a, e, b a y, w⟩⟩
theorem gr_stE (h : Gr H H') : StE g H g H' := StE.refl.grow h.same
theorem Post.orBad {α : Type} {o : Option α} {k : α → G → State → Hp → Prop} (h : Post F W g σ H (orBad o s) k) : ∃ a, o = some a ∧ Post F W g σ H (R.ok a s) k := by
  cases o with
  | none => exact h.elim
  | some a => exact ⟨a, rfl, h⟩
end
section
variable {q : Bs} {X : Cx} {W : L2.WX} {sc : Scope} {N : List Str}

/-! ### names and constants -/
theorem snd_var (C : CO q X W sc N) {i : Nat} {e : Expr} (h : chkE q N sc (.var i) e = true) : PE X e (tE X.K q W (.var i)) := by
  cases e <;> first | cases h | skip
  rename_i x pos
  obtain ⟨h1, h2, h3, h4⟩ := C.vis (show vis N sc i x = true from h)
  refine PE.imp (pe_var h1 h2 h3 h4) fun σ H Q ⟨p, g, s, R, k⟩ => ?_
  unfold ev at k
  split at k
  · next y b e =>
    obtain ⟨v, e1, r, R'⟩ := R.unown e
    exact ⟨v, e1, k _ H R' stE_drop v r⟩
  · next j e =>
    obtain ⟨a, e1, e2⟩ := R.ob i j e
    exact ⟨_, e2, k g H R .refl _ ⟨a, e1, rfl⟩⟩
  · exact k.elim
theorem snd_bor (C : CO q X W sc N) {i : Nat} {e : Expr} (h : chkE q N sc (.bor i) e = true) : PE X e (tE X.K q W (.bor i)) := by
  cases e <;> first | cases h | skip
  rename_i x pos
  obtain ⟨h1, h2, h3, h4⟩ := C.vis (show vis N sc i x = true from h)
  refine PE.imp (pe_var h1 h2 h3 h4) fun σ H Q ⟨p, g, s, R, k⟩ => ?_
  unfold ev at k
  split at k
  · next y b e =>
    obtain ⟨v, e1, r⟩ := R.look e
    exact ⟨v, e1, k g H R .refl v r⟩
  · exact k.elim
theorem snd_const {c : E} {e : Expr} (h : chkE q N sc c e = true) (hc : match c with | .kn => True | .kb _ => True | .ki _ => True | .ks _ => True | _ => False) : PE X e (tE X.K q W c) := by
  cases c <;> first | exact hc.elim | skip
  all_goals (cases e <;> first | cases h | skip)
  all_goals (rename_i cv kk pos; cases cv <;> first | cases h | skip)
  · exact PE.imp pe_non fun σ H Q ⟨p, g, s, R, k⟩ => k g H R .refl _ .non
  · have e : _ = _ := eq_of_beq h
    subst e
    exact PE.imp pe_bl fun σ H Q ⟨p, g, s, R, k⟩ => k g H R .refl _ (.bl _)
  · have e : _ = _ := dec h
    subst e
    exact PE.imp pe_int fun σ H Q ⟨p, g, s, R, k⟩ => k g H R .refl _ (.int _)
  · have e : _ = _ := dec h
    subst e
    exact PE.imp pe_str fun σ H Q ⟨p, g, s, R, k⟩ => k g H R .refl _ (.str _)

/-! ### operators -/
theorem snd_bin {o : Bop} {a b : E} {ea eb : Expr} {pos : Pos} (ha : PE X ea (tE X.K q W a)) (hb : PE X eb (tE X.K q W b)) : PE X (.BinOp ea (opOf o) eb pos) (tE X.K q W (.bin o a b)) := by
  refine PE.imp (pe_op (op_bin q o) ha hb) fun σ H Q ⟨p, g, s, R, k⟩ => ⟨p, g, s, R, ?_⟩
  unfold ev at k
  refine Post.mono (Post.dat k) fun va g1 s1 H1 _ R1 t1 k v hv => ?_
  obtain ⟨x, ex, k⟩ := k t1
  refine ⟨p, g1, s1, R1, Post.mono (Post.dat k) fun vb g2 s2 H2 _ R2 t2 k u hu => ?_⟩
  obtain ⟨y, ey, k⟩ := k t2
  obtain ⟨r, er, k⟩ := Post.orBad k
  exact ⟨p, g2, x, y, r, R2.rd2, (hv.mono R1 t2).vw ex, hu.vw ey, er, fun v' H' gr e => k g2 H' (R2.grow gr.same) (gr_stE gr) (gr_stE gr) (t2.grow gr.same) v' (e.back fun a z => t1.free (t2.free z))⟩
theorem snd_cmp (C : CO q X W sc N) {o : Cop} {a b : E} {ea eb : Expr} {pos : Pos} (hn : notSet eb = true) (ha : PE X ea (tE X.K q W a)) (hb : PE X eb (tE X.K q W b)) : PE X (.Compare ea [copOf o] [eb] pos) (tE X.K q W (.cmp o a b)) ∧ PT X (.Compare ea [copOf o] [eb] pos) (tT X.K q W (.cmp o a b)) := by
  refine ⟨PE.imp (pe_cmpR (op_cmp q o C.u65) ha hb (nomark' hn)) fun σ H Q ⟨p, g, s, R, k⟩ => ⟨p, g, s, R, ?_⟩, PT.imp (pt_cmpR (op_cmp q o C.u65) ha hb (nomark' hn)) fun σ H Q ⟨p, g, s, R, k⟩ => ⟨p, g, s, R, ?_⟩⟩
  · unfold ev at k
    refine Post.mono (Post.dat k) fun va g1 s1 H1 _ R1 t1 k v hv => ?_
    obtain ⟨x, ex, k⟩ := k t1
    refine ⟨p, g1, s1, R1, Post.mono (Post.dat k) fun vb g2 s2 H2 _ R2 t2 k u hu => ?_⟩
    obtain ⟨y, ey, k⟩ := k t2
    obtain ⟨r, er, k⟩ := Post.orBad k
    simp only [Option.map_eq_some_iff] at er
    obtain ⟨c, e1, e2⟩ := er
    subst e2
    exact ⟨p, g2, x, y, c, R2.rd2, (hv.mono R1 t2).vw ex, hu.vw ey, e1, k g2 H2 R2 .refl .refl t2 _ (.bl c)⟩
  · unfold evT at k
    have k := Post.dat k
    unfold ev at k
    refine Post.mono (Post.dat k) fun va g1 s1 H1 _ R1 t1 k v hv => ?_
    obtain ⟨x, ex, k⟩ := k t1
    refine ⟨p, g1, s1, R1, Post.mono (Post.dat k) fun vb g2 s2 H2 _ R2 t2 k u hu => ?_⟩
    obtain ⟨y, ey, k⟩ := k t2
    obtain ⟨r, er, k⟩ := Post.orBad k
    simp only [Option.map_eq_some_iff] at er
    obtain ⟨c, e1, e2⟩ := er
    subst e2
    refine ⟨p, g2, x, y, c, R2.rd2, (hv.mono R1 t2).vw ex, hu.vw ey, e1, c, rfl, ?_⟩
    obtain ⟨z, ez, k⟩ := k g2 H2 R2 .refl .refl t2 (t1.trans t2)
    cases ez
    exact k g2 H2 R2 .refl .refl
/-- a test that is asked as a value -/
theorem snd_test {c : E} {e : Expr} (h : PE X e (tE X.K q W c)) (he : ∀ whole, isTrue e X.env whole = (do let v ← whole; standAt e.pos; holding [v] (truthy v))) : PT X e (tT X.K q W c) := by
  refine PT.imp (pt_val h he) fun σ H Q ⟨p, g, s, R, k⟩ => ⟨p, g, s, R, ?_⟩
  unfold evT at k
  refine Post.mono (Post.dat k) fun va g1 s1 H1 _ R1 t1 k v hv => ?_
  obtain ⟨x, ex, k⟩ := k t1
  cases x <;> first | exact k.elim | skip
  rename_i b
  cases (hv.vw ex).bl
  exact ⟨b, rfl, k g1 H1 R1 .refl .refl⟩
theorem snd_neg {a : E} {ea : Expr} {pos : Pos} (ha : PE X ea (tE X.K q W a)) : PE X (.UnaryOp .USub ea pos) (tE X.K q W (.neg a)) := by
  refine PE.imp (pe_un un_neg ha) fun σ H Q ⟨p, g, s, R, k⟩ => ⟨p, g, s, R, ?_⟩
  unfold ev at k
  refine Post.mono (Post.dat k) fun va g1 s1 H1 _ R1 t1 k v hv => ?_
  obtain ⟨x, ex, k⟩ := k t1
  cases x <;> first | exact k.elim | skip
  cases (hv.vw ex).int
  exact ⟨_, rfl, k g1 H1 R1 .refl .refl _ (.int _)⟩
theorem snd_isn {a : E} {ea : Expr} {pos p2 : Pos} {j : Nat} (ha : PE X ea (tE X.K q W a)) : PE X (.Compare ea [.Is] [.Constant .none j p2] pos) (tE X.K q W (.isn a)) ∧ PT X (.Compare ea [.Is] [.Constant .none j p2] pos) (tT X.K q W (.isn a)) := by
  have key : ∀ {v : V} {x : D} {Hp : Hp} {P : Addr → Prop}, Vw X.K Hp P v x → decide (v = V.non) = isNon x := fun {v x Hp P} h => by
    cases x with
    | non => rw [h.non]; rfl
    | _ => exact decide_eq_false (h.notNon (by simp))
  refine ⟨PE.imp (pe_cmp (pc_isN ha)) fun σ H Q ⟨p, g, s, R, k⟩ => ⟨p, g, s, R, ?_⟩, PT.imp (pt_cmp (pc_isN ha)) fun σ H Q ⟨p, g, s, R, k⟩ => ⟨p, g, s, R, ?_⟩⟩
  · unfold ev at k
    refine Post.mono (Post.dat k) fun va g1 s1 H1 _ R1 t1 k v hv => ?_
    obtain ⟨x, ex, k⟩ := k t1
    rw [key (hv.vw ex)]
    exact k g1 H1 R1 .refl .refl _ (.bl _)
  · unfold evT at k
    have k := Post.dat k
    unfold ev at k
    refine Post.mono (Post.dat k) fun va g1 s1 H1 _ R1 t1 k v hv => ?_
    obtain ⟨x, ex, k⟩ := k t1
    obtain ⟨z, ez, k⟩ := k g1 H1 R1 .refl .refl t1
    cases ez
    refine ⟨_, by rw [key (hv.vw ex)], k g1 H1 R1 .refl .refl⟩
theorem snd_isnn {a : E} {ea : Expr} {pos p2 : Pos} {j : Nat} (ha : PE X ea (tE X.K q W a)) : PE X (.Compare ea [.IsNot] [.Constant .none j p2] pos) (tE X.K q W (.isnn a)) ∧ PT X (.Compare ea [.IsNot] [.Constant .none j p2] pos) (tT X.K q W (.isnn a)) := by
  have key : ∀ {v : V} {x : D} {Hp : Hp} {P : Addr → Prop}, Vw X.K Hp P v x → (!decide (v = V.non)) = !isNon x := fun {v x Hp P} h => by
    cases x with
    | non => rw [h.non]; rfl
    | _ => rw [decide_eq_false (h.notNon (by simp))]; rfl
  refine ⟨PE.imp (pe_cmp (pc_notN ha)) fun σ H Q ⟨p, g, s, R, k⟩ => ⟨p, g, s, R, ?_⟩, PT.imp (pt_cmp (pc_notN ha)) fun σ H Q ⟨p, g, s, R, k⟩ => ⟨p, g, s, R, ?_⟩⟩
  · unfold ev at k
    refine Post.mono (Post.dat k) fun va g1 s1 H1 _ R1 t1 k v hv => ?_
    obtain ⟨x, ex, k⟩ := k t1
    rw [key (hv.vw ex)]
    exact k g1 H1 R1 .refl .refl _ (.bl _)
  · unfold evT at k
    have k := Post.dat k
    unfold ev at k
    refine Post.mono (Post.dat k) fun va g1 s1 H1 _ R1 t1 k v hv => ?_
    obtain ⟨x, ex, k⟩ := k t1
    obtain ⟨z, ez, k⟩ := k g1 H1 R1 .refl .refl t1
    cases ez
    refine ⟨_, by rw [key (hv.vw ex)], k g1 H1 R1 .refl .refl⟩
theorem snd_not {a : E} {ea : Expr} {pos : Pos} (ha : PE X ea (tE X.K q W a)) (ht : PT X ea (tT X.K q W a)) : PE X (.UnaryOp .Not ea pos) (tE X.K q W (.not a)) ∧ PT X (.UnaryOp .Not ea pos) (tT X.K q W (.not a)) := by
  refine ⟨PE.imp (pe_not ha) fun σ H Q ⟨p, g, s, R, k⟩ => ⟨p, g, s, R, ?_⟩, PT.imp (pt_not ht) fun σ H Q ⟨p, g, s, R, k⟩ => ⟨p, g, s, R, ?_⟩⟩
  · unfold ev at k
    refine Post.mono (Post.dat k) fun va g1 s1 H1 _ R1 t1 k v hv => ?_
    obtain ⟨x, ex, k⟩ := k t1
    cases x <;> first | exact k.elim | skip
    cases (hv.vw ex).bl
    exact ⟨_, rfl, k g1 H1 R1 .refl .refl _ (.bl _)⟩
  · rw [evT_not] at k
    exact Post.mono (Post.bind k) fun b g1 s1 H1 _ R1 t1 k => k t1 g1 H1 R1 .refl .refl
theorem snd_lend {a : E} {ea : Expr} (ha : PE X ea (tE X.K q W a)) (ht : PT X ea (tT X.K q W a)) : PE X ea (tE X.K q W (.lend a)) ∧ PT X ea (tT X.K q W (.lend a)) := by
  refine ⟨PE.imp ha fun σ H Q ⟨p, g, s, R, k⟩ => ⟨p, g, s, R, ?_⟩, PT.imp ht fun σ H Q ⟨p, g, s, R, k⟩ => ⟨p, g, s, R, ?_⟩⟩
  · unfold ev at k
    cases e : ev a s with
    | bad => rw [e] at k; exact k
    | exc y s1 => rw [e] at k; exact k
    | ok r s1 =>
      rw [e] at k
      cases r <;> first | exact False.elim k | skip
      rename_i x
      dsimp only at k
      by_cases n : x.nol = true
      · rw [if_pos n] at k
        exact fun g' H' R' t' v hv => k _ H' (R.lend R' t').1 (R.lend R' t').2 v (Rp.nolist hv n)
      · rw [if_neg n] at k
        exact False.elim k
  · unfold evT ev at k
    unfold evT
    cases e : ev a s with
    | bad => rw [e] at k; exact k
    | exc y s1 => rw [e] at k; exact k
    | ok r s1 =>
      rw [e] at k
      cases r <;> first | exact False.elim k | skip
      rename_i x
      dsimp only at k
      by_cases n : x.nol = true
      · rw [if_pos n] at k
        cases x <;> first | exact False.elim k | skip
        exact fun g' H' R' t' => k _ H' (R.lend R' t').1 (R.lend R' t').2
      · rw [if_neg n] at k
        exact False.elim k
theorem snd_one {a : E} {ea : Expr} {pos : Pos} {op : BoolOp} (ha : PE X ea (tE X.K q W a)) (ht : PT X ea (tT X.K q W a)) : PE X (.BoolOp op [ea] pos) (tE X.K q W (.one a)) ∧ PW X (.BoolOp op [ea] pos) (tT X.K q W (.one a)) := by
  refine ⟨PE.imp (pe_one ha) fun σ H Q ⟨p, g, s, R, k⟩ => ⟨p, g, s, R, by rw [ev_one] at k; exact k⟩, ?_⟩
  cases op
  · exact PW.imp (pw_and1 ht) fun σ H Q ⟨p, g, s, R, k⟩ => ⟨p, g, s, R, by rw [evT_one] at k; exact k⟩
  · exact PW.imp (pw_or1 ht) fun σ H Q ⟨p, g, s, R, k⟩ => ⟨p, g, s, R, by rw [evT_one] at k; exact k⟩
theorem snd_and {a b : E} {ea eb : Expr} {es : List Expr} {pos : Pos} (ha : PE X ea (tE X.K q W a)) (ht : PT X ea (tT X.K q W a)) (hb : PE X (.BoolOp .And (eb :: es) pos) (tE X.K q W b)) (hw : PW X (.BoolOp .And (eb :: es) pos) (tT X.K q W b)) :
    PE X (.BoolOp .And (ea :: eb :: es) pos) (tE X.K q W (.and a b)) ∧ PW X (.BoolOp .And (ea :: eb :: es) pos) (tT X.K q W (.and a b)) := by
  refine ⟨PE.imp (pe_and ha hb) fun σ H Q ⟨p, g, s, R, k⟩ => ⟨p, g, s, R, ?_⟩, PW.imp (pw_and ht hw) fun σ H Q ⟨p, g, s, R, k⟩ => ⟨p, g, s, R, ?_⟩⟩
  · unfold ev at k
    refine Post.mono (Post.dat k) fun va g1 s1 H1 _ R1 t1 k v hv => ?_
    obtain ⟨x, ex, k⟩ := k t1
    cases x <;> first | exact k.elim | skip
    rename_i bb
    cases (hv.vw ex).bl
    refine ⟨bb, rfl, ?_⟩
    cases bb with
    | true => exact ⟨p, g1, s1, R1, Post.mono k fun vb g2 s2 H2 _ R2 t2 k u hu => k t2 u (hu.back fun a z => t1.free z)⟩
    | false => exact k g1 H1 R1 .refl .refl _ (.bl _)
  · rw [evT_and] at k
    refine Post.mono (Post.bind k) fun b g1 s1 H1 _ R1 t1 k => ?_
    cases b with
    | true => exact ⟨p, g1, s1, R1, Post.mono (k t1) fun vb g2 s2 H2 _ R2 t2 k => k t2⟩
    | false => exact k t1 g1 H1 R1 .refl .refl
theorem snd_or {a b : E} {ea eb : Expr} {es : List Expr} {pos : Pos} (ha : PE X ea (tE X.K q W a)) (ht : PT X ea (tT X.K q W a)) (hb : PE X (.BoolOp .Or (eb :: es) pos) (tE X.K q W b)) (hw : PW X (.BoolOp .Or (eb :: es) pos) (tT X.K q W b)) :
    PE X (.BoolOp .Or (ea :: eb :: es) pos) (tE X.K q W (.or a b)) ∧ PW X (.BoolOp .Or (ea :: eb :: es) pos) (tT X.K q W (.or a b)) := by
  refine ⟨PE.imp (pe_or ha hb) fun σ H Q ⟨p, g, s, R, k⟩ => ⟨p, g, s, R, ?_⟩, PW.imp (pw_or ht hw) fun σ H Q ⟨p, g, s, R, k⟩ => ⟨p, g, s, R, ?_⟩⟩
  · unfold ev at k
    refine Post.mono (Post.dat k) fun va g1 s1 H1 _ R1 t1 k v hv => ?_
    obtain ⟨x, ex, k⟩ := k t1
    cases x <;> first | exact k.elim | skip
    rename_i bb
    cases (hv.vw ex).bl
    refine ⟨bb, rfl, ?_⟩
    cases bb with
    | false => exact ⟨p, g1, s1, R1, Post.mono k fun vb g2 s2 H2 _ R2 t2 k u hu => k t2 u (hu.back fun a z => t1.free z)⟩
    | true => exact k g1 H1 R1 .refl .refl _ (.bl _)
  · rw [evT_or] at k
    refine Post.mono (Post.bind k) fun b g1 s1 H1 _ R1 t1 k => ?_
    cases b with
    | false => exact ⟨p, g1, s1, R1, Post.mono (k t1) fun vb g2 s2 H2 _ R2 t2 k => k t2⟩
    | true => exact k t1 g1 H1 R1 .refl .refl
theorem pt_ite {c a b : Expr} {tc ta tb : TT} {pos : Pos} (hc : PT X c tc) (ha : PT X a ta) (hb : PT X b tb) : PT X (.IfExp c a b pos) (fun σ H Q => tc σ H fun k H1 => if k = true then ta σ H1 Q else tb σ H1 Q) := by
  constructor
  intro pins s σ H Q I h
  rw [isTrue_ite]
  refine wpAny_bind (thn (hc.run pins s σ H _ I h) fun d s1 ⟨H1, I1, q1⟩ => ?_)
  cases d with
  | true => exact ha.run pins s1 σ H1 Q I1 q1
  | false => exact hb.run pins s1 σ H1 Q I1 q1
theorem snd_ite {c a b : E} {ec ea eb : Expr} {pos : Pos} (hc : PT X ec (tT X.K q W c)) (ha : PE X ea (tE X.K q W a)) (hta : PT X ea (tT X.K q W a)) (hb : PE X eb (tE X.K q W b)) (htb : PT X eb (tT X.K q W b)) :
    PE X (.IfExp ec ea eb pos) (tE X.K q W (.ite c a b)) ∧ PT X (.IfExp ec ea eb pos) (tT X.K q W (.ite c a b)) := by
  refine ⟨PE.imp (pe_ifExp hc ha hb) fun σ H Q ⟨p, g, s, R, k⟩ => ⟨p, g, s, R, ?_⟩, PT.imp (pt_ite hc hta htb) fun σ H Q ⟨p, g, s, R, k⟩ => ⟨p, g, s, R, ?_⟩⟩
  · rw [ev_ite] at k
    refine Post.mono (Post.bind k) fun d g1 s1 H1 _ R1 t1 k => ?_
    cases d with
    | true => exact ⟨p, g1, s1, R1, Post.mono (k t1) fun vb g2 s2 H2 _ R2 t2 k u hu => k t2 u (hu.back fun a z => t1.free z)⟩
    | false => exact ⟨p, g1, s1, R1, Post.mono (k t1) fun vb g2 s2 H2 _ R2 t2 k u hu => k t2 u (hu.back fun a z => t1.free z)⟩
  · rw [evT_ite] at k
    refine Post.mono (Post.bind k) fun d g1 s1 H1 _ R1 t1 k => ?_
    cases d with
    | true => exact ⟨p, g1, s1, R1, Post.mono (k t1) fun vb g2 s2 H2 _ R2 t2 k => k t2⟩
    | false => exact ⟨p, g1, s1, R1, Post.mono (k t1) fun vb g2 s2 H2 _ R2 t2 k => k t2⟩
end
end MI

namespace MI
open PySem L2

/-! ### calls of methods, as they are evaluated -/
theorem ev_mcall {y m : Str} {yp apos pos : Pos} {es : List Expr} {env : Env} : eval (.Call (.Attribute (.Name y yp) m apos) es [] pos) env = (do
      let ov ← eval (.Name y yp) env
      standAt apos.atName
      methodCall (.Name y yp) m apos pos env ov es.length (backTo pos (starEach es env)) (backToKw pos (keywordEach [] env))) := by rfl
theorem ev_mcall2 {y m : Str} {yp apos pos : Pos} {es : List Expr} {env : Env} (h1 : allStar es = true) (h2 : es.length < 30) (h3 : (apos.endLine == pos.line) = true) : eval (.Call (.Attribute (.Name y yp) m apos) es [] pos) env = (do
      let ov ← eval (.Name y yp) env
      standAt apos.atName
      let (f, first) ← holding [ov] (getMethod ov m (plainOf (.Name y yp) env))
      callWith pos f first (backTo pos (starEach es env)) (backToKw pos (keywordEach [] env))) := by
  rw [ev_mcall]
  have hf : methodCallForm es.length (backTo pos (starEach es env)) (backToKw pos (keywordEach [] env)) = true := by
    unfold methodCallForm
    have : (backTo pos (starEach es env)).all (fun x => !x.1) = true := by
      rw [List.all_eq_not_any_not]
      simp only [Bool.not_not]
      rw [star_none h1]; rfl
    rw [this]
    show (true && true && decide (es.length + 0 < 30)) = true
    simpa using h2
  congr 1
  funext ov
  congr 1
  funext _
  exact mcall_line hf h3
/-! ### an exception's __init__: the class above's, then fields that keep the arguments -/
def iniA (N : List Str) (sc : Scope) : Nat → List Str → List Stmt → Bool
  | _, [], sts => sts.isEmpty
  | i, f :: fl, sts => match sts with
    | .Assign [.Attribute (.Name y _) m _] (.Name z _) _ :: sts => vis N sc 0 y && (vis N sc i z && (decide (m = f) && iniA N sc (i + 1) fl sts))
    | _ => false
def iniB (S : Str) (N : List Str) (sc : Scope) (fl : List Str) : List Stmt → Bool
  | .Expr (.Call (.Attribute (.Name x _) m ap) [.Name y _, .Constant (.str _) _ _] [] cp) _ :: sts => (ap.endLine == cp.line) && (decide (x = S) && (glo sc x && (decide (m = "__init__") && (vis N sc 0 y && iniA N sc 1 fl sts))))
  | _ => false
def tIn (K : PySem.W.Frag) : Nat → List Str → TS
  | _, [] => tNext
  | i, f :: fl => tSeq (tOst K f (tVar 0) (tVar i)) (tIn K (i + 1) fl)
section
variable {q : Bs} {X : Cx} {W : L2.WX} {sc : Scope} {N : List Str}
theorem iniA_ok (C : CO q X W sc N) : ∀ (fl : List Str) (i : Nat) (sts : List Stmt), iniA N sc i fl sts = true → PSs X sts (tIn X.K i fl)
  | [], i, sts, h => by
    have : sts = [] := by simpa [iniA] using h
    subst this
    exact pss_nil
  | f :: fl, i, sts, h => by
    unfold iniA at h
    split at h <;> first | exact absurd h Bool.false_ne_true | skip
    simp only [Bool.and_eq_true, decide_eq_true_eq] at h
    obtain ⟨h1, h2, rfl, h3⟩ := h
    obtain ⟨v1, v2, v3, v4⟩ := C.vis h1
    obtain ⟨u1, u2, u3, u4⟩ := C.vis h2
    exact pss_cons (ps_ost (pe_var v1 v2 v3 v4) (pe_var u1 u2 u3 u4)) (iniA_ok C fl (i + 1) _ h3)
end
section
variable {K : PySem.W.Frag} {a C : Addr} {D : Ends} {σ : L2.St}
theorem upd_upd {H : Hp} {b : Addr} {o u : HO} : upd (upd H b o) b u = upd H b u := by
  funext c
  by_cases h : c = b
  · rw [h, upd_same, upd_same]
  · rw [upd_ne h, upd_ne h, upd_ne h]
theorem upd_id {H : Hp} {b : Addr} {o : HO} (h : H b = some o) : upd H b o = H := by
  funext c
  by_cases e : c = b
  · rw [e, upd_same, h]
  · rw [upd_ne e]
theorem tIn_old (T : OexC K C) (h0 : σ[0]? = some (some (.ref a))) : ∀ (fl : List Str) (i : Nat) (ys : List V) (acc : List (Str × V)) (dx : Addr) (H : Hp), H a = some (exo a C (some dx)) → H dx = some (exd dx acc) → acc.length + fl.length ≤ 900 → fl.length = ys.length → dx ≠ a →
    (∀ (j : Nat) (y : V), ys[j]? = some y → σ[i + j]? = some (some y)) → (∀ f ∈ fl, PySem.W.findIn K (.ref C) f = some none) → D.nx σ (upd H dx (exd dx ((fl.zip ys).reverse ++ acc))) → tIn K i fl D σ H
  | [], i, ys, acc, dx, H, ea, ed, hl, hy, hn, hs, hf, k => by
    have k' : D.nx σ (upd H dx (exd dx acc)) := k
    rw [upd_id ed] at k'
    exact k'
  | f :: fl, i, [], acc, dx, H, ea, ed, hl, hy, hn, hs, hf, k => by cases hy
  | f :: fl, i, y :: ys, acc, dx, H, ea, ed, hl, hy, hn, hs, hf, k => by
    have hl' : acc.length + (fl.length + 1) ≤ 900 := hl
    refine ⟨y, hs 0 y rfl, .ref a, h0, a, C, rfl, T, hf f List.mem_cons_self, .inr ⟨dx, acc, ea, ed, by omega, ?_⟩⟩
    refine tIn_old T h0 fl (i + 1) ys ((f, y) :: acc) dx _ ?_ upd_same (by rw [List.length_cons]; omega) (Nat.succ.inj hy) hn (fun j z e => ?_) (fun g hg => hf g (List.mem_cons_of_mem _ hg)) ?_
    · rw [upd_ne (Ne.symm hn)]; exact ea
    · have := hs (j + 1) z (by simpa using e)
      rw [show i + 1 + j = i + (j + 1) by omega]
      exact this
    · rw [upd_upd]
      have e : ((f :: fl).zip (y :: ys)).reverse ++ acc = (fl.zip ys).reverse ++ (f, y) :: acc := by
        rw [List.zip_cons_cons, List.reverse_cons, List.append_assoc]
        rfl
      rw [← e]
      exact k
theorem tIn_new (T : OexC K C) (h0 : σ[0]? = some (some (.ref a))) (f : Str) (fl : List Str) (i : Nat) (ys : List V) (H : Hp) (ea : H a = some (exo a C none)) (hl : (f :: fl).length ≤ 900) (hy : (f :: fl).length = ys.length)
    (hs : ∀ (j : Nat) (y : V), ys[j]? = some y → σ[i + j]? = some (some y)) (hf : ∀ g ∈ f :: fl, PySem.W.findIn K (.ref C) g = some none)
    (k : ∀ dx, H dx = none → dx ≠ a → D.nx σ (upd (upd H a (exo a C (some dx))) dx (exd dx ((f :: fl).zip ys).reverse))) : tIn K i (f :: fl) D σ H := by
  cases ys with
  | nil => cases hy
  | cons y ys =>
    have hl' : fl.length + 1 ≤ 900 := hl
    refine ⟨y, hs 0 y rfl, .ref a, h0, a, C, rfl, T, hf f List.mem_cons_self, .inl ⟨ea, fun dx hn hne => ?_⟩⟩
    have k := k dx hn hne
    refine tIn_old T h0 fl (i + 1) ys [(f, y)] dx _ upd_same (by rw [upd_ne hne]; exact upd_same) (by simp; omega) (Nat.succ.inj hy) hne (fun j z e => ?_) (fun g hg => hf g (List.mem_cons_of_mem _ hg)) ?_
    · have := hs (j + 1) z (by simpa using e)
      rw [show i + 1 + j = i + (j + 1) by omega]
      exact this
    · have e : ((f :: fl).zip (y :: ys)).reverse = (fl.zip ys).reverse ++ [(f, y)] := by rw [List.zip_cons_cons, List.reverse_cons]
      rw [e] at k
      have e2 : ∀ o : HO, upd (upd (upd H dx (exd dx [(f, y)])) a (exo a C (some dx))) dx o = upd (upd H a (exo a C (some dx))) dx o := fun o => by
        funext b
        by_cases h1 : b = dx
        · rw [h1, upd_same, upd_same]
        · rw [upd_ne h1, upd_ne h1]
          by_cases h2 : b = a
          · rw [h2, upd_same, upd_same]
          · rw [upd_ne h2, upd_ne h2, upd_ne h1]
      rw [e2]
      exact k
end
/-- what such an __init__ does -/
def spI (K : PySem.W.Frag) (fl : List Str) : Sp := fun vs H Q _ => ∃ (a C : Addr) (ws : List V), vs = .ref a :: ws ∧ ws.length = fl.length ∧ OexC K C ∧ (∀ g ∈ fl, PySem.W.findIn K (.ref C) g = some none) ∧ H a = some (exo a C none) ∧
  ∀ dx, H dx = none → dx ≠ a → Q .non (upd (upd H a (exo a C (some dx))) dx (exd dx (fl.zip ws).reverse))
section
variable {P : Program} {w : World} {K : PySem.W.Frag} {mg : Str → Option Value} {base : Heap} {x qual S : Str} {params : Arguments} {body : List Stmt} {scope : Scope} {f SA : Addr} {fd : FuncData} {q : Bs}
theorem start_at {N : List Str} {vs : List V} {i : Nat} {v : V} (h : vs[i]? = some v) : (L2.start N vs)[i]? = some (some v) := by
  unfold L2.start
  rw [List.getElem?_append_left (by rw [List.length_map]; exact (List.getElem?_eq_some_iff.mp h).1), List.getElem?_map, h]
  rfl
theorem init_ok {N ps : List Str} {fl : List Str} (F : FunD K x qual params body scope [] [] f fd) (Sc : FnScope N ps scope) (hfl : fl ≠ []) (hl : ps.length = fl.length + 1) (hl2 : fl.length ≤ 900) (h1 : 1 ≤ q.k) (hb : ∀ x ∈ q.blts, mg x = none) (hpw : q.pr = P ∧ q.w = w) (hm : mg S = some (.ref SA)) (B : Base1 K SA) (hcd : q.cd = none)
    (hc : iniB S N scope fl body = true) : FnOk P w K mg base (L2.CX P w) (q.k + 1) f fd ps (spI K fl) := by
  refine F.ok Sc (fun vs H Q E ⟨a, C, ws, e1, e2, _⟩ => by rw [e1, List.length_cons, e2, hl]) fun cdv A outer s H vs Q E hr h => ?_
  have C : CO q (cxOf (L2.CX P w) P w K mg base N qual scope f cdv A outer s H E) (fun cls d _ H' => E cls d H') scope N := ⟨rfl, rfl, rfl, Sc.nd, takes_of rfl rfl rfl rfl, passes_of rfl, hr, h1, hb, hpw.1, hpw.2, fun p e => by rw [hcd] at e; cases e⟩
  unfold iniB at hc
  split at hc <;> first | exact absurd hc Bool.false_ne_true | skip
  simp only [Bool.and_eq_true, decide_eq_true_eq] at hc
  obtain ⟨hp, rfl, g1, rfl, g2, g3⟩ := hc
  obtain ⟨gl, db⟩ := C.glo g1
  obtain ⟨v1, v2, v3, v4⟩ := C.vis g2
  refine ⟨_, pss_cons (ps_expr (pe_upinit gl hm B (pa_cons (pe_var v1 v2 v3 v4) (pa_cons pe_str pa_nil)) db (ev_mcall2 rfl (show 2 < 30 by decide) hp))) (iniA_ok C fl 1 _ g3), ?_⟩
  obtain ⟨a, Ca, ws, rfl, e2, T, e3, e4, k⟩ := h
  refine ⟨.ref a, start_at rfl, a, Ca, [.str _], rfl, by simp, T, e4, ?_⟩
  cases fl with
  | nil => exact absurd rfl hfl
  | cons f0 fl => exact tIn_new T (start_at rfl) f0 fl 1 ws H e4 hl2 e2.symm (fun j y e => start_at (by rw [show 1 + j = j + 1 by omega]; exact e)) e3 fun dx d1 d2 => k dx d1 d2
end
/-- the reading of C(e, ..) -/
def tMkX (C : Addr) (fl : List Str) (ta : TA) : L2.St → Hp → XK → Prop := fun σ H Q => ta σ H fun vs H1 => vs.length = fl.length ∧ ∀ dx, H1 dx = none → Q (.ref C) (some dx) (upd H1 dx (.xd (fl.zip vs).reverse))
section
variable {X : Cx} {e : Expr} {es : List Expr} {ta : TA} {p pos : Pos} {x : Str} {C fI : Addr} {k : Nat} {fd : FuncData} {ps fl : List Str}
theorem pmk_x {CX : CXT} (T : OexC X.K C) (nf : ∀ g ∈ fl, PySem.W.findIn X.K (.ref C) g = some none) (hl2 : fl.length ≤ 900) (iC : PySem.W.findIn X.K (.ref C) "__init__" = some (some (.ref fI))) (tyI : PySem.W.typeIn X.K (.ref fI) = some (.type "function"))
    (F1 : FnOk X.prog X.w X.K X.mg X.base CX k fI fd ps (spI X.K fl)) (hr : Room (k + 1) X.A) (hb : Binds X.K fd ps []) (hx : Passes CX X (fun _ _ _ => False)) (hg : Gl X x) (hm : X.mg x = some (.ref C)) (ha : PA X (e :: es) ta)
    (hdb : (x == ("__debug__" : Str)) = false) (he : starEach (e :: es) X.env = (false, eval e X.env) :: starEach es X.env) (hpl : (backTo pos (starEach es X.env)).any (·.1) = false) :
    PMk X (.Call (.Name x p) (e :: es) [] pos) (tMkX C fl ta) := by
  intro pins s σ H Q I h
  have ha' : PA X (e :: es) (fun σ H Q' => ∃ Q : List V → Hp → Prop, ta σ H Q ∧ ∀ vs H1, Q vs H1 → Q' vs H1) := ⟨fun pos pins s σ H Q' I ⟨Q, h, m⟩ => thn (ha.run pos pins s σ H Q I h) fun us s1 ⟨vs, H1, I1, r1, q1⟩ => ⟨vs, H1, I1, r1, m _ _ q1⟩⟩
  refine pmk_oex (dvs := []) T iC tyI F1 hr hb .nil hx hg hm ha' hdb he hpl pins s σ H Q I ⟨_, h, fun vs H1 ⟨hl, k⟩ => ⟨by omega, fun a hn => ⟨a, C, vs, by rw [List.append_nil], hl, T, nf, upd_same, fun dx d1 d2 => ⟨rfl, dx, (fl.zip vs).reverse, ?_, upd_same, ?_, ?_⟩⟩⟩⟩
  · rw [upd_ne (Ne.symm d2)]; exact upd_same
  · rw [upd_ne d2] at d1; exact d1
  · rw [upd_ne d2] at d1
    have e : upd (del (upd (upd (upd H1 a (exo a C none)) a (exo a C (some dx))) dx (exd dx (fl.zip vs).reverse)) a) dx (.xd (fl.zip vs).reverse) = upd H1 dx (.xd (fl.zip vs).reverse) := by
      funext b
      by_cases h1 : b = dx
      · rw [h1, upd_same, upd_same]
      · rw [upd_ne h1, upd_ne h1]
        by_cases h2 : b = a
        · rw [h2, del_same, hn]
        · rw [del_ne h2, upd_ne h1, upd_ne h2, upd_ne h2]
    rw [e]
    exact k dx d1
end
end MI

namespace MI
open PySem L2

/-! ### what a def promises -/
abbrev g0 (m : List Addr) : G := ⟨fun _ => none, m⟩
theorem pp0 (F : Fx) (m : List Addr) : PP F (g0 m) = F.P0 := funext fun a => propext ⟨fun h => h.elim id (fun ⟨_, z⟩ => nomatch z), Or.inl⟩
/-- the heap behind a call -/
structure Aft (m : List Addr) (H : Hp) (m' : List Addr) (H' : Hp) : Prop where
  keep : ∀ (b : Addr) (o : HO), H b = some o → b ∉ m → ¬ isTb o → H' b = some o
  tb : ∀ (a : Addr) (n : Str), TbS H a n → TbS H' a n
  dom : ∀ (b : Addr) (o : HO), H b = some o → ∃ o', H' b = some o'
  pre : ∃ r, m' = m ++ r ∧ ∀ a ∈ r, H a = none
def spF (K : PySem.W.Frag) (q : Bs) (f : Fn) : Sp := fun vs H Q E => ∃ (P0 : Addr → Prop) (m : List Addr) (S : Store) (args : List Slot), (∀ a, P0 a → ∃ o, H a = some o ∧ isLD o) ∧ (∀ p ∈ q.tb, TbS H p.1 p.2) ∧ StR K q.cl q.flds P0 m S H ∧ ArgsR (FX K q ⟨P0, m, H⟩) (g0 m) H vs args ∧
  match f S args with
  | .ok r S' => ∀ v H' m', StR K q.cl q.flds P0 m' S' H' → Aft m H m' H' → EVR (FX K q ⟨P0, m, H⟩) (g0 m') H H' v r → Q v H'
  | .exc e S' => ∀ C d H' m', StR K q.cl q.flds P0 m' S' H' → Aft m H m' H' → ExR (FX K q ⟨P0, m, H⟩) (g0 m') H' C d e → E C d H'
  | .bad => False
structure FnK (P : Program) (w : World) (K : PySem.W.Frag) (mg : Str → Option Value) (base : Heap) (q : Bs) (x : Str) (f : Fn) : Prop where
  ex : ∃ a fd ps j, mg x = some (.ref a) ∧ PySem.W.keepIn K (.ref a) = true ∧ Binds K fd ps [] ∧ j ≤ q.k ∧ FnOk P w K mg base (L2.CX P w) j a fd ps (spF K q f)
structure ConK (K : PySem.W.Frag) (mg : Str → Option Value) (x : Str) (d : D) : Prop where
  ex : ∃ v u, mg x = some u ∧ RelV v u ∧ ∀ (H : Hp) (P : Addr → Prop), Rp K H P v d
structure MtK (P : Program) (w : World) (K : PySem.W.Frag) (mg : Str → Option Value) (base : Heap) (q : Bs) (c : Nat) (x : Str) (f : Fn) : Prop where
  cl : Cls K (q.cl c)
  nof : x ∉ q.flds
  ex : ∃ a fd ps j, Meth K (q.cl c) x a ∧ Binds K fd ps [] ∧ j ≤ q.k ∧ FnOk P w K mg base (L2.CX P w) j a fd ps (spF K q f)
structure NwK (P : Program) (w : World) (K : PySem.W.Frag) (mg : Str → Option Value) (base : Heap) (q : Bs) (c : Nat) (x : Str) (f : Fn) : Prop where
  hmg : mg x = some (.ref (q.cl c))
  ex : ∃ a fd ps j, Mk K (q.cl c) a ∧ Binds K fd ps [] ∧ j + 1 ≤ q.k ∧ FnOk P w K mg base (L2.CX P w) j a fd ps (spF K q f)
structure FlK (K : PySem.W.Frag) (q : Bs) (c f : Nat) : Prop where
  cl : Cls K (q.cl c)
  no : ∀ x, q.flds[f]? = some x → NoAttr K (q.cl c) x
/-- an exception's class that is raised: its __init__ keeps the arguments in fields -/
structure RsK (P : Program) (w : World) (K : PySem.W.Frag) (mg : Str → Option Value) (base : Heap) (q : Bs) (c : List Nat) (ks : List (List Nat)) : Prop where
  hmg : mg (sS c) = some (.ref (He.ga K (sS c)))
  oex : OexC K (He.ga K (sS c))
  no : ∀ g ∈ ks.map sS, PySem.W.findIn K (.ref (He.ga K (sS c))) g = some none
  hl : (ks.map sS).length ≤ 900
  ex : ∃ fI fd ps j, PySem.W.findIn K (.ref (He.ga K (sS c))) "__init__" = some (some (.ref fI)) ∧ PySem.W.typeIn K (.ref fI) = some (.type "function") ∧ Binds K fd ps [] ∧ j + 1 ≤ q.k ∧ FnOk P w K mg base (L2.CX P w) j fI fd ps (spI K (ks.map sS))
structure Gd where
  fn : Nat → Fn → Prop
  con : Nat → D → Prop
  new : Nat → Nat → Fn → Prop
  mth : Nat → Nat → Fn → Prop
  fld : Nat → Nat → Prop
  tnm : List Nat → Prop
  isx : List Nat → List Nat → Bool → Prop
  xfl : List Nat → List Nat → Prop
  exm : List Nat → List Nat → Bool → Prop
  hnm : List Nat → Prop
  rse : List Nat → List (List Nat) → Prop
  lam : Prop
/-- a class that isinstance asks for -/
def tvX (K : PySem.W.Frag) (t : List Nat) : Value := if sS t = "ValueError" then .type "ValueError" else .ref (He.ga K (sS t))
structure TnK (K : PySem.W.Frag) (mg : Str → Option Value) (t : List Nat) : Prop where
  ve : sS t = "ValueError" → mg (sS t) = none
  own : sS t ≠ "ValueError" → mg (sS t) = some (.ref (He.ga K (sS t)))
structure IxK (K : PySem.W.Frag) (c t : List Nat) (b : Bool) : Prop where
  x : XCls K (He.ga K (sS c))
  is : PySem.W.kitOne K (.ref (He.ga K (sS c))) (tvX K t) = some b
structure XfK (K : PySem.W.Frag) (c f : List Nat) : Prop where
  x : XCls K (He.ga K (sS c))
  no : PySem.W.findIn K (.ref (He.ga K (sS c))) (sS f) = some none
abbrev gdX (P : Program) (w : World) (K : PySem.W.Frag) (mg : Str → Option Value) (base : Heap) (q : Bs) : Gd where
  fn := fun n f => ∃ x, q.fns[n]? = some x ∧ FnK P w K mg base q x f
  con := fun n d => ∃ x, q.cons[n]? = some x ∧ ConK K mg x d
  new := fun n c f => ∃ x, q.cls[c]? = some x ∧ NwK P w K mg base q c x f
  mth := fun n c f => ∃ x, q.fns[n]? = some x ∧ MtK P w K mg base q c x f
  fld := fun c f => FlK K q c f
  tnm := fun t => TnK K mg t
  isx := fun c t b => IxK K c t b
  xfl := fun c f => XfK K c f
  exm := fun c t b => PySem.W.exmOne K (.ref (He.ga K (sS c))) (.ref (He.ga K (sS t))) = some b
  hnm := fun t => mg (sS t) = some (.ref (He.ga K (sS t)))
  rse := fun c ks => RsK P w K mg base q c ks
  lam := ∃ p, q.cd = some p ∧ LamX.TabB base mg p.1 p.2 ∧ (p.2, LN) ∈ q.tb
def GoodE (d : Gd) : E → Prop
  | .glo n x => d.con n x
  | .bin _ a b => GoodE d a ∧ GoodE d b
  | .neg a => GoodE d a
  | .cmp _ a b => GoodE d a ∧ GoodE d b
  | .chn _ _ a b c => GoodE d a ∧ GoodE d b ∧ GoodE d c
  | .isn a => GoodE d a
  | .isnn a => GoodE d a
  | .lend a => GoodE d a
  | .not a => GoodE d a
  | .and a b => GoodE d a ∧ GoodE d b
  | .or a b => GoodE d a ∧ GoodE d b
  | .one a => GoodE d a
  | .ite c a b => GoodE d c ∧ GoodE d a ∧ GoodE d b
  | .tup a => GoodE d a
  | .lst a => GoodE d a
  | .cons a as => GoodE d a ∧ GoodE d as
  | .ix a i => GoodE d a ∧ GoodE d i
  | .sl a l h => GoodE d a ∧ GoodE d l ∧ GoodE d h
  | .call n f as => d.fn n f ∧ GoodE d as
  | .fnv nm => d.hnm nm
  | .cax a fs as => GoodE d a ∧ (∀ p ∈ fs, d.fn p.1 p.2.2 ∧ d.hnm p.2.1) ∧ GoodE d as
  | .cal _ fs as => (∀ p ∈ fs, d.fn p.1 p.2.2 ∧ d.hnm p.2.1) ∧ GoodE d as
  | .new n c f as => d.new n c f ∧ GoodE d as
  | .mth n _ c f as => d.mth n c f ∧ GoodE d as
  | .fld _ c f => d.fld c f
  | .blt _ as => GoodE d as
  | .isi a _ => GoodE d a
  | .bm _ a as => GoodE d a ∧ GoodE d as
  | .com _ _ it c e => GoodE d it ∧ GoodE d c ∧ GoodE d e
  | .un _ a => GoodE d a
  | .lr1 a => GoodE d a
  | .stp a b => GoodE d a ∧ GoodE d b
  | .dqe _ a b => GoodE d a ∧ GoodE d b
  | .din _ k _ => GoodE d k
  | .dgt a b c => GoodE d a ∧ GoodE d b ∧ GoodE d c
  | .lr2 a b => GoodE d a ∧ GoodE d b
  | .srk a _ => d.lam ∧ GoodE d a
  | .isx a t yes no => d.tnm t ∧ (∀ c ∈ yes, d.isx c t true) ∧ (∀ c ∈ no, d.isx c t false) ∧ GoodE d a
  | .xf a f cs => (∀ c ∈ cs, d.xfl c f) ∧ GoodE d a
  | .rg3 a b _ => GoodE d a ∧ GoodE d b
  | .it a => GoodE d a
  | .rg1 a => GoodE d a
  | .rg2 a b => GoodE d a ∧ GoodE d b
  | .zip a b => GoodE d a ∧ GoodE d b
  | .rev a => GoodE d a
  | _ => True

section
variable {F : Fx} {g : G} {s : State} {σ : L2.St} {H H' : Hp}
/-- behind a call -/
theorem RS.called (R : RS F g s σ H) {m' : List Addr} {S' : Store} (A : Aft g.m H m' H') (st : StR F.K F.cl F.fn (PP F g) m' S' H') : RS F ⟨g.own, m'⟩ ⟨s.r, S'⟩ σ H' ∧ StE g H ⟨g.own, m'⟩ H' := by
  have t : StE g H ⟨g.own, m'⟩ H' := ⟨A.keep, A.tb, A.dom, fun _ _ h => h, A.pre⟩
  have k := R.kpE t
  have kl : ∀ {a : Addr} {o : HO}, isLD o → H a = some o → H' a = some o := fun {a o} l h => A.keep a o h (notIns R.ins h (ld_ni l)) (ld_nt l)
  refine ⟨⟨R.len, fun i x e => ?_, fun i x e => ?_, fun i j e => ?_, fun i ks e => let ⟨v, e1, h⟩ := R.dc i ks e; ⟨v, e1, h.mono k⟩, R.inj, fun i a e => ?_, fun a e => ?_, fun b o h n nt => ?_, fun b o h => ?_, fun p hp => A.tb _ _ (R.tb p hp), R.i0, ?_, st⟩, t⟩
  · obtain ⟨v, h1, h2⟩ := R.sl i x e
    exact ⟨v, h1, h2.mono k⟩
  · obtain ⟨a, h1, h2, h3⟩ := R.ow i x e
    exact ⟨a, h1, h2, h3.mono k fun o l z => kl l z⟩
  · obtain ⟨a, h1, h2⟩ := R.ob i j e
    obtain ⟨r, e1, _⟩ := A.pre
    refine ⟨a, ?_, h2⟩
    show m'[j]? = some a
    rw [e1, List.getElem?_append_left (List.getElem?_eq_some_iff.mp h1).1]
    exact h1
  · obtain ⟨h1, h2, o, h3, h4⟩ := R.own i a e
    exact ⟨h1, h2, o, kl h4 h3, h4⟩
  · obtain ⟨o, h3, h4⟩ := R.p0 a e
    exact ⟨o, kl h4 h3, h4⟩
  · have h1 := R.k0 b o h n nt
    refine A.keep b o h1 (fun z => ?_) nt
    obtain ⟨r, e1, n1⟩ := R.pre
    rw [e1] at z
    rcases List.mem_append.mp z with z | z
    · exact n z
    · rw [n1 b z] at h; cases h
  · obtain ⟨o1, e1⟩ := R.d0 b o h
    exact A.dom b o1 e1
  · obtain ⟨r, e1, n1⟩ := R.pre
    obtain ⟨r2, e2, n2⟩ := A.pre
    refine ⟨r ++ r2, by show m' = _; rw [e2, e1, List.append_assoc], fun b hb => ?_⟩
    rcases List.mem_append.mp hb with z | z
    · exact n1 b z
    · cases h : F.H0 b with
      | none => rfl
      | some o =>
        by_cases hm : b ∈ F.m0
        · obtain ⟨u, e3, _⟩ := R.ins b (by rw [e1]; exact List.mem_append_left _ hm)
          rw [n2 b z] at e3; cases e3
        · have := n2 b z
          obtain ⟨o1, e1⟩ := R.d0 b o h
          rw [e1] at this; cases this
end
/-- a call of f with the arguments told -/
theorem spF_of {K : PySem.W.Frag} {q : Bs} {p : Pv} {g : G} {s : State} {σ : L2.St} {H : Hp} {W : L2.WX} {f : Fn} {vs : List V} {args : List Slot} {Q : VK} {k : EV → G → State → Hp → Prop} (R : RS (FX K q p) g s σ H) (ha : ArgsR (FX K q p) g H vs args)
    (h : Post (FX K q p) W g σ H (callF f args s) k) (hQ : ∀ r g' s' H', RS (FX K q p) g' s' σ H' → StE g H g' H' → k r g' s' H' → ∀ v, EVR (FX K q p) g' H H' v r → Q v H') : spF K q f vs H Q (fun C d H' => W C d σ H') := by
  have e0 : PP (FX K q ⟨PP (FX K q p) g, g.m, H⟩) (g0 g.m) = PP (FX K q p) g := pp0 _ _
  refine ⟨PP (FX K q p) g, g.m, s.S, args, R.ld, R.tb, R.st, ?_, ?_⟩
  · have : ∀ {vs : List V} {xs : List Slot}, ArgsR (FX K q p) g H vs xs → ArgsR (FX K q ⟨PP (FX K q p) g, g.m, H⟩) (g0 g.m) H vs xs := fun {vs xs} h => by
      induction h with
      | nil => exact .nil
      | @cons v x vs xs h1 h2 ih =>
        refine .cons ?_ ih
        cases x with
        | u => exact h1
        | d ks => exact h1
        | o j => exact h1
        | v y b =>
          cases b with
          | true => exact h1
          | false =>
            show Rp K H (PP (FX K q ⟨PP (FX K q p) g, g.m, H⟩) (g0 g.m)) v y
            rw [e0]; exact h1
    exact this ha
  · unfold callF at h
    cases e : f s.S args with
    | bad => rw [e] at h; exact h
    | exc x S' =>
      rw [e] at h
      intro C d H' m' st A ex
      obtain ⟨R', t⟩ := R.called A st
      refine h ⟨g.own, m'⟩ H' C d R' t ?_
      obtain ⟨e1, e2⟩ := ex
      refine ⟨e1, e2.imp id fun ⟨dx, vs, z1, z2, z4, z5, z3⟩ => ⟨dx, vs, z1, z2, z4, z5, ?_⟩⟩
      have e0' : PP (FX K q ⟨PP (FX K q p) g, g.m, H⟩) (g0 m') = PP (FX K q p) ⟨g.own, m'⟩ := (pp0 _ _).trans rfl
      rw [e0'] at z3
      exact z3
    | ok r S' =>
      rw [e] at h
      intro v H' m' st A er
      obtain ⟨R', t⟩ := R.called A st
      refine hQ r ⟨g.own, m'⟩ _ H' R' t (h ⟨g.own, m'⟩ H' R' t) v ?_
      have e0' : PP (FX K q ⟨PP (FX K q p) g, g.m, H⟩) (g0 m') = PP (FX K q p) ⟨g.own, m'⟩ := (pp0 _ _).trans rfl
      cases r with
      | sh x =>
        show Rp K H' (PP (FX K q p) ⟨g.own, m'⟩) v x
        rw [← e0']; exact er
      | fr x =>
        obtain ⟨a, z1, z2, z3, z4⟩ := er
        rw [e0'] at z3 z4
        exact ⟨a, z1, z2, z3, z4⟩
      | bo x =>
        show Vw K H' (PP (FX K q p) ⟨g.own, m'⟩) v x
        rw [← e0']; exact er
      | ob j => exact er
      | ft x y =>
        obtain ⟨u, v1, v2, z1, z2, z3, z4, z5⟩ := er
        refine ⟨u, v1, v2, z1, z2, z3, ?_, ?_⟩
        · show Rp K H' (PP (FX K q p) ⟨g.own, m'⟩) v2 y
          rw [← e0']; exact z4
        · rcases z5 with ⟨n, r⟩ | ⟨n, a, y1, y2, y3, y4⟩
          · left
            refine ⟨n, ?_⟩
            show Rp K H' (PP (FX K q p) ⟨g.own, m'⟩) v1 x
            rw [← e0']; exact r
          · right
            rw [e0'] at y3 y4
            exact ⟨n, a, y1, y2, y3, y4⟩
section
variable {q : Bs} {X : Cx} {W : L2.WX} {sc : Scope} {N : List Str}
theorem snd_nilA : PA X [] (tA X.K q W .nil) ∧ PA X [] (tL X.K q W .nil) :=
  ⟨PA.imp pa_nil fun σ H Q ⟨p, g, s, R, k⟩ => by unfold evA at k; exact k g H R .refl _ .nil, PA.imp pa_nil fun σ H Q ⟨p, g, s, R, k⟩ => by unfold evL at k; exact k g H R .refl _ .nil⟩
theorem VwA.mono {F : Fx} {g g' : G} {s : State} {σ : L2.St} {H H' : Hp} (R : RS F g s σ H) (t : StE g H g' H') : ∀ {vs : List V} {xs : List D}, VwA F g H vs xs → VwA F g' H' vs xs
  | _, _, .nil => .nil
  | _, _, .cons h q => .cons (h.mono R t) (VwA.mono R t q)
theorem snd_consA {a as : E} {e : Expr} {es : List Expr} (hs : notStar e = true) (ha : PE X e (tE X.K q W a)) (hA : PA X es (tA X.K q W as)) (hL : PA X es (tL X.K q W as)) : PA X (e :: es) (tA X.K q W (.cons a as)) ∧ PA X (e :: es) (tL X.K q W (.cons a as)) := by
  refine ⟨PA.imp (pa_cons ha hA (starEach_cons hs)) fun σ H Q ⟨p, g, s, R, k⟩ => ⟨p, g, s, R, ?_⟩, PA.imp (pa_cons ha hL (starEach_cons hs)) fun σ H Q ⟨p, g, s, R, k⟩ => ⟨p, g, s, R, ?_⟩⟩
  · unfold evA at k
    refine Post.mono (Post.bind k) fun va g1 s1 H1 _ R1 t1 k v hv => ?_
    have k := k t1
    cases e : va.slot with
    | none => rw [e] at k; exact k.elim
    | some x =>
      rw [e] at k
      exact ⟨p, g1, s1, R1, Post.mono (Post.bind k) fun xs g2 s2 H2 _ R2 t2 k vs hvs => k t2 g2 H2 R2 .refl .refl t2 _ (.cons ((hv.arg e).mono R1 t2) hvs)⟩
  · unfold evL at k
    refine Post.mono (Post.dat k) fun va g1 s1 H1 _ R1 t1 k v hv => ?_
    obtain ⟨x, ex, k⟩ := k t1
    exact ⟨p, g1, s1, R1, Post.mono (Post.bind k) fun xs g2 s2 H2 _ R2 t2 k vs hvs => k t2 g2 H2 R2 .refl .refl t2 _ (.cons ((hv.vw ex).mono R1 t2) hvs)⟩
theorem evA_len : ∀ (c : E) (s : State) (xs : List Slot) (s' : State) (es : List Expr), evA c s = .ok xs s' → chkA q N sc c es = true → xs.length = es.length
  | .nil, s, xs, s', es, h, k => by
    have : es = [] := by simpa [chkA] using k
    subst this
    unfold evA at h
    cases h; rfl
  | .cons a as, s, xs, s', [], h, k => by simp [chkA] at k
  | .cons a as, s, xs, s', e :: es, h, k => by
    have k' : (notStar e && chkE q N sc a e && chkA q N sc as es) = true := k
    unfold evA at h
    cases e1 : ev a s with
    | bad => rw [e1] at h; cases h
    | exc x s1 => rw [e1] at h; cases h
    | ok v s1 =>
      rw [e1] at h
      cases e2 : v.slot with
      | none => simp only [R.bind, e2] at h; cases h
      | some x =>
        cases e3 : evA as s1 with
        | bad => simp only [R.bind, e2, e3] at h; cases h
        | exc y s2 => simp only [R.bind, e2, e3] at h; cases h
        | ok ys s2 =>
          simp only [R.bind, e2, e3] at h
          cases h
          rw [List.length_cons, List.length_cons, evA_len as _ _ _ es e3 (ba k').2]
theorem small1000 {n : Nat} (h : n ≤ 1000) : n ≤ sizeLine := Nat.le_trans h (by decide)
theorem snd_tup {as : E} {es : List Expr} {n : Nat} {pos : Pos} (h : chkA q N sc as es = true) (hl : es.length ≤ 1000) (hA : PA X es (tA X.K q W as)) : PE X (.Tuple es n pos) (tE X.K q W (.tup as)) ∧ PE X (.List es pos) (tE X.K q W (.lst as)) := by
  refine ⟨PE.imp (pe_tup hA) fun σ H Q ⟨p, g, s, R, k⟩ => ⟨p, g, s, R, ?_⟩, PE.imp (pe_lst hA) fun σ H Q ⟨p, g, s, R, k⟩ => ⟨p, g, s, R, ?_⟩⟩
  all_goals
    unfold ev at k
    refine Post.mono (Post.bind k) fun xs g1 s1 H1 e R1 t1 k vs hvs => ⟨?_, fun b hb => ?_⟩
    · rw [hvs.length, evA_len as _ _ _ es e h]; exact small1000 hl
    obtain ⟨r, er, k⟩ := Post.orBad (k t1)
    simp only [Option.map_eq_some_iff] at er
    obtain ⟨ds, e1, rfl⟩ := er
    have rr := fun o => (hvs.dats e1).mono (R1.rd2.kpa (o := o) hb)
  · exact k g1 _ (R1.alloc hb) (StE.refl.alloc hb) (StE.refl.alloc hb) _ (.tup (.of upd_same) ((rr _).anti fun _ => .inl))
  · exact k g1 _ (R1.alloc hb) (StE.refl.alloc hb) (StE.refl.alloc hb) _ ⟨b, rfl, t1.free hb, R1.rd2.np hb, _, upd_same, rr _⟩
theorem snd_ix {a i : E} {ea ei : Expr} {pos : Pos} (hn : notSlice ei = true) (ha : PE X ea (tE X.K q W a)) (hi : PE X ei (tE X.K q W i)) : PE X (.Subscript ea ei pos) (tE X.K q W (.ix a i)) := by
  refine PE.imp (pe_ix (op_ix q) ha hi (plainIx' hn)) fun σ H Q ⟨p, g, s, R, k⟩ => ⟨p, g, s, R, ?_⟩
  unfold ev at k
  refine Post.mono (Post.dat k) fun va g1 s1 H1 _ R1 t1 k v hv => ?_
  obtain ⟨x, ex, k⟩ := k t1
  refine ⟨p, g1, s1, R1, Post.mono (Post.dat k) fun vb g2 s2 H2 _ R2 t2 k u hu => ?_⟩
  obtain ⟨y, ey, k⟩ := k t2
  obtain ⟨r, er, k⟩ := Post.orBad k
  simp only [Option.map_eq_some_iff] at er
  obtain ⟨z, e1, rfl⟩ := er
  exact ⟨p, g2, x, y, z, R2.rd2, (hv.mono R1 t2).vw ex, hu.vw ey, e1, fun v' H' gr e => k g2 H' (R2.grow gr.same) (gr_stE gr) (gr_stE gr) (t2.grow gr.same) v' (e.back fun a z => t1.free (t2.free z))⟩
theorem snd_omit : PO X none (tO X.K q W .gap) := PO.imp po_none fun σ H Q ⟨p, g, s, R, k⟩ => by unfold evO at k; exact k g H R .refl
theorem snd_part {a : E} {e : Expr} (ha : PE X e (tE X.K q W a)) : PO X (some e) (tO X.K q W (.one a)) := by
  refine PO.imp (po_some ha) fun σ H Q ⟨p, g, s, R, k⟩ => ⟨p, g, s, R, ?_⟩
  unfold evO at k
  refine Post.mono (Post.dat k) fun va g1 s1 H1 _ R1 t1 k v hv => ?_
  obtain ⟨x, ex, k⟩ := k t1
  cases x <;> first | exact k.elim | skip
  cases (hv.vw ex).int
  exact ⟨_, rfl, k g1 H1 R1 .refl .refl⟩
theorem snd_sl {a lo hi : E} {ea : Expr} {l h : Option Expr} {p2 pos : Pos} (ha : PE X ea (tE X.K q W a)) (hl : PO X l (tO X.K q W lo)) (hh : PO X h (tO X.K q W hi)) : PE X (.Subscript ea (.Slice l h none p2) pos) (tE X.K q W (.sl a lo hi)) := by
  refine PE.imp (pe_slice (op_sl q) ha hl hh) fun σ H Q ⟨p, g, s, R, k⟩ => ⟨p, g, s, R, ?_⟩
  unfold ev at k
  refine Post.mono (Post.dat k) fun va g1 s1 H1 _ R1 t1 k v hv => ?_
  obtain ⟨x, ex, k⟩ := k t1
  refine ⟨p, g1, s1, R1, Post.mono (Post.bind k) fun o1 g2 s2 H2 _ R2 t2 k => ?_⟩
  refine ⟨p, g2, s2, R2, Post.mono (Post.bind (k t2)) fun o2 g3 s3 H3 _ R3 t3 k => ?_⟩
  obtain ⟨r, er, k⟩ := Post.orBad (k t3)
  exact ⟨p, g3, x, r, R3.rd2, ((hv.mono R1 t2).mono R2 t3).vw ex, er, fun v' H' gr e => k g3 H' (R3.grow gr.same) (gr_stE gr) (gr_stE gr) (t3.grow gr.same) ((t2.trans t3).grow gr.same) v' (e.back fun a z => t1.free (t2.free (t3.free z)))⟩
theorem snd_glo (C : CO q X W sc N) {n : Nat} {d : D} {e : Expr} (h : chkE q N sc (.glo n d) e = true) (hg : GoodE (gdX X.prog X.w X.K X.mg X.base q) (.glo n d)) : PE X e (tE X.K q W (.glo n d)) := by
  cases e <;> first | cases h | skip
  rename_i x pos
  obtain ⟨h1, h2⟩ := ba (show (glo sc x && decide (q.cons[n]? = some x)) = true from h)
  obtain ⟨y, e1, e2⟩ := hg
  rw [dec h2] at e1
  cases e1
  obtain ⟨v, u, m, r, k⟩ := e2.ex
  obtain ⟨gl, db⟩ := C.glo h1
  exact PE.imp (pe_glob gl m r db) fun σ H Q ⟨p, g, s, R, kk⟩ => kk g H R .refl v (k H _)
theorem snd_call (C : CO q X W sc N) {n : Nat} {f : Fn} {as : E} {x : Str} {p1 pos : Pos} {ea : Expr} {es : List Expr} (h1 : glo sc x = true) (h2 : q.fns[n]? = some x) (h3 : chkA q N sc as (ea :: es) = true) (hg : ∃ x, q.fns[n]? = some x ∧ FnK X.prog X.w X.K X.mg X.base q x f)
    (hA : PA X (ea :: es) (tA X.K q W as)) : PE X (.Call (.Name x p1) (ea :: es) [] pos) (tE X.K q W (.call n f as)) := by
  obtain ⟨y, e1, e2⟩ := hg
  rw [h2] at e1
  cases e1
  obtain ⟨a, fd, ps, j, m, kp, b, hj, ok⟩ := e2.ex
  obtain ⟨gl, db⟩ := C.glo h1
  obtain ⟨st1, st2⟩ := ba (show (notStar ea && allStar es) = true from chkA_star h3)
  refine PE.imp (pe_callSD ok (C.room.mono hj) gl m kp b .nil (fun σ => passAt C.tk σ) hA db (starEach_cons st1) (star_none st2)) fun σ H Q ⟨p, g, s, R, k⟩ => ⟨p, g, s, R, ?_⟩
  unfold ev at k
  refine Post.mono (Post.bind k) fun xs g1 s1 H1 e R1 t1 k vs hvs => ?_
  show spF X.K q f (vs ++ []) H1 Q _
  rw [List.append_nil]
  exact spF_of R1 hvs (k t1) fun r g' s' H' R' t' z v ev => z t' v (ev.back fun a z => t1.free z)
theorem boot_b (b : Blt) : bootBuiltins (bname b) = some (bval b) := by cases b <;> (simp only [bname, bval]; decide +kernel)
theorem snd_blt (C : CO q X W sc N) {b : Blt} {as : E} {x : Str} {p1 pos : Pos} {ea : Expr} {es : List Expr} (h1 : glo sc x = true) (h2 : x = bname b) (hm : x ∈ q.blts) (h3 : chkA q N sc as (ea :: es) = true) (hL : PA X (ea :: es) (tL X.K q W as)) : PE X (.Call (.Name x p1) (ea :: es) [] pos) (tE X.K q W (.blt b as)) := by
  obtain ⟨gl, db⟩ := C.glo h1
  obtain ⟨st1, st2⟩ := ba (show (notStar ea && allStar es) = true from chkA_star h3)
  have hv : bootBuiltins x = some (bval b) := by rw [h2]; exact boot_b b
  have hn : x ≠ "__name__" := by rw [h2]; cases b <;> (simp only [bname]; decide +kernel)
  have key : PE X (.Call (.Name x p1) (ea :: es) [] pos) (tCB (rBlt X.K q b) (tL X.K q W as)) := by
    have cr := op_blt (X := X) q b C.calm C.u65
    cases b
    all_goals first
      | exact pe_callB cr gl (C.blt x hm) hv hL hn db (starEach_cons st1) (star_none st2)
      | exact pe_callTy cr gl (C.blt x hm) hv hL hn db (starEach_cons st1) (star_none st2)
  refine PE.imp key fun σ H Q ⟨p, g, s, R, k⟩ => ⟨p, g, s, R, ?_⟩
  unfold ev at k
  refine Post.mono (Post.bind k) fun xs g1 s1 H1 e R1 t1 k vs hvs => ?_
  obtain ⟨r, er, k⟩ := Post.orBad (k t1)
  exact ⟨p, g1, xs, r, R1.rd2, hvs, er, fun v' H' gr e => k g1 H' (R1.grow gr.same) (gr_stE gr) (gr_stE gr) v' (e.back fun a z => t1.free z)⟩
theorem snd_isi (C : CO q X W sc N) {a : E} {t : Ty} {x y : Str} {p1 p2 pos : Pos} {ea : Expr} (h1 : glo sc x = true) (h2 : glo sc y = true) (h3 : x = "isinstance") (h4 : y = tname t) (m1 : x ∈ q.blts) (m2 : y ∈ q.blts) (hs : notStar ea = true) (ha : PE X ea (tE X.K q W a)) :
    PE X (.Call (.Name x p1) [ea, .Name y p2] [] pos) (tE X.K q W (.isi a t)) := by
  obtain ⟨gl, db⟩ := C.glo h1
  obtain ⟨gl2, db2⟩ := C.glo h2
  have hv : bootBuiltins y = some (.type (tyS t)) := by rw [h4]; cases t <;> (simp only [tname, tyS]; decide +kernel)
  have hn : y ≠ "__name__" := by rw [h4]; cases t <;> (simp only [tname]; decide +kernel)
  have hv1 : bootBuiltins x = some (.builtin "isinstance") := by rw [h3]; decide +kernel
  have hn1 : x ≠ "__name__" := by rw [h3]; decide +kernel
  have py : PE X (.Name y p2) (tC (.ty (tyS t))) := pe_bltn gl2 (C.blt y m2) hv rfl hn db2
  refine PE.imp (pe_callB call_isi gl (C.blt x m1) hv1 (pa_cons ha (pa_cons py pa_nil) (starEach_cons hs)) hn1 db (starEach_cons hs) rfl) fun σ H Q ⟨p, g, s, R, k⟩ => ⟨p, g, s, R, ?_⟩
  unfold ev at k
  refine Post.mono (Post.dat k) fun va g1 s1 H1 _ R1 t1 k v hv => ?_
  obtain ⟨z, ez, k⟩ := k t1
  by_cases ho : z.obj = true
  · rw [if_pos ho] at k; exact k.elim
  rw [if_neg ho] at k
  exact ⟨v, .ty (tyS t), .type (tyD z), .type (tyS t), isiD t z, rfl, .ty _, (hv.vw ez).ty (by simpa using ho), isi_kit t z, k g1 H1 R1 .refl .refl _ (.bl _)⟩
theorem idx_py (x : D) : ∀ (ys : List D) (j : Nat), idxD x ys = some j → ∃ z, (D.pys ys)[j]? = some z ∧ PyData.eqv z x.py = true ∧ ∀ (m : Nat) (z' : PyData), m < j → (D.pys ys)[m]? = some z' → PyData.eqv z' x.py = false
  | [], _, h => nomatch h
  | y :: ys, j, h => by
    unfold idxD at h
    by_cases e : D.eqv y x = true
    · rw [if_pos e] at h
      cases h
      exact ⟨y.py, by simp [D.pys], by rw [eqv_py]; exact e, fun m _ hm => absurd hm (Nat.not_lt_zero m)⟩
    · rw [if_neg e] at h
      obtain ⟨i, hi, rfl⟩ := Option.map_eq_some_iff.mp h
      obtain ⟨z, h1, h2, h3⟩ := idx_py x ys i hi
      refine ⟨z, by simpa [D.pys] using h1, h2, fun m z' hm hz => ?_⟩
      cases m with
      | zero =>
        simp [D.pys] at hz
        subst hz
        rw [eqv_py]
        simpa using e
      | succ m => exact h3 m z' (by omega) (by simpa [D.pys] using hz)
theorem tyLh {v : V} {xs : List D} {F : Fx} {g : G} {H : Hp} (h : Vw F.K H (PP F g) v (.lst xs)) : ∃ a, v = .ref a ∧ tyV F.K "list" v H := by
  obtain ⟨a, us, rfl, h1, _⟩ := h.lst
  exact ⟨a, rfl, .inl ⟨rfl, us, .of h1⟩⟩
/-- name.index(e) -/
theorem snd_bm (C : CO q X W sc N) {a as : E} {x m : Str} {p1 ap cp : Pos} {ei : Expr} (hm : m = "index") (h3 : chkA q N sc as [ei] = true) (hl : (ap.endLine == cp.line) = true) (ho : PE X (.Name x p1) (tE X.K q W a)) (hL : PA X [ei] (tL X.K q W as)) :
    PE X (.Call (.Attribute (.Name x p1) m ap) [ei] [] cp) (tE X.K q W (.bm .index a as)) := by
  subst hm
  obtain ⟨st1, _⟩ := ba (show (notStar ei && allStar []) = true from chkA_star h3)
  have sE := starEach_cons (es := []) (env := X.env) st1
  refine PE.imp (pe_bm PySem.F.plainAttrs_list PySem.F.slot_list_index PySem.F.type_list_index (mt_indexD C.u65) ho hL (by rfl) (by rw [sE]; rfl) hl sE (by rfl)) fun σ H Q ⟨p, g, s, R, k⟩ => ⟨p, g, s, R, ?_⟩
  unfold ev at k
  refine Post.mono (Post.dat k) fun va g1 s1 H1 _ R1 t1 k v hv => ?_
  obtain ⟨z, ez, k⟩ := k t1
  cases z <;> first | exact k.elim | skip
  rename_i ys
  obtain ⟨a0, _, ty⟩ := tyLh (hv.vw ez)
  refine ⟨ty, p, g1, s1, R1, Post.mono (Post.bind k) fun xs g2 s2 H2 _ R2 t2 k vs hvs => ?_⟩
  obtain ⟨r, er, k⟩ := Post.orBad (k t2)
  unfold bmeth at er
  split at er <;> first | (cases er; done) | skip
  rename_i ys' y0 _ 
  split at er <;> first | (cases er; done) | skip
  rename_i kk
  rw [Bool.and_eq_true] at kk
  obtain ⟨j, hj, rfl⟩ := Option.map_eq_some_iff.mp er
  obtain ⟨z, h1, h2, h3⟩ := idx_py _ _ _ hj
  cases hvs with
  | cons hu ht =>
    cases ht
    have hvv := ((hv.mono R1 t2).vw ez)
    obtain ⟨a1, rfl, _⟩ := tyLh hvv
    exact ⟨a1, _, _, _, j, z, rfl, rfl, hvv.dp kk.2, hu.dp kk.1, okd_list kk.2, shaped_py kk.1, h1, h2, h3, k g2 H2 R2 .refl .refl t2 _ (.int _)⟩
end
section
variable {q : Bs} {X : Cx} {W : L2.WX} {sc : Scope} {N : List Str}
theorem rp_exn {K : PySem.W.Frag} {H : Hp} {P : Addr → Prop} {v : V} {c : List Nat} {ks : List (List Nat)} {vs : List D} (h : Vw K H P v (.exn c ks vs)) : ∃ (a : Addr) (d : Option Addr), v = .ref a ∧ H a = some (EXN (.ref (He.ga K (sS c))) d a) ∧ DictOf H d ∧
    ((d = none ∧ ks = [] ∧ vs = []) ∨ ∃ (dx : Addr) (ws : List (Str × V)), d = some dx ∧ H dx = some (.xd ws) ∧ ws.map (·.1) = ks.map sS ∧ RpA K H P (ws.map (·.2)) vs) := by
  rcases h with h | ⟨_, _, h⟩
  · cases h with
    | exn0 h => exact ⟨_, none, rfl, h, .inl rfl, .inl ⟨rfl, rfl, rfl⟩⟩
    | exnd h h2 e n r => exact ⟨_, some _, rfl, h, .inr ⟨_, _, rfl, h2⟩, .inr ⟨_, _, rfl, h2, e, r⟩⟩
  · exact h.elim
theorem snd_isx (C : CO q X W sc N) {a : E} {t : List Nat} {yes no : List (List Nat)} {x y : Str} {p1 p2 pos : Pos} {ea : Expr} (h1 : glo sc x = true) (h2 : glo sc y = true) (h3 : x = "isinstance") (h4 : y = sS t) (m1 : x ∈ q.blts) (hs : notStar ea = true)
    (hg : GoodE (gdX X.prog X.w X.K X.mg X.base q) (.isx a t yes no)) (ha : PE X ea (tE X.K q W a)) : PE X (.Call (.Name x p1) [ea, .Name y p2] [] pos) (tE X.K q W (.isx a t yes no)) := by
  obtain ⟨gl, db⟩ := C.glo h1
  obtain ⟨gl2, db2⟩ := C.glo h2
  have hv1 : bootBuiltins x = some (.builtin "isinstance") := by rw [h3]; decide +kernel
  have hn1 : x ≠ "__name__" := by rw [h3]; decide +kernel
  obtain ⟨g1, g2, g3, _⟩ := hg
  subst h4
  have g1 : TnK X.K X.mg t := g1
  have g2 : ∀ c ∈ yes, IxK X.K c t true := g2
  have g3 : ∀ c ∈ no, IxK X.K c t false := g3
  have py : ∃ c : V, PE X (.Name (sS t) p2) (tC c) ∧ ∀ u, RelV c u → u = tvX X.K t := by
    by_cases hve : sS t = "ValueError"
    · refine ⟨.ty "ValueError", pe_bltn gl2 (g1.ve hve) ?_ rfl ?_ db2, fun u hu => ?_⟩
      · rw [hve]; decide +kernel
      · rw [hve]; decide +kernel
      · unfold tvX; rw [if_pos hve]; exact hu
    · exact ⟨.ref (He.ga X.K (sS t)), pe_glob gl2 (g1.own hve) rfl db2, fun u hu => by unfold tvX; rw [if_neg hve]; exact hu⟩
  obtain ⟨cv, py, hcv⟩ := py
  refine PE.imp (pe_callB call_isX gl (C.blt x m1) hv1 (pa_cons ha (pa_cons py pa_nil) (starEach_cons hs)) hn1 db (starEach_cons hs) rfl) fun σ H Q ⟨p, g, s, R, k⟩ => ⟨p, g, s, R, ?_⟩
  unfold ev at k
  refine Post.mono (Post.dat k) fun va g1 s1 H1 _ R1 t1 k v hv => ?_
  obtain ⟨z, ez, k⟩ := k t1
  cases z <;> first | exact k.elim | skip
  rename_i c ks vs
  dsimp only at k
  obtain ⟨b, d, rfl, e1, e2, _⟩ := rp_exn (hv.vw ez)
  split at k
  · next hm =>
    have f := g2 c hm
    exact ⟨b, He.ga X.K (sS c), d, cv, tvX X.K t, true, rfl, f.x, e1, e2, hcv, f.is, k g1 H1 R1 .refl .refl _ (.bl _)⟩
  · split at k
    · next hm =>
      have f := g3 c hm
      exact ⟨b, He.ga X.K (sS c), d, cv, tvX X.K t, false, rfl, f.x, e1, e2, hcv, f.is, k g1 H1 R1 .refl .refl _ (.bl _)⟩
    · exact k.elim
theorem lookup_zip {K : PySem.W.Frag} {H : Hp} {P : Addr → Prop} {f : List Nat} {y : D} : ∀ {ks : List (List Nat)} {ws : List (Str × V)} {vs : List D}, ws.map (·.1) = ks.map sS → RpA K H P (ws.map (·.2)) vs → (ks.zip vs).lookup f = some y → ∃ v, ws.lookup (sS f) = some v ∧ Rp K H P v y
  | [], ws, vs, e, r, l => by simp at l
  | k :: ks, [], vs, e, r, l => by simp at e
  | k :: ks, (n, w) :: ws, [], e, r, l => by cases r
  | k :: ks, (n, w) :: ws, v :: vs, e, r, l => by
    simp only [List.map_cons, List.cons.injEq] at e
    obtain ⟨rfl, e⟩ := e
    cases r with
    | cons r1 r2 =>
      rw [List.zip_cons_cons, List.lookup_cons] at l
      rw [List.lookup_cons]
      by_cases h : f = k
      · subst h
        simp only [beq_self_eq_true] at l ⊢
        cases l
        exact ⟨w, rfl, r1⟩
      · have h2 : sS f ≠ sS k := fun z => h (sS_inj z)
        rw [show (f == k) = false from beq_eq_false_iff_ne.mpr h] at l
        rw [show (sS f == sS k) = false from beq_eq_false_iff_ne.mpr h2]
        exact lookup_zip e r2 l
theorem xf_reads {K : PySem.W.Frag} {a : E} {f : List Nat} {cs : List (List Nat)} (hg : ∀ c ∈ cs, XfK K c f) {σ : L2.St} {H : Hp} {Q : VK} (h : tE K q W (.xf a f cs) σ H Q) : tXfT K (sS f) (tE K q W a) σ H Q := by
  obtain ⟨p, g, s, R, k⟩ := h
  refine ⟨p, g, s, R, ?_⟩
  unfold ev at k
  refine Post.mono (Post.dat k) fun va g1 s1 H1 _ R1 t1 k v hv => ?_
  obtain ⟨z, ez, k⟩ := k t1
  cases z <;> first | exact k.elim | skip
  rename_i c ks vs
  dsimp only at k
  obtain ⟨b, d, rfl, e1, e2, e3⟩ := rp_exn (hv.vw ez)
  split at k
  · next hm =>
    have fx := hg c hm
    obtain ⟨r, er, k⟩ := Post.orBad k
    simp only [Option.map_eq_some_iff] at er
    obtain ⟨y, l, rfl⟩ := er
    rcases e3 with ⟨_, rfl, rfl⟩ | ⟨dx, ws, rfl, w1, w2, w3⟩
    · simp at l
    · obtain ⟨u, l2, ru⟩ := lookup_zip w2 w3 l
      exact ⟨b, He.ga K (sS c), dx, ws, u, rfl, fx.x, fx.no, e1, w1, l2, k g1 H1 R1 .refl .refl u ru⟩
  · exact k.elim
theorem snd_xf {a : E} {f : List Nat} {cs : List (List Nat)} {ea : Expr} {m : Str} {pos : Pos} (hm : m = sS f) (hb : isNameE ea = true) (hg : GoodE (gdX X.prog X.w X.K X.mg X.base q) (.xf a f cs)) (ha : PE X ea (tE X.K q W a)) : PE X (.Attribute ea m pos) (tE X.K q W (.xf a f cs)) := by
  subst hm
  refine PE.imp (pe_xfT ha ?_) fun σ H Q h => xf_reads hg.1 h
  cases ea <;> first | rfl | cases hb
end
end MI

namespace MI
open PySem L2

/-! ### calls: of defs, methods, classes, with any arguments -/
section
variable {q : Bs} {X : Cx} {W : L2.WX} {sc : Scope} {N : List Str}
theorem chkA_nil {as : E} (h : chkA q N sc as [] = true) : as = .nil := by
  cases as <;> first | rfl | (exact absurd h (by simp [chkA]))
/-- f(..) runs: the callee found, its arguments, at any place behind them -/
theorem call_run {a : Addr} {fd : FuncData} {ps : List Str} {j : Nat} {f : Fn} (C : CO q X W sc N) (ok : FnOk X.prog X.w X.K X.mg X.base (L2.CX X.prog X.w) j a fd ps (spF X.K q f)) (hj : j ≤ q.k) (b : Binds X.K fd ps []) {pins : List (Addr × Obj)} {σ : L2.St} {H : Hp} {s : Shared} {Q : VK} {us : List Value} {vs : List V}
    (I : Inv X pins σ H s) (r : Vals vs us) (h : spF X.K q f vs H Q (fun cls d H' => W cls d σ H')) : wpAny (model X.prog X.w) X.A (call (.ref a) us) (EP X pins σ Q) X.xe s :=
  run_fnSD (E := WE W) (dvs := []) ok (C.room.mono hj) b .nil (passAt C.tk σ) I r (by rw [List.append_nil]; exact h)
theorem call_with {pos : Pos} {first : List Value} {v : Value} {as : E} {es : List Expr} (C : CO q X W sc N) (hk : PySem.W.keepIn X.K v = true) (h3 : chkA q N sc as es = true) (hA : PA X es (tA X.K q W as)) {pins : List (Addr × Obj)} {σ : L2.St} {H : Hp} {s : Shared} {Q : Value → Shared → Prop} (I : Inv X pins σ H s) {p : Pv} {g : G} {st : State}
    (R : RS (FX X.K q p) g st σ H) {k : List Slot → G → State → Hp → Prop} (h : Post (FX X.K q p) W g σ H (evA as st) k) (go : ∀ us s2 vs H2 xs g1 st1, Inv X pins σ H2 s2 → Vals vs us → RS (FX X.K q p) g1 st1 σ H2 → StE g H g1 H2 → ArgsR (FX X.K q p) g1 H2 vs xs → k xs g1 st1 H2 → wpAny (model X.prog X.w) X.A (call v (first ++ us)) Q X.xe s2) :
    wpAny (model X.prog X.w) X.A (callWith pos v first (backTo pos (starEach es X.env)) (backToKw pos (keywordEach [] X.env))) Q X.xe s := by
  cases es with
  | nil =>
    cases chkA_nil h3
    unfold evA at h
    have := go [] s [] H [] g st I .nil R .refl .nil (h g H R .refl)
    exact PySem.W.callWith_K0 (first := first) I.kIn hk this
  | cons ea es =>
    obtain ⟨st1, st2⟩ := ba (show (notStar ea && allStar es) = true from chkA_star h3)
    refine PySem.W.callWith_K (first := first) (h₀ := X.base) I.ok.mod.kin hk (thn (hA.run pos pins s σ H (fun vs H2 => ∃ xs g1 st1, RS (FX X.K q p) g1 st1 σ H2 ∧ StE g H g1 H2 ∧ ArgsR (FX X.K q p) g1 H2 vs xs ∧ k xs g1 st1 H2) I ⟨p, g, st, R, ?_⟩) fun us s2 ⟨vs, H2, I2, r, xs, g1, st1, z1, z2, z3, z4⟩ => ⟨I2.kIn, go us s2 vs H2 xs g1 st1 I2 r z1 z2 z3 z4⟩) (starEach_cons st1) (star_none st2)
    exact Post.mono h fun xs g1 st1 H1 _ R1 t1 z us hus => ⟨xs, g1, st1, R1, t1, hus, z⟩
theorem snd_call2 (C : CO q X W sc N) {n : Nat} {f : Fn} {as : E} {x : Str} {p1 pos : Pos} {es : List Expr} (h1 : glo sc x = true) (h2 : q.fns[n]? = some x) (h3 : chkA q N sc as es = true) (hg : ∃ x, q.fns[n]? = some x ∧ FnK X.prog X.w X.K X.mg X.base q x f)
    (hA : PA X es (tA X.K q W as)) : PE X (.Call (.Name x p1) es [] pos) (tE X.K q W (.call n f as)) := by
  obtain ⟨y, e1, e2⟩ := hg
  rw [h2] at e1
  cases e1
  obtain ⟨a, fd, ps, j, m, kp, b, hj, ok⟩ := e2.ex
  obtain ⟨gl, db⟩ := C.glo h1
  refine ⟨fun pins s σ H Q I ⟨p, g, st, R, k⟩ => ?_⟩
  unfold ev at k
  refine wpAny_Call_Name_kw (ld_glob I gl m ?_ db)
  refine call_with (first := []) C kp h3 hA I R (Post.bind k) fun us s2 vs H2 xs g1 st1 I2 r R1 t1 ar k => ?_
  exact call_run C ok hj b I2 r (spF_of R1 ar (k t1) fun r g' s' H' R' t' z v ev => z t' v (ev.back fun a z => t1.free z))
/-- a def's name, as a value -/
theorem snd_fnv (C : CO q X W sc N) {nm : List Nat} {x : Str} {p1 : Pos} (h1 : glo sc x = true) (h2 : x = sS nm) (hg : X.mg (sS nm) = some (.ref (He.ga X.K (sS nm)))) : PE X (.Name x p1) (tE X.K q W (.fnv nm)) := by
  subst h2
  obtain ⟨gl, db⟩ := C.glo h1
  refine PE.imp (pe_glob (v := .ref (He.ga X.K (sS nm))) gl hg rfl db) fun σ H Q ⟨p, g, s, R, k⟩ => ?_
  unfold ev at k
  exact k g H R .refl _ (.fnc nm)
/-- a call of a local name that holds a def -/
theorem snd_cal (C : CO q X W sc N) {i : Nat} {fs : List (Nat × List Nat × Fn)} {as : E} {x : Str} {p1 pos : Pos} {es : List Expr} (h1 : vis N sc i x = true) (h2 : (fs.all fun p => decide (q.fns[p.1]? = some (sS p.2.1))) = true) (h3 : chkA q N sc as es = true)
    (hg : ∀ p ∈ fs, (∃ x, q.fns[p.1]? = some x ∧ FnK X.prog X.w X.K X.mg X.base q x p.2.2) ∧ X.mg (sS p.2.1) = some (.ref (He.ga X.K (sS p.2.1)))) (hA : PA X es (tA X.K q W as)) : PE X (.Call (.Name x p1) es [] pos) (tE X.K q W (.cal i fs as)) := by
  obtain ⟨hN, hv, hdb, hcd⟩ := C.vis h1
  refine ⟨fun pins s σ H Q I ⟨p, g, st, R, k⟩ => ?_⟩
  unfold ev at k
  split at k
  · next nm b e =>
    split at k
    · next w ew =>
      obtain ⟨v, e1, r⟩ := R.look e
      have hm := List.mem_of_find?_eq_some ew
      have hn : w.2.1 = nm := of_decide_eq_true (List.find?_some (p := fun (p : Nat × List Nat × Fn) => decide (p.2.1 = nm)) ew)
      obtain ⟨⟨y, z1, z2⟩, z3⟩ := hg w hm
      have z4 := of_decide_eq_true (List.all_eq_true.mp h2 w hm)
      rw [z4] at z1
      cases z1
      obtain ⟨a, fd, ps, j, m, kp, b2, hj, ok⟩ := z2.ex
      have ea : v = .ref a := by
        rcases r with r | ⟨_, _, r⟩
        · cases r
          rw [hn] at m z3
          have := m.symm.trans z3
          cases this
          rfl
        · exact r.elim
      subst ea
      refine wpAny_Call_Name_kw (thn ((pe_var (pos := p1) hN hv hdb hcd).run pins s σ H (fun v H1 => v = .ref a ∧ H1 = H) I ⟨.ref a, e1, rfl, rfl⟩) fun u s1 ⟨v, H1, I1, r1, q1⟩ => ?_)
      obtain ⟨rfl, rfl⟩ := q1
      cases r1
      refine call_with (first := []) C kp h3 hA I1 R (Post.bind k) fun us s2 vs H2 xs g1 st1 I2 r R1 t1 ar k => ?_
      exact call_run C ok hj b2 I2 r (spF_of R1 ar (k t1) fun r g' s' H' R' t' z v ev => z t' v (ev.back fun a z => t1.free z))
    · exact k.elim
  · exact k.elim
/-- a call of an expression that tells a def -/
theorem snd_cax (C : CO q X W sc N) {a : E} {fs : List (Nat × List Nat × Fn)} {as : E} {u v : Expr} {p1 pos : Pos} {es : List Expr} (ha : PE X (.Subscript u v p1) (tE X.K q W a)) (h2 : (fs.all fun p => decide (q.fns[p.1]? = some (sS p.2.1))) = true) (h3 : chkA q N sc as es = true)
    (hg : ∀ p ∈ fs, (∃ x, q.fns[p.1]? = some x ∧ FnK X.prog X.w X.K X.mg X.base q x p.2.2) ∧ X.mg (sS p.2.1) = some (.ref (He.ga X.K (sS p.2.1)))) (hA : PA X es (tA X.K q W as)) : PE X (.Call (.Subscript u v p1) es [] pos) (tE X.K q W (.cax a fs as)) := by
  refine ⟨fun pins s σ H Q I ⟨p, g, st, R, k⟩ => ?_⟩
  unfold ev at k
  have arm : eval (.Call (.Subscript u v p1) es [] pos) X.env = (do
    callWith pos (← eval (.Subscript u v p1) X.env) [] (backTo pos (starEach es X.env)) (backToKw pos (keywordEach [] X.env))) := rfl
  rw [arm]
  refine wpAny_bind (thn (ha.run pins s σ H (fun va H1 => ∃ g1 st1 nm, RS (FX X.K q p) g1 st1 σ H1 ∧ StE g H g1 H1 ∧ Vw X.K H1 (PP (FX X.K q p) g1) va (.fnc nm) ∧ Post (FX X.K q p) W g1 σ H1 (match fs.find? (fun p => decide (p.2.1 = nm)) with
      | some p => (evA as st1).bind fun vs s2 => callF p.2.2 vs s2
      | none => .bad) (fun r g' s' H' => StE g1 H1 g' H' → ∀ v, EVR (FX X.K q p) g' H H' v r → Q v H')) I ⟨p, g, st, R, ?_⟩) fun uv s1 ⟨va, H1, I1, ra, g1, st1, nm, R1, t1, vw, k1⟩ => ?_)
  · refine Post.mono (Post.dat k) fun va g1 st1 H1 _ R1 t1 k v hv => ?_
    obtain ⟨x, ex, k⟩ := k t1
    cases x <;> first | exact k.elim | skip
    exact ⟨g1, st1, _, R1, t1, hv.vw ex, k⟩
  · split at k1
    · next w ew =>
      have hm := List.mem_of_find?_eq_some ew
      have hn : w.2.1 = nm := of_decide_eq_true (List.find?_some (p := fun (p : Nat × List Nat × Fn) => decide (p.2.1 = nm)) ew)
      obtain ⟨⟨y, z1, z2⟩, z3⟩ := hg w hm
      have z4 := of_decide_eq_true (List.all_eq_true.mp h2 w hm)
      rw [z4] at z1
      cases z1
      obtain ⟨a, fd, ps, j, m, kp, b2, hj, ok⟩ := z2.ex
      have ea : va = .ref a := by
        rcases vw with r | ⟨_, _, r⟩
        · cases r
          rw [hn] at m z3
          have := m.symm.trans z3
          cases this
          rfl
        · exact r.elim
      subst ea
      cases ra
      refine call_with (first := []) C kp h3 hA I1 R1 (Post.bind k1) fun us s2 vs H2 xs g2 st2 I2 r R2 t2 ar k => ?_
      exact call_run C ok hj b2 I2 r (spF_of R2 ar (k t2) fun r g' s' H' R' t' z v ev => z t' (t2.trans t') v (ev.back fun a z => t1.free (t2.free z)))
    · exact k1.elim
theorem fr_none {K : PySem.W.Frag} {fn : List Str} {H : Hp} {P : Addr → Prop} {m : Str} (n : m ∉ fn) : ∀ {vs : List (Str × V)} {xs : List (Nat × D)}, FR K fn H P vs xs → vs.lookup m = none
  | _, _, .nil => rfl
  | _, _, .cons (nm := nm) e _ _ t => by
    rw [List.lookup_cons]
    have : (m == nm) = false := by
      rw [beq_eq_false_iff_ne]
      intro z
      subst z
      exact n (List.mem_of_getElem? e)
    rw [this]
    exact fr_none n t
theorem snd_mth (C : CO q X W sc N) {n i c : Nat} {f : Fn} {as : E} {y m : Str} {yp apos pos : Pos} {es : List Expr} (hv : vis N sc i y = true) (h2 : q.fns[n]? = some m) (hl : es.length < 30) (hp : (apos.endLine == pos.line) = true) (h3 : chkA q N sc as es = true)
    (hg : ∃ x, q.fns[n]? = some x ∧ MtK X.prog X.w X.K X.mg X.base q c x f) (hA : PA X es (tA X.K q W as)) : PE X (.Call (.Attribute (.Name y yp) m apos) es [] pos) (tE X.K q W (.mth n i c f as)) := by
  obtain ⟨y', e1, e2⟩ := hg
  rw [h2] at e1
  cases e1
  obtain ⟨a, fd, ps, j, hm, b, hj, ok⟩ := e2.ex
  obtain ⟨v1, v2, v3, v4⟩ := C.vis hv
  refine ⟨fun pins s σ H Q I ⟨p, g, st, R, k⟩ => ?_⟩
  unfold ev at k
  split at k
  rotate_left
  · exact k.elim
  rename_i jj ej
  split at k
  rotate_left
  · exact k.elim
  rename_i o eo
  by_cases hc : o.cls = c
  rotate_left
  · rw [if_neg hc] at k; exact k.elim
  rw [if_pos hc] at k
  obtain ⟨A, z1, z2⟩ := R.ob i jj ej
  obtain ⟨A', dx, vs, w1, w2, w3⟩ := R.st.at_ jj o eo
  rw [z1] at w1; cases w1
  rw [hc] at w2
  refine PySem.W.methodCall_KW (pl := plainOf (.Name y yp) X.env) (thn ((pe_var v1 v2 v3 v4).run pins s σ H (fun v H1 => v = V.ref A ∧ H1 = H) I ⟨_, z2, rfl, rfl⟩) fun u s1 ⟨x, H1, I1, rx, ex, eH⟩ => ?_) (ev_mcall2 (chkA_star h3) hl hp)
  subst ex eH
  obtain rfl : u = Value.ref A := rx
  refine getmeth_ok I1 w2 e2.cl hm (fr_none e2.nof w3) ?_
  refine call_with (first := [.ref A]) C hm.kp h3 hA I1 R (Post.bind k) fun us s2 vs H2 xs g1 st1 I2 r R1 t1 ar k => ?_
  have ar2 : ArgsR (FX X.K q p) g1 H2 (V.ref A :: vs) (.o jj :: xs) := by
    refine .cons ?_ ar
    obtain ⟨r, e1, _⟩ := t1.pre
    exact ⟨A, by rw [e1, List.getElem?_append_left (List.getElem?_eq_some_iff.mp z1).1]; exact z1, rfl⟩
  exact call_run (us := Value.ref A :: us) (vs := V.ref A :: vs) C ok hj b I2 (.cons rfl r) (spF_of R1 ar2 (k t1) fun r g' s' H' R' t' z v ev => z t' v (ev.back fun a z => t1.free z))
theorem fr_get {K : PySem.W.Frag} {fn : List Str} {H : Hp} {P : Addr → Prop} {f : Nat} {m : Str} {y : D} (nd : fn.Nodup) (hm : fn[f]? = some m) : ∀ {vs : List (Str × V)} {xs : List (Nat × D)}, FR K fn H P vs xs → xs.lookup f = some y → ∃ v, vs.lookup m = some v ∧ Rp K H P v y
  | _, _, .nil, e => nomatch e
  | _, _, .cons (f := f') (nm := nm) (v := v) (x := x) e _ r t, h => by
    rw [List.lookup_cons] at h ⊢
    by_cases z : f = f'
    · subst z
      rw [hm] at e; cases e
      simp only [beq_self_eq_true] at h ⊢
      cases h
      exact ⟨v, rfl, r⟩
    · have n : m ≠ nm := fun w => by
        subst w
        exact z ((List.getElem?_inj (List.getElem?_eq_some_iff.mp hm).1 nd).mp (hm.trans e.symm))
      rw [show (f == f') = false from beq_eq_false_iff_ne.mpr z] at h
      rw [show (m == nm) = false from beq_eq_false_iff_ne.mpr n]
      exact fr_get nd hm t h
theorem snd_fld (C : CO q X W sc N) {i c f : Nat} {y m : Str} {yp apos : Pos} (hv : vis N sc i y = true) (hf : q.flds[f]? = some m) (nd : q.flds.Nodup) (hg : FlK X.K q c f) : PE X (.Attribute (.Name y yp) m apos) (tE X.K q W (.fld i c f)) := by
  obtain ⟨v1, v2, v3, v4⟩ := C.vis hv
  refine PE.imp (pe_fld (pe_var v1 v2 v3 v4) (by rfl)) fun σ H Q ⟨p, g, st, R, k⟩ => ?_
  unfold ev at k
  split at k
  rotate_left
  · exact k.elim
  rename_i jj ej
  split at k
  rotate_left
  · exact k.elim
  rename_i o eo
  by_cases hc : o.cls = c
  rotate_left
  · rw [if_neg hc] at k; exact k.elim
  rw [if_pos hc] at k
  obtain ⟨x, ex, k⟩ := Post.orBad k
  simp only [Option.map_eq_some_iff] at ex
  obtain ⟨d, ed, rfl⟩ := ex
  obtain ⟨A, z1, z2⟩ := R.ob i jj ej
  obtain ⟨A', dx, vs, w1, w2, w3⟩ := R.st.at_ jj o eo
  rw [z1] at w1; cases w1
  rw [hc] at w2
  obtain ⟨v, e1, r⟩ := fr_get nd hf w3 ed
  exact ⟨_, z2, A, _, dx, vs, v, rfl, w2, hg.cl, hg.no m hf, e1, k g H R .refl v r⟩
/-- an instance is laid -/
theorem RS.make {F : Fx} {g : G} {s : State} {σ : L2.St} {H : Hp} (R : RS F g s σ H) {x dx : Addr} {c : Nat} (hx : H x = none) (hd : H dx = none) (n : dx ≠ x) :
    RS F ⟨g.own, g.m ++ [x]⟩ ⟨s.r, s.S ++ [⟨c, []⟩]⟩ σ (upd (upd H dx (.own x)) x (.ins (F.cl c) dx [])) ∧ StE g H ⟨g.own, g.m ++ [x]⟩ (upd (upd H dx (.own x)) x (.ins (F.cl c) dx [])) := by
  have hx2 : upd H dx (.own x) x = none := by rw [upd_ne (Ne.symm n)]; exact hx
  have gr : ∀ (b : Addr) (o : HO), H b = some o → upd (upd H dx (.own x)) x (.ins (F.cl c) dx []) b = some o := fun b o h => same_upd hx2 b o (same_upd hd b o h)
  have R1 := R.grow gr
  have nm : x ∉ g.m := fun z => by
    obtain ⟨o, e, _⟩ := R.ins x z
    rw [hx] at e; cases e
  refine ⟨⟨R1.len, R1.sl, R1.ow, fun i j e => ?_, R1.dc, R1.inj, R1.own, R1.p0, R1.k0, R1.d0, R1.tb, R1.i0, ?_, ?_⟩, ⟨fun b o h _ _ => gr b o h, fun _ _ t => t.ext gr, fun b o h => ⟨o, gr b o h⟩, fun _ _ h => h, [x], rfl, by simpa using hx⟩⟩
  · obtain ⟨a, h1, h2⟩ := R1.ob i j e
    exact ⟨a, by rw [List.getElem?_append_left (List.getElem?_eq_some_iff.mp h1).1]; exact h1, h2⟩
  · obtain ⟨r, e, h⟩ := R.pre
    refine ⟨r ++ [x], by rw [e, List.append_assoc], fun a ha => ?_⟩
    rcases List.mem_append.mp ha with z | z
    · exact h a z
    · rw [List.mem_singleton] at z
      subst z
      cases q : F.H0 a with
      | none => rfl
      | some o =>
        by_cases hm : a ∈ F.m0
        · exact absurd (by rw [e]; exact List.mem_append_left _ hm) nm
        · obtain ⟨o1, e1⟩ := R.d0 a o q
          rw [e1] at hx; cases hx
  · refine ⟨?_, by rw [List.length_append, List.length_append, R.st.len]; rfl, fun j o e => ?_⟩
    · rw [List.nodup_append]
      exact ⟨R.st.nd, by simp, fun a ha b hb => by rw [List.mem_singleton] at hb; subst hb; exact fun z => nm (z ▸ ha)⟩
    · have e' : (s.S ++ [⟨c, []⟩])[j]? = some o := e
      by_cases hj : j < s.S.length
      · rw [List.getElem?_append_left hj] at e'
        obtain ⟨a, dx', vs, h1, h2, h3⟩ := R1.st.at_ j o e'
        exact ⟨a, dx', vs, by rw [List.getElem?_append_left (by rw [R.st.len]; exact hj)]; exact h1, h2, h3⟩
      · rw [List.getElem?_append_right (by omega)] at e'
        have hj0 : j - s.S.length = 0 := by
          have := (List.getElem?_eq_some_iff.mp e').1
          simp at this
          omega
        rw [hj0] at e'
        cases e'
        refine ⟨x, dx, [], ?_, upd_same, .nil⟩
        rw [List.getElem?_append_right (by rw [R.st.len]; omega), R.st.len, hj0]
        rfl
/-- C(..) runs -/
theorem new_run {a Cc : Addr} {fd : FuncData} {ps : List Str} {j : Nat} {f : Fn} (C : CO q X W sc N) (ok : FnOk X.prog X.w X.K X.mg X.base (L2.CX X.prog X.w) j a fd ps (spF X.K q f)) (hj : j + 1 ≤ q.k) (b : Binds X.K fd ps []) (M : Mk X.K Cc a) {pins : List (Addr × Obj)} {σ : L2.St} {H : Hp} {s : Shared} {Q : VK} {us : List Value} {vs : List V}
    (I : Inv X pins σ H s) (r : Vals vs us) (h : ∀ x dx, H x = none → H dx = none → dx ≠ x → spF X.K q f (.ref x :: vs) (upd (upd H dx (.own x)) x (.ins Cc dx [])) (fun v H2 => v = .non ∧ Q (.ref x) H2) (fun cls d H' => W cls d σ H')) :
    wpAny (model X.prog X.w) X.A (call (.ref Cc) us) (EP X pins σ Q) X.xe s := by
  have h1 := h (s.heap.objs.size + 1) s.heap.objs.size (I.hok.fresh (Nat.le_succ _)) (I.hok.fresh (Nat.le_refl _)) (Nat.ne_of_lt (Nat.lt_succ_self _))
  have I2 := Inv.made (C := Cc) I
  have r2 : Vals (V.ref (s.heap.objs.size + 1) :: vs) (Value.ref (s.heap.objs.size + 1) :: us) := .cons rfl r
  have lens : (Value.ref (s.heap.objs.size + 1) :: us).length = ps.length := by rw [← r2.length]; exact ok.len _ _ _ _ h1
  have bb := b _ (Value.ref (s.heap.objs.size + 1) :: us) I2.kIn (by rw [List.append_nil]; exact lens)
  rw [List.append_nil] at bb
  refine wpAny_call (make_map (f := a) I.kIn M.makes M.init (beq_iff_eq.mp M.fn) (codeAny_mono (ok.run _ X.stack _ _ ⟨Value.ref (s.heap.objs.size + 1) :: us, []⟩ (Value.ref (s.heap.objs.size + 1) :: us) _ _ _ ((C.room.mono hj).make Cc us [])
    (I2.env0.make Cc us []) bb r2 h1) fun o s' z => ?_))
  cases o with
  | error e => exact passAt C.tk σ pins _ _ e s' I2 z
  | ok fl =>
    cases fl with
    | ret u =>
      obtain ⟨v, H', I3, rv, ev, q3⟩ := I2.after z
      subst ev
      exact ⟨rv, ⟨V.ref (s.heap.objs.size + 1), H', I3, rfl, q3⟩⟩
    | next => exact z.elim
    | brk => exact z.elim
    | cont => exact z.elim
theorem snd_new (C : CO q X W sc N) {n c : Nat} {f : Fn} {as : E} {x : Str} {p1 pos : Pos} {es : List Expr} (h1 : glo sc x = true) (h2 : q.cls[c]? = some x) (h3 : chkA q N sc as es = true) (hg : ∃ x, q.cls[c]? = some x ∧ NwK X.prog X.w X.K X.mg X.base q c x f)
    (hA : PA X es (tA X.K q W as)) : PE X (.Call (.Name x p1) es [] pos) (tE X.K q W (.new n c f as)) := by
  obtain ⟨y, e1, e2⟩ := hg
  rw [h2] at e1
  cases e1
  obtain ⟨a, fd, ps, j, mk, b, hj, ok⟩ := e2.ex
  obtain ⟨gl, db⟩ := C.glo h1
  refine ⟨fun pins s σ H Q I ⟨p, g, st, R, k⟩ => ?_⟩
  unfold ev at k
  refine wpAny_Call_Name_kw (ld_glob I gl e2.hmg ?_ db)
  refine call_with (first := []) C mk.kp h3 hA I R (Post.bind k) fun us s2 vs H2 xs g1 st1 I2 r R1 t1 ar k => ?_
  refine new_run C ok hj b mk I2 r fun x' dx hx hd nn => ?_
  obtain ⟨R2, t2⟩ := R1.make (c := c) hx hd nn
  have ar2 : ArgsR (FX X.K q p) ⟨g1.own, g1.m ++ [x']⟩ (upd (upd H2 dx (.own x')) x' (.ins (q.cl c) dx [])) (V.ref x' :: vs) (.o st1.S.length :: xs) :=
    .cons ⟨x', by rw [List.getElem?_append_right (by rw [R1.st.len]; exact Nat.le_refl _), R1.st.len, Nat.sub_self]; rfl, rfl⟩ (ar.mono R1 t2)
  have k := k t1
  refine spF_of (k := fun r g' s' H' => r = .sh .non ∧ Q (V.ref x') H') R2 ar2 ?_ fun r g' s' H' _ _ z v ev => ?_
  · unfold callF
    cases e : f (st1.S ++ [⟨c, []⟩]) (.o st1.S.length :: xs) with
    | bad => rw [e] at k; exact k
    | exc y S' => rw [e] at k; exact k.elim
    | ok r S' =>
      rw [e] at k
      cases r <;> first | exact k.elim | skip
      rename_i d
      cases d <;> first | exact k.elim | skip
      intro g' H' R' t'
      obtain ⟨r, e3, _⟩ := t'.pre
      have tt : StE g1 H2 g' H' := t2.trans t'
      refine ⟨rfl, k g' H' R' tt tt _ ⟨x', ?_, rfl⟩⟩
      rw [e3, List.getElem?_append_left (by rw [List.length_append, R1.st.len]; exact Nat.lt_succ_self _), List.getElem?_append_right (by rw [R1.st.len]; exact Nat.le_refl _), R1.st.len, Nat.sub_self]
      rfl
  · obtain ⟨rfl, z⟩ := z
    have : Rp X.K H' (PP (FX X.K q p) g') v .non := ev
    cases this
    exact ⟨rfl, z⟩
end
end MI

set_option maxHeartbeats 1000000
/-! zip of a tuple and a list -/
namespace MZ
open PySem PySem.Spec PyProof.Rows
open PySem.Sem (wp)
/-- a thing whose items an iterator hands out one by one -/
structure Src (P : Program) (w : World) (it l : Addr) (xs : Array Value) (I : Heap → Nat → Prop) (L : Heap → Prop) : Prop where
  ia : ∀ {h h' : Heap} {k : Nat}, I h k → (∀ o, h.get? it = some o → h'.get? it = some o) → I h' k
  la : ∀ {h h' : Heap}, L h → (∀ o, h.get? l = some o → h'.get? l = some o) → L h'
  il : ∀ {h : Heap} {k : Nat}, I h k → it < h.objs.size
  item : ∀ {A : Around} {E : Value → Shared → Prop} {s : Shared} {k : Nat} {x : Value} {Q : Value → Shared → Prop}, I s.heap k → L s.heap → xs[k]? = some x → (∀ h', I h' (k + 1) → Heap.SameBut it s.heap h' → Q x { s with heap := h' }) → wpAny (model P w) A (Builtin.SmallTypes.nextOf (.ref it)) Q E s
  fin : ∀ {A : Around} {E : Value → Shared → Prop} {s : Shared} {k : Nat} {Q : Value → Shared → Prop}, A.handled = none → I s.heap k → L s.heap → xs[k]? = none → (∀ h' e, Heap.ExtBut it s.heap h' → (∃ o, h'.get? e = some o ∧ o.cls = .type "StopIteration") → E (.ref e) { s with heap := h' }) → wpAny (model P w) A (Builtin.SmallTypes.nextOf (.ref it)) Q E s
theorem srcL (P : Program) (w : World) (it l : Addr) (xs : Array Value) : Src P w it l xs (fun h k => h.IsListIter it l k) (fun h => h.IsList l xs) :=
  ⟨fun a e => a.at e, fun a e => a.at e, fun a => by obtain ⟨_, e, _⟩ := a; exact Heap.lt_size e, fun a b c d => wpAny_nextOf_list_item a b c d, fun h a b c d => wpAny_nextOf_list_end h a b c d⟩
theorem srcT (P : Program) (w : World) (it l : Addr) (xs : Array Value) : Src P w it l xs (fun h k => h.IsTupleIter it l k) (fun h => h.IsTuple l xs) :=
  ⟨fun a e => a.at e, fun a e => a.at e, fun a => by obtain ⟨_, e, _⟩ := a; exact Heap.lt_size e, fun a b c d => RZ.nextOf_tuple_item a b c d, fun h a b c d => RZ.nextOf_tuple_end h a b c d⟩
section
variable {P : Program} {w : World} {A : Around} {E : Value → Shared → Prop} {s : Shared}
variable {z TI TO i1 i2 l1 l2 : Addr} {k1 k2 : Nat} {xs ys : Array Value} {I1 I2 : Heap → Nat → Prop} {L1 L2 : Heap → Prop}
theorem next_item (S1 : Src P w i1 l1 xs I1 L1) (S2 : Src P w i2 l2 ys I2 L2) {x y a b : Value} {Q : Value → Shared → Prop} (D : ZipApart z TI TO i1 i2 l1 l2)
    (hz : IsZip s.heap z TI TO .none) (hTI : IsPair s.heap TI (.ref i1) (.ref i2)) (hTO : IsPair s.heap TO a b) (h1 : I1 s.heap k1) (h2 : I2 s.heap k2) (hl1 : L1 s.heap) (hl2 : L2 s.heap) (hx : xs[k1]? = some x) (hy : ys[k2]? = some y)
    (hQ : ∀ h', IsZip h' z TI TO (rawInt s.heap.objs.size) → IsPair h' TO x y → I1 h' (k1 + 1) → I2 h' (k2 + 1) → IsPair h' s.heap.objs.size x y → h'.objs.size = s.heap.objs.size + 1 →
      (∀ c o, c ≠ z → c ≠ TO → c ≠ i1 → c ≠ i2 → s.heap.get? c = some o → h'.get? c = some o) → Q (.ref s.heap.objs.size) { s with heap := h' }) :
    wpAny (model P w) A (Builtin.«zip.__next__» ⟨[.ref z], []⟩) (fun fin s' => ∃ v, fin = .done (.ret v) ∧ Q v s') E s := by
  show wpAny _ _ (field (.ref z) 2 >>= _) _ _ _
  refine wpAny_bind (wpAny_field hz rfl (x := .bool false) rfl ?_)
  show wpAny _ _ (field (.ref z) 3 >>= _) _ _ _
  refine wpAny_bind (wpAny_field hz rfl (x := .ref TI) rfl (wpAny_bind (wpAny_seqItems hTI rfl ?_)))
  show wpAny _ _ (Builtin.SmallTypes.ownedTupleIsFree (.ref z) >>= _) _ _ _
  refine wpAny_bind ?_
  unfold Builtin.SmallTypes.ownedTupleIsFree
  refine wpAny_bind (wpAny_field hz rfl (x := .none) rfl (wpAny_pure ?_))
  simp only [if_true]
  refine wpAny_bind (wpAny_rule (wpAny_bind (wpAny_field hz rfl (x := .ref TO) rfl (wpAny_bind (wpAny_setField_rec hz (by simp) fun g1 z1 d1 => ?_)))))
  replace z1 : IsZip g1 z TI TO .ellipsis := z1
  refine wpAny_bind ?_
  simp only [List.zipIdx_cons, List.zipIdx_nil, List.forIn_cons, List.forIn_nil]
  refine wpAny_bind (wpAny_bind (wpAny_onRaise ?_))
  show wpAny _ _ (Builtin.SmallTypes.nextOf (.ref i1) >>= _) _ _ _
  refine wpAny_bind (S1.item (S1.ia h1 fun o e => d1.extBut _ _ D.i1z e) (S1.la hl1 fun o e => d1.extBut _ _ D.l1z e) hx fun g2 j1 d2 => wpAny_pure ?_)
  have t2 : IsPair g2 TO a b := d2.extBut _ _ D.TOi1 (d1.extBut _ _ D.TOz hTO)
  refine wpAny_bind (wpAny_seqItems t2 rfl (wpAny_bind (wpAny_updateSeq_pair t2 fun g3 t3 d3 => ?_)))
  replace t3 : IsPair g3 TO x b := t3
  refine wpAny_bind (wpAny_letGo (wpAny_pure ?_))
  refine wpAny_bind (wpAny_bind (wpAny_onRaise ?_))
  show wpAny _ _ (Builtin.SmallTypes.nextOf (.ref i2) >>= _) _ _ _
  have up3 : ∀ c o, c ≠ z → c ≠ TO → c ≠ i1 → s.heap.get? c = some o → g3.get? c = some o := fun c o c1 c2 c3 e => d3.extBut _ _ c2 (d2.extBut _ _ c3 (d1.extBut _ _ c1 e))
  refine wpAny_bind (S2.item (S2.ia h2 fun o e => up3 _ o D.i2z D.TOi2.symm D.i12.symm e) (S2.la hl2 fun o e => up3 _ o D.l2z D.l2TO D.l2i1 e) hy fun g4 j2 d4 => wpAny_pure ?_)
  have t4 : IsPair g4 TO x b := d4.extBut _ _ D.TOi2 t3
  refine wpAny_bind (wpAny_seqItems t4 rfl (wpAny_bind (wpAny_updateSeq_pair t4 fun g5 t5 d5 => ?_)))
  replace t5 : IsPair g5 TO x y := t5
  refine wpAny_bind (wpAny_letGo (wpAny_pure (wpAny_pure ?_)))
  refine wpAny_bind (wpAny_seqItems t5 rfl (wpAny_bind (wpAny_newTuple ?_)))
  have hsz : g5.objs.size = s.heap.objs.size := by rw [d5.1, d4.1, d3.1, d2.1, d1.1]
  have z5 : IsZip g5 z TI TO .ellipsis := d5.extBut _ _ D.TOz.symm (d4.extBut _ _ D.i2z.symm (d3.extBut _ _ D.TOz.symm (d2.extBut _ _ D.i1z.symm z1)))
  have up5 : ∀ c o, c ≠ z → c ≠ TO → c ≠ i1 → c ≠ i2 → s.heap.get? c = some o → g5.get? c = some o := fun c o c1 c2 c3 c4 e => d5.extBut _ _ c2 (d4.extBut _ _ c4 (up3 c o c1 c2 c3 e))
  have j15 : I1 g5 (k1 + 1) := S1.ia j1 fun o e => d5.extBut _ _ D.TOi1.symm (d4.extBut _ _ D.i12 (d3.extBut _ _ D.TOi1.symm e))
  have j25 : I2 g5 (k2 + 1) := S2.ia j2 fun o e => d5.extBut _ _ D.TOi2.symm e
  have zl : z < g5.objs.size := Heap.lt_size z5
  show wpAny _ _ (Builtin.SmallTypes.ownedTupleHandOut (.ref z) (.ref g5.objs.size) >>= _) _ _ _
  refine wpAny_bind ?_
  unfold Builtin.SmallTypes.ownedTupleHandOut
  have z6 : IsZip (g5.push { cls := .type "tuple", data := .seq #[x, y] }) z TI TO .ellipsis := Heap.get?_push_of_some _ z5
  refine wpAny_bind (wpAny_setField_rec z6 (by simp) fun g7 z7 d7 => ?_)
  replace z7 : IsZip g7 z TI TO (rawInt g5.objs.size) := z7
  refine wpAny_setField_rec z7 (by simp) fun g8 z8 d8 => ?_
  replace z8 : IsZip g8 z TI TO (rawInt g5.objs.size) := z8
  have up : ∀ c o, c ≠ z → g5.get? c = some o → g8.get? c = some o := fun c o c1 e => d8.extBut _ _ c1 (d7.extBut _ _ c1 (Heap.get?_push_of_some _ e))
  have T8 : IsPair g8 g5.objs.size x y := d8.extBut _ _ (Nat.ne_of_gt zl) (d7.extBut _ _ (Nat.ne_of_gt zl) (Heap.get?_push_size _ rfl))
  have s8 : g8.objs.size = g5.objs.size + 1 := by rw [d8.1, d7.1, Heap.size_push]
  rw [hsz] at z8 T8 s8
  refine wpAny_pure ⟨_, rfl, ?_⟩
  show Q (.ref g5.objs.size) _
  rw [hsz]
  exact hQ g8 z8 (up _ _ D.TOz t5) (S1.ia j15 fun o e => up _ o D.i1z e) (S2.ia j25 fun o e => up _ o D.i2z e) T8 s8 fun c o c1 c2 c3 c4 e => up c o c1 (up5 c o c1 c2 c3 c4 e)
theorem next_end (S1 : Src P w i1 l1 xs I1 L1) (S2 : Src P w i2 l2 ys I2 L2) {a b : Value} {Q : Fin → Shared → Prop} (hh : A.handled = none) (D : ZipApart z TI TO i1 i2 l1 l2)
    (hz : IsZip s.heap z TI TO .none) (hTI : IsPair s.heap TI (.ref i1) (.ref i2)) (hTO : IsPair s.heap TO a b) (h1 : I1 s.heap k1) (h2 : I2 s.heap k2) (hl1 : L1 s.heap) (hl2 : L2 s.heap) (hend : xs[k1]? = none ∨ ys[k2]? = none)
    (hE : ∀ h' e, (∀ c o, c ≠ z → c ≠ TO → c ≠ i1 → c ≠ i2 → s.heap.get? c = some o → h'.get? c = some o) → (∃ o, h'.get? e = some o ∧ o.cls = .type "StopIteration") → E (.ref e) { s with heap := h' }) :
    wpAny (model P w) A (Builtin.«zip.__next__» ⟨[.ref z], []⟩) Q E s := by
  show wpAny _ _ (field (.ref z) 2 >>= _) _ _ _
  refine wpAny_bind (wpAny_field hz rfl (x := .bool false) rfl ?_)
  show wpAny _ _ (field (.ref z) 3 >>= _) _ _ _
  refine wpAny_bind (wpAny_field hz rfl (x := .ref TI) rfl (wpAny_bind (wpAny_seqItems hTI rfl ?_)))
  show wpAny _ _ (Builtin.SmallTypes.ownedTupleIsFree (.ref z) >>= _) _ _ _
  refine wpAny_bind ?_
  unfold Builtin.SmallTypes.ownedTupleIsFree
  refine wpAny_bind (wpAny_field hz rfl (x := .none) rfl (wpAny_pure ?_))
  simp only [if_true]
  refine wpAny_bind (wpAny_rule (wpAny_bind (wpAny_field hz rfl (x := .ref TO) rfl (wpAny_bind (wpAny_setField_rec hz (by simp) fun g1 z1 d1 => ?_)))))
  replace z1 : IsZip g1 z TI TO .ellipsis := z1
  refine wpAny_bind ?_
  simp only [List.zipIdx_cons, List.zipIdx_nil, List.forIn_cons, List.forIn_nil]
  refine wpAny_bind (wpAny_bind (wpAny_onRaise ?_))
  show wpAny _ _ (Builtin.SmallTypes.nextOf (.ref i1) >>= _) _ _ _
  have i1' := S1.ia h1 fun o e => d1.extBut _ _ D.i1z e
  have l1' := S1.la hl1 fun o e => d1.extBut _ _ D.l1z e
  cases hx : xs[k1]? with
  | none =>
    refine wpAny_bind (S1.fin hh i1' l1' hx fun g2 e d2 he => ?_)
    obtain ⟨oe, hoe, hce⟩ := he
    have z2 : IsZip g2 z TI TO .ellipsis := d2 _ _ D.i1z.symm z1
    have hez : e ≠ z := fun q => by subst q; rw [z2] at hoe; cases hoe; simp at hce
    exact wpAny_setField_rec z2 (by simp) fun g3 _ d3 => hE g3 e (fun c o c1 _ c3 _ q => d3.extBut _ _ c1 (d2 _ _ c3 (d1.extBut _ _ c1 q))) ⟨oe, d3.extBut _ _ hez hoe, hce⟩
  | some x =>
    have hy : ys[k2]? = none := hend.resolve_left fun h => by rw [hx] at h; cases h
    refine wpAny_bind (S1.item i1' l1' hx fun g2 j1 d2 => wpAny_pure ?_)
    have t2 : IsPair g2 TO a b := d2.extBut _ _ D.TOi1 (d1.extBut _ _ D.TOz hTO)
    refine wpAny_bind (wpAny_seqItems t2 rfl (wpAny_bind (wpAny_updateSeq_pair t2 fun g3 t3 d3 => ?_)))
    refine wpAny_bind (wpAny_letGo (wpAny_pure (wpAny_bind (wpAny_bind (wpAny_onRaise ?_)))))
    show wpAny _ _ (Builtin.SmallTypes.nextOf (.ref i2) >>= _) _ _ _
    have up3 : ∀ c o, c ≠ z → c ≠ TO → c ≠ i1 → s.heap.get? c = some o → g3.get? c = some o := fun c o c1 c2 c3 e => d3.extBut _ _ c2 (d2.extBut _ _ c3 (d1.extBut _ _ c1 e))
    refine wpAny_bind (S2.fin hh (S2.ia h2 fun o e => up3 _ o D.i2z D.TOi2.symm D.i12.symm e) (S2.la hl2 fun o e => up3 _ o D.l2z D.l2TO D.l2i1 e) hy fun g4 e d4 he => ?_)
    obtain ⟨oe, hoe, hce⟩ := he
    have z4 : IsZip g4 z TI TO .ellipsis := d4 _ _ D.i2z.symm (d3.extBut _ _ D.TOz.symm (d2.extBut _ _ D.i1z.symm z1))
    have hez : e ≠ z := fun q => by subst q; rw [z4] at hoe; cases hoe; simp at hce
    exact wpAny_setField_rec z4 (by simp) fun g5 _ d5 => hE g5 e (fun c o c1 c2 c3 c4 q => d5.extBut _ _ c1 (d4 _ _ c4 (up3 c o c1 c2 c3 q))) ⟨oe, d5.extBut _ _ hez hoe, hce⟩
theorem pn_item (S1 : Src P w i1 l1 xs I1 L1) (S2 : Src P w i2 l2 ys I2 L2) {x y a b : Value} {Q : Option Value → Shared → Prop} (D : ZipApart z TI TO i1 i2 l1 l2)
    (hz : IsZip s.heap z TI TO .none) (hTI : IsPair s.heap TI (.ref i1) (.ref i2)) (hTO : IsPair s.heap TO a b) (h1 : I1 s.heap k1) (h2 : I2 s.heap k2) (hl1 : L1 s.heap) (hl2 : L2 s.heap) (hx : xs[k1]? = some x) (hy : ys[k2]? = some y)
    (hQ : ∀ h', IsZip h' z TI TO (rawInt s.heap.objs.size) → IsPair h' TO x y → I1 h' (k1 + 1) → I2 h' (k2 + 1) → IsPair h' s.heap.objs.size x y → h'.objs.size = s.heap.objs.size + 1 →
      (∀ c o, c ≠ z → c ≠ TO → c ≠ i1 → c ≠ i2 → s.heap.get? c = some o → h'.get? c = some o) → Q (some (.ref s.heap.objs.size)) { s with heap := h' }) :
    wpAny (model P w) A (pyNext (.ref z)) Q E s := by
  have hT : s.TypeIs (.ref z) "zip" := ⟨_, hz, rfl⟩
  unfold pyNext
  exact wpAny_bind (wpAny_attempt (wpAny_callSpecial?_slot (name := Str.ofString "__next__") hT F.slot_zip_next
    (wpAny_call_entry F.slot_zip_next hT F.entry_zip_next
      (next_item S1 S2 D hz hTI hTO h1 h2 hl1 hl2 hx hy fun h' a1 a2 a3 a4 a5 a6 a7 => wpAny_pure (hQ h' a1 a2 a3 a4 a5 a6 a7)) (F.args_zip_next_1 _))))
theorem pn_end (S1 : Src P w i1 l1 xs I1 L1) (S2 : Src P w i2 l2 ys I2 L2) {a b : Value} {Q : Option Value → Shared → Prop} (hh : A.handled = none) (D : ZipApart z TI TO i1 i2 l1 l2)
    (hz : IsZip s.heap z TI TO .none) (hTI : IsPair s.heap TI (.ref i1) (.ref i2)) (hTO : IsPair s.heap TO a b) (h1 : I1 s.heap k1) (h2 : I2 s.heap k2) (hl1 : L1 s.heap) (hl2 : L2 s.heap) (hend : xs[k1]? = none ∨ ys[k2]? = none)
    (hQ : ∀ h', (∀ c o, c ≠ z → c ≠ TO → c ≠ i1 → c ≠ i2 → s.heap.get? c = some o → h'.get? c = some o) → Q none { s with heap := h' }) : wpAny (model P w) A (pyNext (.ref z)) Q E s := by
  have hT : s.TypeIs (.ref z) "zip" := ⟨_, hz, rfl⟩
  unfold pyNext
  refine wpAny_bind (wpAny_attempt (wpAny_callSpecial?_slot (name := Str.ofString "__next__") hT F.slot_zip_next
    (wpAny_call_entry F.slot_zip_next hT F.entry_zip_next (next_end S1 S2 hh D hz hTI hTO h1 h2 hl1 hl2 hend fun h' e hk he => ?_) (F.args_zip_next_1 _))))
  obtain ⟨o, ho, hc⟩ := he
  exact wpAny_bind (wpAny_isInstance (T := "StopIteration") (b := true) ⟨o, ho, hc⟩ isSubtype_stop (wpAny_pure (hQ _ hk)))
end
abbrev zh1 (h : Heap) (l1 : Addr) : Heap := h.push { cls := .type "tuple_iterator", data := .fields #[.ref l1, .int 0 0] }
abbrev zh2 (h : Heap) (l1 l2 : Addr) : Heap := (zh1 h l1).push { cls := .type "list_iterator", data := .fields #[.ref l2, .int 0 0] }
abbrev zh3 (h : Heap) (l1 l2 : Addr) : Heap := (zh2 h l1 l2).push { cls := .type "tuple", data := .seq #[.ref h.objs.size, .ref (zh1 h l1).objs.size] }
abbrev zh4 (h : Heap) (l1 l2 : Addr) : Heap := (zh3 h l1 l2).push { cls := .type "tuple", data := .seq #[.none, .none] }
abbrev zh5 (h : Heap) (l1 l2 : Addr) : Heap := (zh4 h l1 l2).push { cls := .type "zip", data := .fields #[.none, .bool false, .bool false, .ref (zh2 h l1 l2).objs.size, .ref (zh3 h l1 l2).objs.size] }
theorem meets_new (l1 l2 : Addr) (xs ys : Array Value) :
    Meets (Builtin.«zip.__new__» ⟨[.type "zip", .ref l1, .ref l2], []⟩) (fun _ R s => s.heap.IsTuple l1 xs ∧ s.heap.IsList l2 ys ∧
      R (.ok (.ret (.ref (zh4 s.heap l1 l2).objs.size))) { s with heap := zh5 s.heap l1 l2 }) :=
  .of_wp fun prog w A R s h => by
    obtain ⟨hp, g, d, tk, os⟩ := s; obtain ⟨hl1, hl2, h⟩ := h
    have hsub := sub_zip
    have hL1 : Heap.IsTuple (Shared.heap ⟨hp, g, d, tk, os⟩) l1 xs := hl1
    have hL2 : Heap.IsList (Shared.heap ⟨hp.push { cls := .type "tuple_iterator", data := .fields #[.ref l1, .int 0 0] }, g, d, tk, os⟩) l2 ys := Heap.IsList.push hl2 _
    wp_walk using wpAny_pyIter_tuple hL1, wpAny_pyIter_list hL2
    exact ⟨_, rfl, h⟩
theorem call_zipM {prog : Program} {w : World} {A : Around} {E : Value → Shared → Prop} {s : Shared} {l1 l2 : Addr} {xs ys : Array Value} {Q : Value → Shared → Prop} (hl1 : s.heap.IsTuple l1 xs) (hl2 : s.heap.IsList l2 ys)
    (h : ∀ h', IsZip h' (s.heap.objs.size + 4) (s.heap.objs.size + 2) (s.heap.objs.size + 3) .none → IsPair h' (s.heap.objs.size + 2) (.ref s.heap.objs.size) (.ref (s.heap.objs.size + 1)) →
      IsPair h' (s.heap.objs.size + 3) .none .none → h'.IsTupleIter s.heap.objs.size l1 0 → h'.IsListIter (s.heap.objs.size + 1) l2 0 →
      (∀ c o, s.heap.get? c = some o → h'.get? c = some o) → Q (.ref (s.heap.objs.size + 4)) { s with heap := h' }) :
    wpAny (model prog w) A (call (.type "zip") [.ref l1, .ref l2]) Q E s := by
  refine callType_new F.called_zip (by decide) (F.typeCall_zip_2 _ _) (F.newCall_zip_2 _ _) (fun obj => F.args_object_init_3 obj _ _) F.entry_zip_new
    (meets_new l1 l2 xs ys) ⟨hl1, hl2, ?_⟩
  have z1 : (zh1 s.heap l1).objs.size = s.heap.objs.size + 1 := Heap.size_push ..
  have z2 : (zh2 s.heap l1 l2).objs.size = s.heap.objs.size + 2 := by rw [Heap.size_push, z1]
  have z3 : (zh3 s.heap l1 l2).objs.size = s.heap.objs.size + 3 := by rw [Heap.size_push, z2]
  have z4 : (zh4 s.heap l1 l2).objs.size = s.heap.objs.size + 4 := by rw [Heap.size_push, z3]
  have up : ∀ c o, s.heap.get? c = some o → (zh5 s.heap l1 l2).get? c = some o := fun c o x => Heap.get?_push_of_some _ (Heap.get?_push_of_some _ (Heap.get?_push_of_some _ (Heap.get?_push_of_some _ (Heap.get?_push_of_some _ x))))
  have g5 : (zh5 s.heap l1 l2).get? (zh4 s.heap l1 l2).objs.size = some _ := Heap.get?_push_size _ rfl
  have g4 : (zh5 s.heap l1 l2).get? (zh3 s.heap l1 l2).objs.size = some _ := Heap.get?_push_of_some _ (Heap.get?_push_size _ rfl)
  have g3 : (zh5 s.heap l1 l2).get? (zh2 s.heap l1 l2).objs.size = some _ := Heap.get?_push_of_some _ (Heap.get?_push_of_some _ (Heap.get?_push_size _ rfl))
  have g2 : (zh5 s.heap l1 l2).get? (zh1 s.heap l1).objs.size = some _ := Heap.get?_push_of_some _ (Heap.get?_push_of_some _ (Heap.get?_push_of_some _ (Heap.get?_push_size _ rfl)))
  have g1 : (zh5 s.heap l1 l2).get? s.heap.objs.size = some _ := Heap.get?_push_of_some _ (Heap.get?_push_of_some _ (Heap.get?_push_of_some _ (Heap.get?_push_of_some _ (Heap.get?_push_size _ rfl))))
  show _ ∧ _
  rw [z2, z3, z4] at g5
  rw [z1, z2] at g3
  rw [z3] at g4
  rw [z1] at g2
  rw [z4]
  exact ⟨⟨_, g5, rfl⟩, h _ g5 g3 g4 ⟨_, g1, rfl, rfl⟩ ⟨_, g2, rfl, rfl⟩ up⟩
open L2
/-- the tuple at a and the list at b as they stand at each turn, the items in new pairs -/
def ItzM (K : PySem.W.Frag) (a b : Addr) : It :=
  ⟨fun i H => ∃ (xs ys : List V) (x y : V), SqT K H a xs ∧ SqL K H b ys ∧ xs[i]? = some x ∧ ys[i]? = some y,
    fun i H v H' => ∃ T x y, v = .ref T ∧ H T = none ∧ H' = upd H T (.tup [x, y]) ∧ (∀ xs, SqT K H a xs → xs[i]? = some x) ∧ ∀ ys, SqL K H b ys → ys[i]? = some y,
    fun i H => ∃ xs ys : List V, SqT K H a xs ∧ SqL K H b ys ∧ (xs.length ≤ i ∨ ys.length ≤ i)⟩
theorem turn_zipM {P : Program} {w : World} {K : PySem.W.Frag} {elts : List Expr} {kk : Nat} {tpos : Pos} {a b z TI TO i1 i2 : Addr} (D : ZipApart z TI TO i1 i2 a b) :
    Turn P w K (.Tuple elts kk tpos) (ItzM K a b) [z, TI, TO, i1, i2] z (fun i h => IsZip h z TI TO .none ∧ IsPair h TI (.ref i1) (.ref i2) ∧ (∃ x y, IsPair h TO x y) ∧ h.IsTupleIter i1 a i ∧ h.IsListIter i2 b i) where
  mem := by simp
  obj := fun i h st c hc => by
    obtain ⟨hz, hTI, ⟨x, y, hTO⟩, ⟨o1, e1, _, d1⟩, ⟨o2, e2, _, d2⟩⟩ := st
    have e' : c = z ∨ c = TI ∨ c = TO ∨ c = i1 ∨ c = i2 := by simpa using hc
    rcases e' with rfl | rfl | rfl | rfl | rfl
    · exact ⟨_, hz, fun v q => nomatch q⟩
    · exact ⟨_, hTI, fun v q => nomatch q⟩
    · exact ⟨_, hTO, fun v q => nomatch q⟩
    · exact ⟨o1, e1, fun v q => by rw [d1] at q; cases q⟩
    · exact ⟨o2, e2, fun v q => by rw [d2] at q; cases q⟩
  keep := fun i h h' st k => by
    obtain ⟨hz, hTI, ⟨x, y, hTO⟩, h1, h2⟩ := st
    exact ⟨k z (by simp) _ hz, k TI (by simp) _ hTI, ⟨x, y, k TO (by simp) _ hTO⟩, h1.at fun o q => k i1 (by simp) o q, h2.at fun o q => k i2 (by simp) o q⟩
  item := by
    intro X hP hw hK hc i pins s σ H E I hf st hg
    subst hP hw hK
    obtain ⟨hz, hTI, ⟨x0, y0, hTO⟩, h1, h2⟩ := st
    obtain ⟨xs, ys, x, y, hqx, hqy, hx, hy⟩ := hg
    obtain ⟨its, rv, p, _⟩ := I.tuple hqx
    obtain ⟨its2, rv2, p2, _⟩ := I.list hqy
    obtain ⟨u, hu, ru⟩ := rv.get hx
    obtain ⟨u2, hu2, ru2⟩ := rv2.get hy
    have hzl : z < s.heap.objs.size := Heap.lt_size hz
    refine pn_item (srcT X.prog X.w i1 a its.toArray) (srcL X.prog X.w i2 b its2.toArray) D hz hTI hTO h1 h2 p p2.isList (x := u) (y := u2) (by simpa using hu) (by simpa using hu2) fun h' z' TO' h1' h2' hT hsz hk => ?_
    refine ⟨_, rfl, wpAny_letOwnedTupleGo_zip (s := { s with heap := h' }) z' fun h'' z'' sb => ?_⟩
    have hT2 : h''.get? s.heap.objs.size = some { cls := .type "tuple", data := .seq #[u, u2] } := (sb.2 _ (Nat.ne_of_gt hzl)).trans hT
    have new : ObjOk X.prog X.w (upd H s.heap.objs.size (.tup [x, y])) h'' s.heap.objs.size (.tup [x, y]) :=
      ⟨by show 2 ≤ sizeLine; decide, [u, u2], .cons ru (.cons ru2 .nil), ⟨_, hT2, rfl, _, rfl⟩⟩
    have I1 : Inv X pins σ (upd H s.heap.objs.size (.tup [x, y])) { s with heap := h'' } :=
      I.turnedNew (t' := s.toks) (ch := [z, TI, TO, i1, i2]) (fun c o hb q => (sb.2 c (fun q' => hb (by simp [q']))).trans (hk c o (fun q' => hb (by simp [q'])) (fun q' => hb (by simp [q'])) (fun q' => hb (by simp [q'])) (fun q' => hb (by simp [q'])) q)) hf (Nat.le_refl _) new
    refine ⟨.ref s.heap.objs.size, _, I1, rfl, ⟨_, x, y, rfl, I.hok.fresh (Nat.le_refl _), rfl, fun l hl => by rw [I.tuple_inj hl hqx]; exact hx, fun l hl => by rw [I.list_inj hl hqy]; exact hy⟩, ⟨z'', ?_, ⟨u, u2, ?_⟩, ?_, ?_⟩, fun c hcm => ?_⟩
    · exact (sb.2 _ D.TIz).trans (hk _ _ D.TIz D.TITO D.TIi1 D.TIi2 hTI)
    · exact (sb.2 _ D.TOz).trans TO'
    · exact h1'.at fun o q => (sb.2 _ D.i1z).trans q
    · exact h2'.at fun o q => (sb.2 _ D.i2z).trans q
    · have hlt : c < s.heap.objs.size := by
        have e' : c = z ∨ c = TI ∨ c = TO ∨ c = i1 ∨ c = i2 := by simpa using hcm
        rcases e' with q | q | q | q | q
        · rw [q]; exact hzl
        · rw [q]; exact Heap.lt_size hTI
        · rw [q]; exact Heap.lt_size hTO
        · rw [q]; obtain ⟨_, e1, _⟩ := h1; exact Heap.lt_size e1
        · rw [q]; obtain ⟨_, e2, _⟩ := h2; exact Heap.lt_size e2
      rw [upd_ne (Nat.ne_of_lt hlt)]
      exact (hf c hcm).1
  done := by
    intro X hP hw hK hc i pins s σ H E I hf st hg
    subst hP hw hK
    obtain ⟨hz, hTI, ⟨x0, y0, hTO⟩, h1, h2⟩ := st
    obtain ⟨xs, ys, hqx, hqy, hend⟩ := hg
    obtain ⟨its, rv, p, _⟩ := I.tuple hqx
    obtain ⟨its2, rv2, p2, _⟩ := I.list hqy
    have l1 := rv.length
    have l2 := rv2.length
    have he : its.toArray[i]? = none ∨ its2.toArray[i]? = none := by
      rcases hend with q | q
      · exact .inl (by simp; omega)
      · exact .inr (by simp; omega)
    exact pn_end (srcT X.prog X.w i1 a its.toArray) (srcL X.prog X.w i2 b its2.toArray) (I.ok.hd hc) D hz hTI hTO h1 h2 p p2.isList he fun h' hk => ⟨rfl, I.turnedL (t' := s.toks) (ch := [z, TI, TO, i1, i2]) (fun c o hb q =>
      hk c o (fun q' => hb (by simp [q'])) (fun q' => hb (by simp [q'])) (fun q' => hb (by simp [q'])) (fun q' => hb (by simp [q'])) q) hf⟩
  self := fun A i s Q E st h => wpAny_pyIter_zip st.1 h
/-- zip of two things, told by which -/
def iZipB (K : PySem.W.Frag) (ta : TA) : TI := fun σ H R => ta σ H fun vs H1 => ∃ a b xs ys, vs = [.ref a, .ref b] ∧ ((SqL K H1 a xs ∧ SqL K H1 b ys ∧ R (Itz K a b) H1) ∨ (SqT K H1 a xs ∧ SqT K H1 b ys ∧ R (RZ.ItzT K a b) H1) ∨ (SqT K H1 a xs ∧ SqL K H1 b ys ∧ R (ItzM K a b) H1))
theorem pi_zipB {X : Cx} {e e2 : Expr} {ta : TA} {p pos tpos : Pos} {elts : List Expr} {kk : Nat} (hg : Gl X "zip") (hm : X.mg "zip" = none) (ha : PA X [e, e2] ta)
    (hs : starEach [e, e2] X.env = (false, eval e X.env) :: starEach [e2] X.env := by rfl) (hpl : (backTo pos (starEach [e2] X.env)).any (·.1) = false := by rfl) :
    PI X (.Tuple elts kk tpos) (.Call (.Name "zip" p) [e, e2] [] pos) (iZipB X.K ta) := by
  refine ⟨fun pins s σ H R I h => ?_⟩
  refine Call_ (ld_blt I hg hm PyProof.Rows.boot_zip (PyProof.Rows.callWith_type1 (thn (ha.run pos pins s σ H _ I h) fun us s1 ⟨vs, H1, I1, r1, q1⟩ => ?_) hs hpl))
  obtain ⟨a, b, xs, ys, ex, q1⟩ := q1
  subst ex
  cases r1 with
  | cons r rr =>
    cases rr with
    | cons r' rr =>
      cases rr
      cases r
      cases r'
      have fresh5 : ∀ c, c ∈ [s1.heap.objs.size + 4, s1.heap.objs.size + 2, s1.heap.objs.size + 3, s1.heap.objs.size, s1.heap.objs.size + 1] → FpOk X pins H1 c := fun c hcm => by
        have hle : s1.heap.objs.size ≤ c := by
          have e' : c = s1.heap.objs.size + 4 ∨ c = s1.heap.objs.size + 2 ∨ c = s1.heap.objs.size + 3 ∨ c = s1.heap.objs.size ∨ c = s1.heap.objs.size + 1 := by simpa using hcm
          rcases e' with z | z | z | z | z <;> rw [z] <;> first | exact Nat.le_add_right _ _ | exact Nat.le_refl _
        exact I1.fpOk hle (I1.hok.fresh hle)
      rcases q1 with ⟨hqx, hqy, q⟩ | ⟨hqx, hqy, q⟩ | ⟨hqx, hqy, q⟩
      · obtain ⟨its, rv, p1, _⟩ := I1.list hqx
        obtain ⟨its2, rv2, p2, _⟩ := I1.list hqy
        refine call_zip_2 p1.isList p2.isList fun h' hz hTI hTO h1 h2 hsz hk => wpAny_pyIter_zip hz ?_
        have I2 : Inv X pins σ H1 { s1 with heap := h' } := I1.kept (t' := s1.toks) hk
        exact ⟨s1.heap.objs.size + 4, [s1.heap.objs.size + 4, s1.heap.objs.size + 2, s1.heap.objs.size + 3, s1.heap.objs.size, s1.heap.objs.size + 1], _, _, H1, rfl, I2, turn_zip (PySem.W.ktu_apart s1.heap.objs.size a b p1.lt p2.lt), ⟨hz, hTI, ⟨_, _, hTO⟩, h1, h2⟩, fresh5, q⟩
      · obtain ⟨its, rv, p1, _⟩ := I1.tuple hqx
        obtain ⟨its2, rv2, p2, _⟩ := I1.tuple hqy
        obtain ⟨o1, ho1, _⟩ := id p1
        obtain ⟨o2, ho2, _⟩ := id p2
        refine RZ.call_zipT (show s1.heap.IsTuple a its.toArray from p1) (show s1.heap.IsTuple b its2.toArray from p2) fun h' hz hTI hTO h1 h2 hsz hk => wpAny_pyIter_zip hz ?_
        have I2 : Inv X pins σ H1 { s1 with heap := h' } := I1.kept (t' := s1.toks) hk
        exact ⟨s1.heap.objs.size + 4, [s1.heap.objs.size + 4, s1.heap.objs.size + 2, s1.heap.objs.size + 3, s1.heap.objs.size, s1.heap.objs.size + 1], _, _, H1, rfl, I2, RZ.turn_zipT (PySem.W.ktu_apart s1.heap.objs.size a b (Heap.lt_size ho1) (Heap.lt_size ho2)), ⟨hz, hTI, ⟨_, _, hTO⟩, h1, h2⟩, fresh5, q⟩
      · obtain ⟨its, rv, p1, _⟩ := I1.tuple hqx
        obtain ⟨its2, rv2, p2, _⟩ := I1.list hqy
        obtain ⟨o1, ho1, _⟩ := id p1
        refine call_zipM (show s1.heap.IsTuple a its.toArray from p1) p2.isList fun h' hz hTI hTO h1 h2 hk => wpAny_pyIter_zip hz ?_
        have I2 : Inv X pins σ H1 { s1 with heap := h' } := I1.kept (t' := s1.toks) hk
        exact ⟨s1.heap.objs.size + 4, [s1.heap.objs.size + 4, s1.heap.objs.size + 2, s1.heap.objs.size + 3, s1.heap.objs.size, s1.heap.objs.size + 1], _, _, H1, rfl, I2, turn_zipM (PySem.W.ktu_apart s1.heap.objs.size a b (Heap.lt_size ho1) p2.lt), ⟨hz, hTI, ⟨_, _, hTO⟩, h1, h2⟩, fresh5, q⟩
end MZ

set_option maxHeartbeats 4000000
/-! sorted(set(xs)), xs a list of whole numbers -/
namespace MZ
open PySem PySem.Spec PyProof.Rows L2
section
variable {P : Program} {w : World} {A : Around} {E : Value → Shared → Prop} {s : Shared}
theorem call_set_lstI {l : Addr} {items : Array Value} (ns : List Int) {Q : Value → Shared → Prop} (hh : A.handled = none) (hl : s.heap.IsList l items) (hit : IntsAre items.toList ns) (hb : ns.length + 1 < scanBound)
    (h : ∀ (h' : Heap) (tk c : Nat), SetR w h' s.heap.objs.size (fun j => decide (j ∈ ns)) c → c ≤ ns.length → (∀ b o, s.heap.get? b = some o → h'.get? b = some o) → Q (.ref s.heap.objs.size) { s with heap := h', toks := tk }) :
    wpAny (model P w) A (call (.type "set") [.ref l]) Q E s := by
  have hisz : items.size = ns.length := by
    have q := IntsAre.length hit
    rw [Array.length_toList] at q
    exact q
  obtain ⟨c, tl, hmro⟩ := F.called_set.mro
  have hmade := F.called_set.made
  have hsub := F.called_set.sub
  refine wpAny_call (codeAny_of_tree ?_)
  show wpAny _ _ (callAny (.type "set") _) _ _ _
  refine wpAny_pure ⟨Code.quiet_builtin _ (by decide +kernel), codeAny_builtin F.entry_type_call ?_⟩
  rw [Around.under_plain (weight_type_call_type "set" [.ref l] []) rfl]
  have h1 := F.called_set.notType
  have h2 := F.called_set.canCreate
  have hct := F.typeCall_set_1 (.ref l)
  repeat (any_goals (first | assumption | wp_step))

  refine codeAny_mono (code_set_led1 (.ref l) (E := E) (Q₁ := fun obj s₁ => obj = .ref s.heap.objs.size ∧ s₁ = { s with heap := s.heap.push { cls := .type "set", dict := none, data := .set #[] 0 (.fresh 0 0 (!w.params.followText "set-order")) } }) ⟨rfl, rfl⟩) fun r s₁ hr => ?_
  cases r with
  | error e => exact hr
  | ok fl =>
    cases fl with
    | ret obj =>
      obtain ⟨rfl, rfl⟩ := hr
      have hS : (s.heap.push { cls := .type "set", dict := none, data := .set #[] 0 (.fresh 0 0 (!w.params.followText "set-order")) }).get? s.heap.objs.size = some { cls := .type "set", dict := none, data := .set #[] 0 (.fresh 0 0 (!w.params.followText "set-order")) } := Heap.get?_push_size _ rfl
      have hT : Shared.TypeIs { s with heap := s.heap.push { cls := .type "set", dict := none, data := .set #[] 0 (.fresh 0 0 (!w.params.followText "set-order")) } } (.ref s.heap.objs.size) "set" := ⟨_, hS, rfl⟩
      have hli := F.called_set.init.lookup
      have hbi := F.called_set.init.bind (.ref s.heap.objs.size)
      repeat (any_goals (first | assumption | wp_step))

      refine codeAny_mono (codeAny_call_builtin (R := wants (fun r s₂ => r = .none ∧ ∃ h' tk c, s₂ = { s with heap := h', toks := tk } ∧ SetR w h' s.heap.objs.size (fun j => decide (j ∈ ns)) c ∧ c ≤ ns.length ∧
          (∀ b o, s.heap.get? b = some o → h'.get? b = some o)) E) F.called_set.init.plain F.entry_set_init (check_set_init_1 hT ?_)) fun r₂ s₂ hr₂ => ?_
      · obtain ⟨ol, hol, hcl, nl, hdl⟩ := hl
        obtain ⟨ocls, odict, odata, oslots⟩ := ol
        simp only at hcl hdl
        subst hcl; subst hdl
        have hol' : (s.heap.push { cls := .type "set", dict := none, data := .set #[] 0 (.fresh 0 0 (!w.params.followText "set-order")) }).get? l = some { cls := .type "list", dict := odict, data := .seq items nl, slots := oslots } := Heap.get?_push_of_some _ hol
        have hsls := F.sub_list_set
        have hslf := F.sub_list_frozenset
        have hne : (Value.type "list" == Value.type "dict") = false := by decide
        have hl1 : (s.heap.push { cls := .type "set", dict := none, data := .set #[] 0 (.fresh 0 0 (!w.params.followText "set-order")) }).IsList l items := ⟨_, hol', rfl, nl, rfl⟩
        unfold Builtin.«set.__init__» noKeywords Builtin.Frozenset.updateFrom
        generalize hPI : pyIter = PI
        wp_walk
        subst hPI

        refine wpAny_pyIter_list hl1 ?_
        refine wpAny_bind (wpAny_runValue ?_)
        have hlS : l < s.heap.objs.size := Heap.lt_size hol
        have hh3 : A.in1.in1.in1.handled = none := by simp [hh]
        have hz1 : (s.heap.push { cls := .type "set", dict := none, data := .set #[] 0 (.fresh 0 0 (!w.params.followText "set-order")) }).objs.size = s.heap.objs.size + 1 := Heap.size_push ..
        have hneI : l ≠ (s.heap.push { cls := .type "set", dict := none, data := .set #[] 0 (.fresh 0 0 (!w.params.followText "set-order")) }).objs.size := by
          rw [Heap.size_push]; exact Nat.ne_of_lt (Nat.lt_succ_of_lt hlS)
        have hSf : s.heap.objs.size ∉ [(s.heap.push { cls := .type "set", dict := none, data := .set #[] 0 (.fresh 0 0 (!w.params.followText "set-order")) }).objs.size, l] := by
          rw [Heap.size_push]; simp only [List.mem_cons, List.mem_singleton, List.not_mem_nil, or_false, not_or]
          exact ⟨Nat.ne_of_lt (Nat.lt_succ_self _), Nat.ne_of_gt hlS⟩
        have hval : ∀ (i : Nat) (v : Value), items[i]? = some v → ∃ k t, ns[i]? = some k ∧ v = .int k t := fun i v hv => by
          have hi : i < ns.length := by rw [← hisz]; exact (Array.getElem?_eq_some_iff.mp hv).1
          obtain ⟨t, e⟩ := PyProof.Rows.IntsAre.int_at hit i v (by rw [Array.getElem?_toList]; exact hv)
          refine ⟨ns[i], t, List.getElem?_eq_getElem hi, ?_⟩
          rw [e, List.getD_eq_getElem?_getD, List.getElem?_eq_getElem hi] <;> rfl
        refine set_update_ints ((Walks.list hh3 _ l hneI items).toS) s.heap.objs.size
          hSf ns hisz hb hval (items.size - 0) 0 _ (by omega) (Nat.zero_le _)
          ⟨⟨_, Heap.get?_push_size _ rfl, rfl, rfl⟩, (hl1.push _)⟩ ?hS0 ?hR
        case hS0 =>
          have hget : ((s.heap.push { cls := .type "set", dict := none, data := .set #[] 0 (.fresh 0 0 (!w.params.followText "set-order")) }).push { cls := .type "list_iterator", data := .fields #[.ref l, .int 0 0] }).get? s.heap.objs.size
              = some { cls := .type "set", dict := none, data := .set #[] 0 (.fresh 0 0 (!w.params.followText "set-order")) } := Heap.get?_push_of_some _ hS
          exact ⟨0, Nat.le_refl 0, setR_new_at hget⟩
        case hR =>
          intro s' c' hm hc' hS'
          obtain ⟨h', g2, d', tk', os'⟩ := s'
          have eg : g2 = s.gens := hm.gens
          have ed : d' = s.drawn := hm.drawn
          have eo : os' = s.os := hm.os
          subst eg; subst ed; subst eo
          show wpAny _ _ _ _ _ _
          refine wpAny_pure ?_
          show wpAny _ _ (ret Value.none) _ _ _
          rw [hisz] at hc'
          refine wpAny_pure ⟨rfl, h', tk', c', rfl, hS', hc', fun b o e => ?_⟩
          have hb0 : b < s.heap.objs.size := Heap.lt_size e
          have hb1 : b ≠ s.heap.objs.size := Nat.ne_of_lt hb0
          have hb2 : b ≠ (s.heap.push { cls := .type "set", dict := none, data := .set #[] 0 (.fresh 0 0 (!w.params.followText "set-order")) }).objs.size := by
            rw [Heap.size_push]; exact Nat.ne_of_lt (Nat.lt_succ_of_lt hb0)
          exact hm.heap b o (by simp only [List.mem_cons, List.mem_singleton, List.not_mem_nil, or_false, not_or]; exact ⟨hb1, hb2⟩) (Heap.get?_push_of_some _ (Heap.get?_push_of_some _ e))

      · cases r₂ with
        | error e => exact hr₂
        | ok fl₂ =>
          cases fl₂ with
          | ret r =>
            obtain ⟨rfl, h', tk, c', rfl, hS', hc', hk'⟩ := hr₂
            repeat (any_goals (first | assumption | wp_step))
            exact h _ _ _ hS' hc' hk'
          | _ => exact hr₂.elim
    | _ => exact hr.elim

end
/-- sorted(set(xs)), xs a list of fewer than 64 whole numbers -/
def tSortSet (K : PySem.W.Frag) (te : TE) : TE := fun σ H Q => te σ H fun x H1 => ∃ (l : Addr) (ns : List Int), x = .ref l ∧ SqL K H1 l (ns.map V.int) ∧ ns.length < 64 ∧
  ∀ (ms : List Int) (p : Addr), ms.Pairwise (· < ·) → (∀ k, k ∈ ms ↔ k ∈ ns) → H1 p = none → Q (.ref p) (upd H1 p (.lst (ms.map V.int)))
theorem pe_sortSet {X : Cx} {e : Expr} {te : TE} {p p2 pos pos2 : Pos} (hc : X.calm = true) (hg : Gl X "sorted") (hm : X.mg "sorted" = none) (hg2 : Gl X "set") (hm2 : X.mg "set" = none) (he : PE X e te)
    (hs : starEach [e] X.env = (false, eval e X.env) :: starEach [] X.env := by rfl)
    (hs2 : starEach [.Call (.Name "set" p2) [e] [] pos2] X.env = (false, eval (.Call (.Name "set" p2) [e] [] pos2) X.env) :: starEach [] X.env := by rfl) :
    PE X (.Call (.Name "sorted" p) [.Call (.Name "set" p2) [e] [] pos2] [] pos) (tSortSet X.K te) := by
  refine ⟨fun pins s σ H Q I h => ?_⟩
  refine Call_ (ld_blt I hg hm boot_sorted (PyProof.Rows.callWith_builtin1 (args_cons (Call_ (ld_blt I hg2 hm2 boot_set (PyProof.Rows.callWith_type1 (args_cons (thn (he.run pins s σ H _ I h) fun u s1 ⟨v, H1, I1, r1, q1⟩ => args_nil ?_) hs) hs rfl))) hs2) hs2 rfl))
  obtain ⟨a, ns, ev, hq, hl, q⟩ := q1
  subst ev
  obtain rfl : u = Value.ref a := r1
  obtain ⟨its, rv, p', hz⟩ := I1.list hq
  refine call_set_lstI ns (I1.ok.hd hc) p'.isList (by simpa using ints_of_vals rv) (by unfold scanBound; omega) fun h' tk c R hc' k0 => args_nil ?_
  have I2 : Inv X pins σ H1 { s1 with heap := h', toks := tk } := I1.kept k0
  refine sorted_set R (I2.ok.hd hc) (by omega) fun s' p out c ms k g o hp hg hi hs' hm hl' => ?_
  have hn : H1 p = none := I2.hok.fresh hp
  have hlen : (ms.map V.int).length ≤ sizeLine := by rw [List.length_map, hl', sizeLine_eq]; omega
  have J : Inv X pins σ (upd H1 p (.lst (ms.map V.int))) { ({ s1 with heap := h', toks := tk } : Shared) with heap := s'.heap, gens := s'.gens, drawn := s'.drawn, toks := s'.toks } :=
    I2.call (ch := []) (Un.laid k hp hn) (I2.hok.laid k hp ⟨hlen, out.toList, c, vals_of_ints hi, hg⟩) (by rw [g]; exact I2.bare) (fun _ z => nomatch z)
  have e : s' = { ({ s1 with heap := h', toks := tk } : Shared) with heap := s'.heap, gens := s'.gens, drawn := s'.drawn, toks := s'.toks } := by
    cases s'
    cases s1
    cases o
    rfl
  rw [e]
  exact ⟨.ref p, _, J, rfl, q ms p hs' (fun k => by rw [hm]; simp) hn⟩
end MZ

set_option maxHeartbeats 1000000
/-! tuple(reversed(t)), t a tuple too -/
namespace MR
open PySem PySem.Spec PyProof.Rows L2 RT
theorem nolen_rt : typeLookup (.type "reversed") "__len__" = pure none := by
  rw [typeLookup_type, builtinLookup_eq_fast]
  kernel_rfl
theorem hint_rt : typeLookup (.type "reversed") "__length_hint__" = pure (some (.builtin "reversed.__length_hint__")) := by
  rw [typeLookup_type, builtinLookup_eq_fast]
  kernel_rfl
section
variable {prog : Program} {w : World} {A : Around} {E : Value → Shared → Prop} {s : Shared}
theorem walks_rt (no : A.handled = none) (u t : Addr) (ne : t ≠ u) (ys : Array Value) (sz : ys.size ≤ sizeLine) :
    Walks prog w A u [u, t] [u] ys.size (fun k v => ys[ys.size - 1 - k]? = some v) (fun k h => k ≤ ys.size ∧ IsRt h u t ((ys.size : Int) - 1 - (k : Int)) ∧ IsTup h t ys) where
  sub := fun b m => by simp at m; simp [m]
  frame := fun _ _ _ st keep => ⟨st.1, st.2.1.at fun o e => keep u (by simp) o e, let ⟨o, ho, r⟩ := st.2.2; ⟨o, keep t (by simp) o ho, r⟩⟩
  item := fun k s Q E lt st hQ => by
    have e1 : (ys.size : Int) - 1 - (k : Int) = ((ys.size - 1 - k : Nat) : Int) := by omega
    have r := st.2.1
    rw [e1] at r
    have ex : ys[ys.size - 1 - k]? = some (ys[ys.size - 1 - k]'(by omega)) := Array.getElem?_eq_getElem (by omega)
    refine next_rt_item r st.2.2 ex sz fun h' r' same => ?_
    have e3 : ((ys.size - 1 - k : Nat) : Int) - 1 = (ys.size : Int) - 1 - ((k + 1 : Nat) : Int) := by omega
    rw [e3] at r'
    exact hQ _ h' (s.toks + 1) ex ⟨lt, r', let ⟨o, ho, r⟩ := st.2.2; ⟨o, (same.2 t ne).trans ho, r⟩⟩ fun b o out eo => same.extBut b o (fun z => out (by simp [z])) eo
  done := fun s Q E st hQ => by
    have e1 : (ys.size : Int) - 1 - (ys.size : Int) = -1 := by omega
    have r := st.2.1
    rw [e1] at r
    exact next_rt_end no r fun h' ext => hQ h' s.toks fun b o out eo => ext b o (fun z => out (by simp [z])) eo
  self := fun _ _ _ _ st hQ => iter_rt st.2.1 hQ

theorem slot_rh : Slot "reversed" "__length_hint__" "reversed.__length_hint__" :=
  .of (owner := "reversed") (n := "__length_hint__") (by
      rw [typeLookup_type, builtinLookup_eq_fast]
      kernel_rfl) (by decide +kernel) (by decide +kernel) (by decide +kernel)
    (by first | exact .inl (by decide +kernel) | exact .inr (by decide +kernel)) (by
      rw [isSubtype_type]
      kernel_rfl)
theorem entry_rh : entryFor table "reversed.__length_hint__" = some Builtin.«reversed.__length_hint__» := entryFor_of_tree (by kernel_rfl)
theorem args_rh (a : Value) : argsOk "reversed.__length_hint__" ⟨[a], []⟩ := by
  unfold argsOk
  rw [signature?_of (id := "reversed.__length_hint__") (n := ['_', '_', 't', 'n', 'i', 'h', '_', 'h', 't', 'g', 'n', 'e', 'l', '_', '_']) (o := ['d', 'e', 's', 'r', 'e', 'v', 'e', 'r']) (by kernel_rfl) owner_rt]
  kernel_rfl
theorem call_rh {u t : Addr} {ys : Array Value} {Q : Value → Shared → Prop} (r : IsRt s.heap u t ((ys.size : Int) - 1)) (tp : IsTup s.heap t ys)
    (ln : ∀ (A : Around) (E : Value → Shared → Prop) (Q : Value → Shared → Prop) (s' : Shared), s'.heap = s.heap → Q (.int ys.size (s'.toks + 1)) { s' with toks := s'.toks + 1 + 1 } → wpAny (model prog w) A (call (.builtin "len") [.ref t]) Q E s')
    (k : ∀ tk tk2, Q (.int ys.size tk) { s with toks := tk2 }) : wpAny (model prog w) A (call (.builtin "reversed.__length_hint__") [.ref u]) Q E s := by
  obtain ⟨o, ho, hc, hd⟩ := id r
  refine wpAny_call_entry slot_rh r.typeIs entry_rh ?_ (args_rh _)
  unfold Builtin.«reversed.__length_hint__»
  refine wpAny_bind (wpAny_of_eq (a := Value.ref u) rfl ?_)
  refine wpAny_bind (wpAny_field ho hd (x := .ref t) rfl ?_)
  try dsimp only
  rw [if_neg (by simp)]
  refine wpAny_bind (ln _ _ _ s rfl ?_)
  refine wpAny_bind (wpAny_of_eq (a := some (ys.size : Int)) (by first | rfl | kernel_rfl) ?_)
  try dsimp only
  refine wpAny_bind (wpAny_field (s := { s with toks := s.toks + 1 + 1 }) ho hd (x := rawInt ((ys.size : Int) - 1)) rfl ?_)
  show wpAny _ _ (if (ys.size : Int) < (ys.size : Int) - 1 + 1 then _ else _) _ _ _
  rw [if_neg (by omega), show (ys.size : Int) - 1 + 1 = (ys.size : Int) by omega]
  refine wpAny_bind (wpAny_mkInt ?_)
  exact wpAny_pure ⟨_, rfl, k _ _⟩
abbrev nobj : Obj := { cls := .type "list", data := .seq ([] : List Value).toArray }
theorem gather_rt {u t : Addr} {ys : Array Value} {Q : List Value → Shared → Prop} (no : A.handled = none) (r : IsRt s.heap u t ((ys.size : Int) - 1)) (tp : IsTup s.heap t ys) (ne : t ≠ u) (sz : ys.size ≤ sizeLine)
    (hQ : ∀ (h' : Heap) (tk : Nat) (got : Array Value), (∀ b o, b ≠ u → s.heap.get? b = some o → h'.get? b = some o) → ItemsOf (fun k v => ys[ys.size - 1 - k]? = some v) got ys.size → Q got.toList { s with heap := h', toks := tk }) :
    wpAny (model prog w) A (collect (.ref u)) Q E s := by
  have G := (walks_rt (prog := prog) (w := w) (A := A.in1) no u t ne ys sz).toS
  obtain ⟨ou, hu, _⟩ := id r
  obtain ⟨ot, ht, _⟩ := id tp
  have n1 : s.heap.objs.size ≠ u := Nat.ne_of_gt (Heap.lt_size hu)
  have n2 : s.heap.objs.size ≠ t := Nat.ne_of_gt (Heap.lt_size ht)
  have n3 : s.heap.objs.size ∉ [u, t] := by
    simp only [List.mem_cons, List.not_mem_nil, or_false, not_or]
    exact ⟨n1, n2⟩
  unfold collect
  refine wpAny_bind (wpAny_runValue (codeAny_builtin F.entry_proto_collect ?_))
  rw [Around.under_plainId F.plain_proto_collect _]
  show wpAny _ A.in1 (newList [] >>= fun z => again (.builtin "list.__iadd__" ⟨[z, .ref u], []⟩)) _ _ s
  refine wpAny_bind (wpAny_newObj_type ?_)
  refine wpAny_pure ⟨plainId_quiet F.plain_list_iadd _, codeAny_builtin F.entry_list_iadd ?_⟩
  rw [Around.under_plainId F.plain_list_iadd _]
  have hnew : (s.heap.push nobj).get? s.heap.objs.size = some nobj := Heap.get?_push_size _ rfl
  have r1 : IsRt (s.heap.push nobj) u t ((ys.size : Int) - 1) := r.at fun o e => Heap.get?_push_of_some _ e
  have tp1 : IsTup (s.heap.push nobj) t ys := tp.push _
  have ty : ({ s with heap := s.heap.push nobj } : Shared).TypeIs (.ref u) "reversed" := IsRt.typeIs (s := { s with heap := s.heap.push nobj }) r1
  have same : Builtin.List.listSameRef (.ref s.heap.objs.size) (.ref u) = false := by simp [Builtin.List.listSameRef, n1]
  show wpAny _ A.in1 (Builtin.List.listExtendWith (.ref s.heap.objs.size) (.ref u) (.ref s.heap.objs.size)) _ _ _
  unfold Builtin.List.listExtendWith
  refine wpAny_bind (wpAny_typeOf ty ?_)
  rw [if_neg (by rw [same]; decide)]
  refine wpAny_bind (iter_rt (s := { s with heap := s.heap.push nobj }) r1 ?_)
  refine wpAny_bind (wpAny_holding ?_)
  unfold Builtin.List.listLengthHint
  refine wpAny_bind (wpAny_specialOf ty nolen_rt ?_)
  show wpAny _ A.in1 (specialOf (Value.ref u) (Str.ofString "__length_hint__") >>= _) _ _ _
  refine wpAny_bind (wpAny_specialOf ty hint_rt ?_)
  generalize hid : ("reversed.__length_hint__" : String) = id1
  wp_delta
  rw [show splitId id1 = some ("reversed", "__length_hint__") from by subst hid; decide +kernel]
  subst hid
  refine wpAny_bind (wpAny_isInstance (b := true) ty (by rw [isSubtype_type]; kernel_rfl) ?_)
  rw [if_neg (by decide)]
  try dsimp only
  rw [if_neg (by decide +kernel)]
  refine wpAny_bind (wpAny_rule ?_)
  refine wpAny_bind (wpAny_of_eq (slot_rh.bind _) ?_)
  try dsimp only
  have n63 := line63
  have hl : ∀ (A : Around) (E : Value → Shared → Prop) (Q : Value → Shared → Prop) (s' : Shared), s'.heap = s.heap.push nobj → Q (.int ys.size (s'.toks + 1)) { s' with toks := s'.toks + 1 + 1 } → wpAny (model prog w) A (call (.builtin "len") [.ref t]) Q E s' := by
    intro A E Q s' hs k
    refine len_tuple (s := s') (by rw [hs]; exact tp1) ?_ k
    have := sz
    omega
  refine wpAny_bind (wpAny_attempt ?_)
  refine call_rh (s := { s with heap := s.heap.push nobj }) r1 tp1 hl fun tk tk2 => ?_
  try dsimp only
  have ai : asInt? (.int (ys.size : Int) tk) = pure (some (ys.size : Int)) := rfl
  refine wpAny_bind ?_
  rw [ai]
  refine wpAny_pure ?_
  try dsimp only
  rw [if_neg (by
    have : Builtin.List.listFitsIndex (ys.size : Int) = true := by
      unfold Builtin.List.listFitsIndex
      simp
      omega
    rw [this]; decide)]
  rw [if_neg (by omega), if_neg (by
    unfold Builtin.List.listTooLong
    simp
    exact sz)]
  refine wpAny_pure ?_
  have z0 : ((ys.size : Nat) : Int) - 1 - ((0 : Nat) : Int) = (ys.size : Int) - 1 := by omega
  have last : ∀ (h3 : Heap) (c3 : _), h3.get? s.heap.objs.size = some { cls := .type "list", data := .seq (#[] : Array Value) c3 } → (∀ b o, b ≠ s.heap.objs.size → (s.heap.push nobj).get? b = some o → h3.get? b = some o) →
      wpAny (model prog w) A.in1 (again (Code.builtin "list.extend.loop" ⟨[Value.ref s.heap.objs.size, Value.ref u, Value.ref s.heap.objs.size], []⟩)) (fun fin s' =>
          match fin with
          | Fin.done f =>
            match Except.ok f with
            | Except.ok (Flow.ret v) => wpAny (model prog w) A (match v with
                | Value.ref a => do
                  let o ← load a
                  match o.data with
                    | Data.seq xs _ => pure xs.toList
                    | _ => unsupported "internal:collect"
                | _ => unsupported "internal:collect") Q E s'
            | Except.ok a => False
            | Except.error e => E e s'
          | Fin.again c' => c'.quiet = true ∧ codeAny (model prog w) A c' (fun r s' =>
                  match r with
                  | Except.ok (Flow.ret v) => wpAny (model prog w) A (match v with
                      | Value.ref a => do
                        let o ← load a
                        match o.data with
                          | Data.seq xs _ => pure xs.toList
                          | _ => unsupported "internal:collect"
                      | _ => unsupported "internal:collect") Q E s'
                  | Except.ok a => False
                  | Except.error e => E e s') s')
        (fun e s' => E e s') { s with heap := h3, toks := tk2 } := by
    intro h3 c3 hS3 oth
    have r3 : IsRt h3 u t ((ys.size : Int) - 1) := r1.at fun o e => oth u o (Ne.symm n1) e
    have tp3 : IsTup h3 t ys := let ⟨o, ho, q⟩ := tp1; ⟨o, oth t o (Ne.symm n2) ho, q⟩
    refine wpAny_pure ⟨plainId_quiet F.plain_extend_loop _, codeAny_extend_loopS G sz _ n3 _ ys.size 0 _ _ _ rfl (Nat.zero_le _) ⟨Nat.zero_le _, by rw [z0]; exact r3, tp3⟩ hS3 (ItemsOf.nil _) fun s2 got c2 mv hS2 hgot => ?_⟩
    show wpAny _ A (load s.heap.objs.size >>= _) _ _ s2
    refine wpAny_bind (wpAny_load hS2 ?_)
    refine wpAny_pure ?_
    rw [Moved.eq_with mv]
    refine hQ s2.heap s2.toks got (fun b o hb e => mv.heap b o (fun inn => ?_) (oth b o (Nat.ne_of_lt (Heap.lt_size e)) (Heap.get?_push_of_some _ e))) hgot
    rcases List.mem_cons.mp inn with e' | inn
    · exact absurd (Heap.lt_size e) (by rw [e']; exact Nat.lt_irrefl _)
    · exact hb (List.mem_singleton.mp inn)
  by_cases y0 : ys.size = 0
  · rw [if_neg (by rw [y0]; decide +kernel)]
    exact last _ _ hnew fun b o _ e => e
  · rw [if_pos (by simp [y0])]
    refine wpAny_bind (wpAny_rule ?_)
    refine wpAny_bind ?_
    show wpAny _ A.in1 (updateSeq s.heap.objs.size (fun q => q.push .none) >>= fun _ => updateSeq s.heap.objs.size (fun q => q.pop)) _ _ _
    refine wpAny_bind (wpAny_updateSeq hnew rfl ?_)
    have hS2 := Heap.get?_update_self (Obj.mapSeq (fun q => q.push Value.none)) hnew rfl
    refine wpAny_updateSeq hS2 rfl ?_
    have hS3 := Heap.get?_update_self (Obj.mapSeq (fun q => q.pop)) hS2 rfl
    exact last _ _ hS3 fun b o hb e => (Heap.get?_update_other _ _ (Ne.symm hb)).trans ((Heap.get?_update_other _ _ (Ne.symm hb)).trans e)
theorem mk_tuple_rt {u t : Addr} {ys : Array Value} {Q₁ : Value → Shared → Prop} (no : A.handled = none) (r : IsRt s.heap u t ((ys.size : Int) - 1)) (tp : IsTup s.heap t ys) (ne : t ≠ u) (sz : ys.size ≤ sizeLine)
    (k : ∀ (h' : Heap) (tk : Nat) (got : Array Value), (∀ b o, b ≠ u → s.heap.get? b = some o → h'.get? b = some o) → ItemsOf (fun k v => ys[ys.size - 1 - k]? = some v) got ys.size →
      Q₁ (.ref h'.objs.size) { s with heap := h'.push { cls := .type "tuple", data := .seq got }, toks := tk }) :
    codeAny (model prog w) A (.call (.builtin "tuple.__new__") ⟨[.type "tuple", .ref u], []⟩) (wants Q₁ E) s := by
  refine codeAny_of_tree ?_
  show wpAny _ A.in1 (do checkBuiltinCall "tuple.__new__" ⟨[.type "tuple", .ref u], []⟩; again (.builtin "tuple.__new__" ⟨[.type "tuple", .ref u], []⟩)) _ _ s
  refine wpAny_bind (wpAny_of_eq (F.newCall_tuple_1 _) (wpAny_pure ⟨plainId_quiet F.plain_tuple_new _, codeAny_builtin F.entry_tuple_new ?_⟩))
  rw [Around.under_plainId F.plain_tuple_new _]
  have q1 := sub_tuple_self
  have q2 := init_tuple_lookup
  have q3 := madeHere_tuple
  have tyU : s.TypeIs (.ref u) "reversed" := r.typeIs
  have no1 : A.in1.handled = none := no
  wp_walk using wpAny_typeOf tyU, gather_rt (A := A.in1) no1 r tp ne sz
  intro h' tk got keep hgot
  show wpAny _ _ (Builtin.Tuple.tupleExact got.toList.toArray >>= fun v => ret v) _ _ _
  unfold Builtin.Tuple.tupleExact
  refine wpAny_bind (wpAny_newObj_type ?_ (by show got.toList.toArray.size ≤ sizeLine; simp only [Array.toArray_toList]; rw [hgot.1]; exact sz))
  refine wpAny_pure ?_
  have e : got.toList.toArray = got := by simp
  rw [e]
  exact k h' tk got keep hgot
theorem call_tuple_rt {u t : Addr} {ys : Array Value} {Q : Value → Shared → Prop} (no : A.handled = none) (r : IsRt s.heap u t ((ys.size : Int) - 1)) (tp : IsTup s.heap t ys) (ne : t ≠ u) (sz : ys.size ≤ sizeLine)
    (k : ∀ (h' : Heap) (tk : Nat) (got : Array Value), (∀ b o, b ≠ u → s.heap.get? b = some o → h'.get? b = some o) → ItemsOf (fun k v => ys[ys.size - 1 - k]? = some v) got ys.size →
      Q (.ref h'.objs.size) { s with heap := h'.push { cls := .type "tuple", data := .seq got }, toks := tk }) :
    wpAny (model prog w) A (call (.type "tuple") [.ref u]) Q E s := by
  refine callType_codes (Q₁ := fun z s₁ => s₁.TypeIs z "tuple" ∧ Q z s₁) F.called_tuple (F.typeCall_tuple_1 _) F.entry_object_init
    (mk_tuple_rt (A := A.in1) no r tp ne sz fun h' tk got keep hgot => ⟨⟨_, Heap.get?_push_size _ rfl, rfl⟩, k h' tk got keep hgot⟩) fun z s₁ h₁ => ?_
  exact ⟨h₁.1, F.args_object_init_2 z _, object_init_meets F.called_tuple.init.lookup F.called_tuple.made (by decide) prog w A.in1 _ s₁ ⟨h₁.1, rfl, h₁.2⟩⟩
end
/-- tuple(reversed(x)), x a list or a tuple: a new tuple -/
def tRv (K : PySem.W.Frag) (te : TE) : TE := fun σ H Q => te σ H fun v H1 => ∃ (a : Addr) (xs : List V), v = .ref a ∧ (SqL K H1 a xs ∨ SqT K H1 a xs) ∧ ∀ q, H1 q = none → Q (.ref q) (upd H1 q (.tup xs.reverse))
section
variable {X : Cx}
theorem pe_rv {e : Expr} {te : TE} {p p2 pos pos2 : Pos} (hc : X.calm = true) (hg : Gl X "tuple") (hm : X.mg "tuple" = none) (hg2 : Gl X "reversed") (hm2 : X.mg "reversed" = none) (he : PE X e te)
    (hs : starEach [e] X.env = (false, eval e X.env) :: starEach [] X.env := by rfl)
    (hs2 : starEach [.Call (.Name "reversed" p2) [e] [] pos2] X.env = (false, eval (.Call (.Name "reversed" p2) [e] [] pos2) X.env) :: starEach [] X.env := by rfl) :
    PE X (.Call (.Name "tuple" p) [.Call (.Name "reversed" p2) [e] [] pos2] [] pos) (tRv X.K te) := by
  refine ⟨fun pins s σ H Q I h => ?_⟩
  refine Call_ (ld_blt I hg hm boot_tuple (PyProof.Rows.callWith_type1 (args_cons (Call_ (ld_blt I hg2 hm2 PyProof.Rows.boot_reversed (PyProof.Rows.callWith_type1 (args_cons (thn (he.run pins s σ H _ I h) fun u s1 ⟨v, H1, I1, r1, q1⟩ => args_nil ?_) hs) hs rfl))) hs2) hs2 rfl))
  obtain ⟨a, xs, ev, hq | hq, q⟩ := q1
  · subst ev
    obtain rfl : u = Value.ref a := r1
    obtain ⟨us, rv, il, hz⟩ := I1.list hq
    refine call_reversed_list il.isList (args_nil ?_)
    have k0 : ∀ b o, s1.heap.get? b = some o → (s1.heap.push (revObj a ((us.toArray.size : Int) - 1))).get? b = some o := fun b o e => Heap.get?_push_of_some _ e
    have I2 : Inv X pins σ H1 { s1 with heap := s1.heap.push (revObj a ((us.toArray.size : Int) - 1)) } := I1.kept (t' := s1.toks) k0
    obtain ⟨f0, f1, f2, f3, f4, f5⟩ := I1.fpOk (H' := H1) (b := s1.heap.objs.size) (Nat.le_refl _) (I1.hok.fresh (Nat.le_refl _))
    have hl := il.isList
    obtain ⟨ol, hol, _⟩ := id hl
    have ne : a ≠ s1.heap.objs.size := Nat.ne_of_lt (Heap.lt_size hol)
    have sz : us.toArray.size ≤ sizeLine := by
      rw [List.size_toArray, ← rv.length]
      exact hz
    refine call_tuple_rev (s := { s1 with heap := s1.heap.push (revObj a ((us.toArray.size : Int) - 1)) }) (I1.ok.hd hc) ⟨_, Heap.get?_push_size _ rfl, rfl, rfl⟩ (hl.push _) ne sz fun h' tk got hk hi => ?_
    have I3 : Inv X pins σ H1 { s1 with heap := h', toks := tk } := I2.turned (t' := tk) (fun b o hb e => hk b o hb e) f0 f1 f3 f4 f5
    refine ⟨.ref h'.objs.size, upd H1 h'.objs.size (.tup xs.reverse), I3.laid (t' := tk) (fun c o e => Heap.get?_push_of_some _ e) (Nat.le_refl _) (show ObjOk X.prog X.w _ _ _ (.tup xs.reverse) from ⟨by rw [List.length_reverse]; exact hz, got.toList, vals_rev rv hi, ?_⟩), rfl, q _ (I3.hok.fresh (Nat.le_refl _))⟩
    rw [Array.toArray_toList]
    exact IsTup.new _ _
  · subst ev
    obtain rfl : u = Value.ref a := r1
    obtain ⟨us, rv, tp, hz⟩ := I1.tuple hq
    have hl := rv.length
    have n63 := line63
    refine call_reversed_tup tp (fun A E Q k => len_tuple tp (by simp only [List.size_toArray] <;> omega) k) (args_nil ?_)
    have k0 : ∀ b o, s1.heap.get? b = some o → (s1.heap.push (rtObj a ((us.toArray.size : Int) - 1))).get? b = some o := fun b o e => Heap.get?_push_of_some _ e
    have I2 : Inv X pins σ H1 { s1 with heap := s1.heap.push (rtObj a ((us.toArray.size : Int) - 1)), toks := s1.toks + 1 + 1 } := I1.kept (t' := s1.toks + 1 + 1) k0
    obtain ⟨f0, f1, f2, f3, f4, f5⟩ := I1.fpOk (H' := H1) (b := s1.heap.objs.size) (Nat.le_refl _) (I1.hok.fresh (Nat.le_refl _))
    obtain ⟨ol, hol, _⟩ := id tp
    have ne : a ≠ s1.heap.objs.size := Nat.ne_of_lt (Heap.lt_size hol)
    have sz : us.toArray.size ≤ sizeLine := by
      rw [List.size_toArray, ← rv.length]
      exact hz
    refine call_tuple_rt (s := { s1 with heap := s1.heap.push (rtObj a ((us.toArray.size : Int) - 1)), toks := s1.toks + 1 + 1 }) (I1.ok.hd hc) ⟨_, Heap.get?_push_size _ rfl, rfl, rfl⟩ (tp.push _) ne sz fun h' tk got hk hi => ?_
    have I3 : Inv X pins σ H1 { s1 with heap := h', toks := tk } := I2.turned (t' := tk) (fun b o hb e => hk b o hb e) f0 f1 f3 f4 f5
    refine ⟨.ref h'.objs.size, upd H1 h'.objs.size (.tup xs.reverse), I3.laid (t' := tk) (fun c o e => Heap.get?_push_of_some _ e) (Nat.le_refl _) (show ObjOk X.prog X.w _ _ _ (.tup xs.reverse) from ⟨by rw [List.length_reverse]; exact hz, got.toList, vals_rev rv hi, ?_⟩), rfl, q _ (I3.hok.fresh (Nat.le_refl _))⟩
    rw [Array.toArray_toList]
    exact IsTup.new _ _
end
end MR

set_option maxHeartbeats 1000000
/-! list(reversed(x)), x a list -/
namespace ML
open PySem PySem.Spec PyProof.Rows L2 RT
section
variable {prog : Program} {w : World} {A : Around} {E : Value → Shared → Prop} {s : Shared}
theorem extend_lrev {R : Result → Shared → Prop} {it l : Addr} {items : Array Value} (hh : A.handled = none) (hit : s.heap.IsRevIter it l ((items.size : Int) - 1)) (hl : s.heap.IsList l items) (hne : l ≠ it) (hn : items.size ≤ sizeLine)
    (S : Addr) (hSi : S ≠ it) (hSl : S ≠ l) (res : Value) (c₀ : Nat) (hS : s.heap.get? S = some { cls := .type "list", data := .seq #[] c₀ })
    (hR : ∀ h' tk acc' c', (∀ b o, b ≠ S → b ≠ it → s.heap.get? b = some o → h'.get? b = some o) → h'.get? S = some { cls := .type "list", dict := none, data := .seq acc' c', slots := #[] } →
      ItemsOf (fun i v => items[items.size - 1 - i]? = some v) acc' items.size → R (.ok (.ret res)) { s with heap := h', toks := tk }) :
    wpAny (model prog w) A.in1 (Builtin.List.listExtendWith (.ref S) (.ref it) res)
      (fun fin s' => match fin with | .done f => R (.ok f) s' | .again c' => c'.quiet = true ∧ codeAny (model prog w) A c' R s') (fun e s' => R (.error e) s') s := by
  have W := (Walks.listRev (prog := prog) (w := w) (A := A.in1) hh it l hne items).toS
  have hSf : S ∉ [it, l] := by simp only [List.mem_cons, List.not_mem_nil, or_false, not_or]; exact ⟨hSi, hSl⟩
  have hT : s.TypeIs (.ref it) "list_reverseiterator" := hit.typeIs
  have h1 : Builtin.List.listSameRef (.ref S) (.ref it) = false := by simp [Builtin.List.listSameRef, hSi]
  unfold Builtin.List.listExtendWith
  refine wpAny_bind (wpAny_typeOf hT ?_)
  rw [if_neg (by rw [h1]; decide)]
  refine wpAny_bind (wpAny_pyIter_revIter hit ?_)
  refine wpAny_bind (wpAny_holding ?_)
  unfold Builtin.List.listLengthHint
  refine wpAny_bind (wpAny_specialOf hT nolen_lri ?_)
  show wpAny _ A.in1 (specialOf (Value.ref it) (Str.ofString "__length_hint__") >>= _) _ _ _
  refine wpAny_bind (wpAny_specialOf hT hint_lri ?_)
  generalize hid : ("list_reverseiterator.__length_hint__" : String) = id0
  wp_delta
  rw [show splitId id0 = some ("list_reverseiterator", "__length_hint__") from by subst hid; decide +kernel]
  subst hid
  refine wpAny_bind (wpAny_isInstance (b := true) hT (by rw [isSubtype_type]; kernel_rfl) ?_)
  refine wpAny_pure ?_
  rw [if_neg (by decide)]
  have e0 : ((items.size : Nat) : Int) - 1 - ((0 : Nat) : Int) = (items.size : Int) - 1 := by omega
  refine wpAny_pure ⟨plainId_quiet F.plain_extend_loop _, codeAny_extend_loopS W hn _ hSf _ items.size 0 _ _ _ rfl (Nat.zero_le _) ⟨Nat.zero_le _, by rw [e0]; exact hit, hl⟩ hS (ItemsOf.nil _) fun s' acc' c' hm hS' hacc => ?_⟩
  rw [Moved.eq_with hm]
  refine hR s'.heap s'.toks acc' c' (fun b o hb hb2 e => hm.heap b o (fun hmem => ?_) e) hS' hacc
  rcases List.mem_cons.mp hmem with e' | hmem
  · exact hb e'
  · exact hb2 (List.mem_singleton.mp hmem)
theorem list_init_lrev {R : Result → Shared → Prop} {it l : Addr} {items : Array Value} (hh : A.handled = none) (hit : s.heap.IsRevIter it l ((items.size : Int) - 1)) (hl : s.heap.IsList l items) (hne : l ≠ it) (hn : items.size ≤ sizeLine)
    (S : Addr) (hSi : S ≠ it) (hSl : S ≠ l) (hS : s.heap.get? S = some { cls := .type "list", data := .seq #[] })
    (hR : ∀ h' tk acc' c', (∀ b o, b ≠ S → b ≠ it → s.heap.get? b = some o → h'.get? b = some o) → h'.get? S = some { cls := .type "list", dict := none, data := .seq acc' c', slots := #[] } →
      ItemsOf (fun i v => items[items.size - 1 - i]? = some v) acc' items.size → R (.ok (.ret .none)) { s with heap := h', toks := tk }) :
    wpAny (model prog w) A.in1 (Builtin.«list.__init__» ⟨[.ref S, .ref it], []⟩)
      (fun fin s' => match fin with | .done f => R (.ok f) s' | .again c' => c'.quiet = true ∧ codeAny (model prog w) A c' R s') (fun e s' => R (.error e) s') s := by
  show wpAny _ _ (do let old ← Builtin.List.listItems (.ref S); Builtin.List.listUpdate (.ref S) (fun _ => #[]); letGo old.toList.reverse; Builtin.List.listExtendWith (.ref S) (.ref it) .none) _ _ s
  refine wpAny_bind ?_
  unfold Builtin.List.listItems
  refine wpAny_bind (wpAny_seqItems hS rfl (wpAny_pure ?_))
  show wpAny _ _ (updateSeq S (fun _ => #[]) >>= fun _ => letGo (#[] : Array Value).toList.reverse >>= fun _ => Builtin.List.listExtendWith (.ref S) (.ref it) .none) _ _ s
  refine wpAny_bind (wpAny_updateSeq hS rfl ?_)
  have hS₂ := Heap.get?_update_self (Obj.mapSeq (fun _ => (#[] : Array Value))) hS rfl
  have oth : ∀ b o, b ≠ S → s.heap.get? b = some o → (s.heap.update S (Obj.mapSeq (fun _ => (#[] : Array Value)))).get? b = some o :=
    fun b o hb e => (Heap.get?_update_other _ _ (Ne.symm hb)).trans e
  refine wpAny_bind (wpAny_letGo ?_)
  have hl2 : (s.heap.update S (Obj.mapSeq (fun _ => (#[] : Array Value)))).IsList l items := by
    obtain ⟨o, e, r⟩ := hl
    exact ⟨o, oth l o (Ne.symm hSl) e, r⟩
  refine extend_lrev (s := { s with heap := s.heap.update S (Obj.mapSeq (fun _ => (#[] : Array Value))) }) hh (hit.at fun o e => oth it o (Ne.symm hSi) e) hl2 hne hn S hSi hSl .none _ hS₂ fun h' tk acc' c' hk hS' hacc => ?_
  exact hR h' tk acc' c' (fun b o hb hb2 e => hk b o hb hb2 (oth b o hb e)) hS' hacc
theorem call_list_lrev {it l : Addr} {items : Array Value} {Q : Value → Shared → Prop} (hh : A.handled = none) (hit : s.heap.IsRevIter it l ((items.size : Int) - 1)) (hl : s.heap.IsList l items) (hne : l ≠ it) (hn : items.size ≤ sizeLine)
    (hQ : ∀ h' tk acc' c', (∀ b o, b ≠ it → s.heap.get? b = some o → h'.get? b = some o) →
      h'.get? s.heap.objs.size = some { cls := .type "list", dict := none, data := .seq acc' c', slots := #[] } → ItemsOf (fun i v => items[items.size - 1 - i]? = some v) acc' items.size → Q (.ref s.heap.objs.size) { s with heap := h', toks := tk }) :
    wpAny (model prog w) A (call (.type "list") [.ref it]) Q E s := by
  refine callType_codes (Q₁ := fun obj s₁ => obj = .ref s.heap.objs.size ∧ s₁ = { s with heap := s.heap.push { cls := .type "list", data := .seq #[] } }) F.called_list (F.typeCall_list_1 _) F.entry_list_init
    (code_list_new _ ⟨rfl, rfl⟩) fun obj s₁ h₁ => ?_
  obtain ⟨rfl, rfl⟩ := h₁
  obtain ⟨oi, hoi, _⟩ := id hit
  obtain ⟨ol, hol, _⟩ := id hl
  have hS : (s.heap.push { cls := .type "list", data := .seq #[] }).get? s.heap.objs.size = some { cls := .type "list", data := .seq #[] } := Heap.get?_push_size _ rfl
  refine ⟨⟨_, hS, rfl⟩, F.args_list_init_2 _ _, list_init_lrev (s := { s with heap := s.heap.push { cls := .type "list", data := .seq #[] } }) (A := A.in1) hh (hit.at fun o e => Heap.get?_push_of_some _ e) (hl.push _) hne hn _ (Nat.ne_of_gt (Heap.lt_size hoi)) (Nat.ne_of_gt (Heap.lt_size hol)) hS fun h' tk acc' c' hk hS' hacc => ?_⟩
  exact ⟨rfl, hQ h' tk acc' c' (fun b o hb e => hk b o (Nat.ne_of_lt (Heap.lt_size e)) hb (Heap.get?_push_of_some _ e)) hS' hacc⟩
end
/-- list(reversed(x)), x a list: a new list -/
def tLv (K : PySem.W.Frag) (te : TE) : TE := fun σ H Q => te σ H fun v H1 => ∃ (a : Addr) (xs : List V), v = .ref a ∧ SqL K H1 a xs ∧ ∀ q, H1 q = none → Q (.ref q) (upd H1 q (.lst xs.reverse))
section
variable {X : Cx}
theorem pe_lv {e : Expr} {te : TE} {p p2 pos pos2 : Pos} (hc : X.calm = true) (hg : Gl X "list") (hm : X.mg "list" = none) (hg2 : Gl X "reversed") (hm2 : X.mg "reversed" = none) (he : PE X e te)
    (hs : starEach [e] X.env = (false, eval e X.env) :: starEach [] X.env := by rfl)
    (hs2 : starEach [.Call (.Name "reversed" p2) [e] [] pos2] X.env = (false, eval (.Call (.Name "reversed" p2) [e] [] pos2) X.env) :: starEach [] X.env := by rfl) :
    PE X (.Call (.Name "list" p) [.Call (.Name "reversed" p2) [e] [] pos2] [] pos) (tLv X.K te) := by
  refine ⟨fun pins s σ H Q I h => ?_⟩
  refine Call_ (ld_blt I hg hm boot_list (PyProof.Rows.callWith_type1 (args_cons (Call_ (ld_blt I hg2 hm2 PyProof.Rows.boot_reversed (PyProof.Rows.callWith_type1 (args_cons (thn (he.run pins s σ H _ I h) fun u s1 ⟨v, H1, I1, r1, q1⟩ => args_nil ?_) hs) hs rfl))) hs2) hs2))
  obtain ⟨a, xs, ev, hq, q⟩ := q1
  subst ev
  obtain rfl : u = Value.ref a := r1
  obtain ⟨its, rv, p', hz⟩ := I1.list hq
  refine call_reversed_list p'.isList (args_nil ?_)
  have k0 : ∀ b o, s1.heap.get? b = some o → (s1.heap.push (revObj a ((its.toArray.size : Int) - 1))).get? b = some o := fun b o e => Heap.get?_push_of_some _ e
  have I2 : Inv X pins σ H1 { s1 with heap := s1.heap.push (revObj a ((its.toArray.size : Int) - 1)) } := I1.kept (t' := s1.toks) k0
  obtain ⟨f0, f1, f2, f3, f4, f5⟩ := I1.fpOk (H' := H1) (b := s1.heap.objs.size) (Nat.le_refl _) (I1.hok.fresh (Nat.le_refl _))
  have hl := p'.isList
  obtain ⟨ol, hol, _⟩ := id hl
  have hne : a ≠ s1.heap.objs.size := Nat.ne_of_lt (Heap.lt_size hol)
  have hn : its.toArray.size ≤ sizeLine := by rw [List.size_toArray, ← rv.length]; exact hz
  refine call_list_lrev (s := { s1 with heap := s1.heap.push (revObj a ((its.toArray.size : Int) - 1)) }) (I1.ok.hd hc) ⟨_, Heap.get?_push_size _ rfl, rfl, rfl⟩ (hl.push _) hne hn fun h' tk acc c' hk e' hi => ?_
  have I3 : Inv X pins σ H1 { s1 with heap := h', toks := tk } := I2.turned (t' := tk) (fun b o hb e => hk b o hb e) f0 f1 f3 f4 f5
  generalize hb : (s1.heap.push (revObj a ((its.toArray.size : Int) - 1))).objs.size = b at *
  have ge : s1.heap.objs.size ≤ b := by rw [← hb, Heap.size_push]; omega
  have hn0 : H1 b = none := I1.hok.fresh ge
  refine ⟨.ref b, upd H1 b (.lst xs.reverse), MI.track I3 (a := b) (ob := { cls := .type "list", dict := none, data := .seq acc c', slots := #[] }) e' hn0 (Heap.get?_none_of_le (Nat.le_trans I1.sz ge)) ?_ (fun v z => by cases z) (fun p hp z => ?_) ?_, rfl, q _ hn0⟩
  · exact Nat.ne_of_gt (Nat.lt_of_lt_of_le I1.lt ge)
  · have h3 := Heap.lt_size (I1.pin p hp).1
    rw [z] at h3
    exact absurd (Nat.lt_of_lt_of_le h3 ge) (Nat.lt_irrefl _)
  · exact (show ObjOk X.prog X.w _ _ _ (.lst xs.reverse) from ⟨by rw [List.length_reverse]; exact hz, acc.toList, c', vals_rev rv hi, by rw [Array.toArray_toList]; exact e'⟩)
end
end ML

namespace MI
open PySem L2 PyProof.Rows

/-! ### the lambda: step[0] * (whole // step[1]) -/
def isCallE : Expr → Bool
  | .Call _ _ _ _ => true
  | _ => false
theorem lamK_plain {e ea : Expr} {x : Str} (h : lamK e = some (x, ea)) : isCallE e = true := by
  unfold lamK at h
  split at h
  · rfl
  · cases h
theorem lamB_of {b : Expr} (h : lamB b = true) : ∃ (k1 k2 : Nat) (p1 p2 p3 p4 p5 p6 p7 p8 p9 : Pos), b = .BinOp (.Subscript (.Name "step" p1) (.Constant (.int 0) k1 p2) p3) .Mult (.BinOp (.Name "whole" p4) .FloorDiv (.Subscript (.Name "step" p5) (.Constant (.int 1) k2 p6) p7) p8) p9 := by
  unfold lamB at h
  split at h
  · obtain ⟨h1, h⟩ := ba h
    obtain ⟨h2, h⟩ := ba h
    obtain ⟨h3, h⟩ := ba h
    obtain ⟨h4, h5⟩ := ba h
    cases dec h1; cases dec h2; cases dec h3; cases dec h4; cases dec h5
    exact ⟨_, _, _, _, _, _, _, _, _, _, _, rfl⟩
  · cases h
theorem lamP_of {ps : Arguments} (h : lamP ps = true) : ∃ p : Pos, ps = ⟨[], [⟨"step", none, p⟩], none, [], [], none, []⟩ := by
  unfold lamP at h
  split at h
  · cases dec h; exact ⟨_, rfl⟩
  · cases h
structure LamSc (sc : Scope) : Prop where
  kind : sc.kind = .function
  co : sc.isCoroutine = false
  gen : sc.isGenerator = false
  names : sc.names = [(("step" : Str), NameKind.local), (("whole" : Str), NameKind.free)]
theorem lamS_of {sc : Scope} (h : lamS sc = true) : LamSc sc := by
  obtain ⟨h1, h⟩ := ba (show (decide (sc.kind = .function) && (!sc.isCoroutine && (!sc.isGenerator && decide (sc.names = [(("step" : Str), NameKind.local), (("whole" : Str), NameKind.free)])))) = true from h)
  obtain ⟨h2, h⟩ := ba h
  obtain ⟨h3, h4⟩ := ba h
  exact ⟨dec h1, by simpa using h2, by simpa using h3, dec h4⟩
theorem bind1 (q : Str) (p : Pos) (body : Expr) (scope : Scope) (cl : List (Str × Addr)) (pm cv ctv u : Value) :
    bindArgs (PySem.W.kla_fn "<lambda>" q ⟨[], [⟨"step", none, p⟩], none, [], [], none, []⟩ body scope cl pm cv ctv) ⟨[u], []⟩ = pure [(("step" : Str), u)] := by
  first | rfl | kernel_rfl
section
variable {prog : Program} {w : World}
/-- key(u) -/
theorem lam_turn {A : Around} {s : Shared} {f c' t c : Addr} {q : Str} {pm ctv : Value} {cl : List (Str × Addr)} {n d k : Int} {u1 u2 u3 : Tok} {p : Pos} {body : Expr} {sc : Scope} (hA : A.depth < recursionLimit) (lim : s.heap.NoLimit)
    (hf : s.heap.get? f = some (PySem.W.kla_obj "<lambda>" q ⟨[], [⟨"step", none, p⟩], none, [], [], none, []⟩ body sc cl pm c' ctv)) (hc : s.heap.CodeRec (.ref c') q) (L : LamSc sc) (hb : lamB body = true)
    (ht : IsTup s.heap t [Value.int n u1, Value.int d u2].toArray) (hcl : cl.lookup ("whole" : Str) = some c) (hcell : s.heap.IsCell c (some (.int k u3))) (hd0 : divOk d = true) (hm0 : mulOk n (k / d) = true) :
    wpAny (model prog w) A (call (.ref f) [.ref t]) (PySem.W.KeyPure (.int (n * (k / d))) s) (fun _ _ => False) s := by
  obtain ⟨k1, k2, p1, p2, p3, p4, p5, p6, p7, p8, p9, rfl⟩ := lamB_of hb
  obtain ⟨hd1, hd2⟩ := ba hd0
  have hd1 := dec hd1
  have hd2 := dec hd2
  refine wpAny_call ?_
  refine PySem.W.kla_callFunE hA hf rfl L.co L.gen rfl hc ?_
  rw [bind1]
  refine wpAny_pure (wpAny_newFunctionEnv (fun y hy => ?_) (fun y hy => ?_) (fun h₁ hns hsb => ⟨lim.fresh _ hsb, ?_⟩) L.kind)
  · have hy : y ∈ sc.names := hy
    rw [L.names] at hy
    rcases List.mem_cons.mp hy with e | hy
    · subst e; decide
    · rcases List.mem_cons.mp hy with e | hy
      · subst e; decide
      · exact absurd hy (by simp)
  · show sc.names.lookup y.1 = some .local
    rw [L.names]
    rcases List.mem_cons.mp hy with e | hy
    · subst e
      show List.lookup ("step" : Str) _ = _
      decide +kernel
    · exact absurd hy (by simp)
  show codeAny _ _ (.expr _ (PySem.W.envX q sc s.heap.objs.size f (.ref c') cl)) _ _
  have kp : ∀ b o, s.heap.get? b = some o → h₁.get? b = some o := fun b o e => hsb.extBut b o (Nat.ne_of_lt (Heap.lt_size e)) (Heap.get?_push_of_some _ e)
  refine PySem.W.kla_codeExpr ?_
  have hk1 : (PySem.W.envX q sc s.heap.objs.size f (.ref c') cl).kindOf "step" = some .local := by
    show sc.names.lookup ("step" : Str) = _
    rw [L.names]; decide +kernel
  have hk2 : (PySem.W.envX q sc s.heap.objs.size f (.ref c') cl).kindOf "whole" = some .free := by
    show sc.names.lookup ("whole" : Str) = _
    rw [L.names]; decide +kernel
  have ht1 : IsTup h₁ t [Value.int n u1, Value.int d u2].toArray := by
    obtain ⟨o, e1, e2⟩ := ht
    exact ⟨o, kp _ _ e1, e2⟩
  have hcell1 : h₁.IsCell c (some (.int k u3)) := by
    obtain ⟨o, e1, e2⟩ := hcell
    exact ⟨o, kp _ _ e1, e2⟩
  have hv : (fun x => ([(("step" : Str), Value.ref t)] : List (Str × Value)).reverse.lookup x) "step" = some (.ref t) := by rfl
  refine wpAny_BinOp (Subscript_ (wpAny_Name (wpAny_loadName_local L.kind hk1 hns hv ?_)))
  refine wpAny_Constant_int ?_
  refine subscriptTail_builtinR (x := Value.int n u1) ht1.typeIs slot_tuple_getitem.lookup (getItem_tuple (j := 0) ht1 (by decide) (by decide) rfl rfl ⟨rfl, ?_⟩)
  refine wpAny_BinOp (wpAny_Name (wpAny_loadName_free L.kind hk2 hcl hcell1 ?_))
  refine Subscript_ (wpAny_Name (wpAny_loadName_local L.kind hk1 hns hv ?_))
  refine wpAny_Constant_int ?_
  refine subscriptTail_builtinR (x := Value.int d u2) ht1.typeIs slot_tuple_getitem.lookup (getItem_tuple (j := 1) ht1 (by decide) (by decide) rfl rfl ⟨rfl, ?_⟩)
  refine PyProof.Rows.floordiv_int (by omega) ?_ (.inl (PyProof.noPylong_of_log2 hd2))
  rw [Int.fdiv_eq_ediv_of_nonneg k (by omega)]
  refine PyProof.Rows.mul_int ?_ (show L2.CMulW n (k / d) from (show _ < _ from of_decide_eq_true (show decide _ = true from hm0))).ok
  exact ⟨h₁, _, rfl, kp, .int _ _⟩
end
/-! ### the lambda is made -/
/-- all but the tables stays -/
structure StK (H H' : Hp) : Prop where
  keep : ∀ (b : Addr) (o : HO), H b = some o → ¬ isTb o → H' b = some o
  tb : ∀ (a : Addr) (n : Str), TbS H a n → TbS H' a n
  dom : ∀ (b : Addr) (o : HO), H b = some o → ∃ o', H' b = some o'
theorem StK.refl (H : Hp) : StK H H := ⟨fun _ _ h _ => h, fun _ _ h => h, fun _ o h => ⟨o, h⟩⟩
theorem StK.stE {H H' : Hp} (k : StK H H') {g : G} : StE g H g H' := ⟨fun b o h _ z => k.keep b o h z, k.tb, k.dom, fun _ _ h => h, [], by simp, by simp⟩
theorem RS.growT {F : Fx} {g : G} {s : State} {σ : L2.St} {H H' : Hp} (R : RS F g s σ H) (k : StK H H') : RS F g s σ H' := by
  have kk : Kp (PP F g) g.m H (PP F g) H' := ⟨R.ld, R.ins, fun b o h _ _ z => k.keep b o h z, fun _ _ _ n => n⟩
  refine ⟨R.len, fun i x e => ?_, fun i x e => ?_, R.ob, fun i ks e => let ⟨v, e1, h⟩ := R.dc i ks e; ⟨v, e1, h.mono kk⟩, R.inj, fun i a e => ?_, fun a e => ?_, fun b o h n z => k.keep b o (R.k0 b o h n z) z, fun b o h => let ⟨o', e⟩ := R.d0 b o h; k.dom b o' e, fun p hp => k.tb _ _ (R.tb p hp), R.i0, R.pre, R.st.nd, R.st.len, fun j o e => ?_⟩
  · obtain ⟨v, e1, r⟩ := R.sl i x e
    exact ⟨v, e1, r.mono kk⟩
  · obtain ⟨a, e1, e2, r⟩ := R.ow i x e
    exact ⟨a, e1, e2, r.mono kk fun o l h => k.keep a o h (ld_nt l)⟩
  · obtain ⟨h1, h2, o, h3, h4⟩ := R.own i a e
    exact ⟨h1, h2, o, k.keep a o h3 (ld_nt h4), h4⟩
  · obtain ⟨o, h3, h4⟩ := R.p0 a e
    exact ⟨o, k.keep a o h3 (ld_nt h4), h4⟩
  · obtain ⟨a, dx, vs, e1, e2, r⟩ := R.st.at_ j o e
    exact ⟨a, dx, vs, e1, k.keep a _ e2 (fun z => z), r.mono kk⟩
theorem code_rec {X : Cx} {pins : List (Addr × Obj)} {σ : L2.St} {H : Hp} {s : Shared} (I : Inv X pins σ H s) {c' : Addr} {q : Str} (h : H c' = some (LamX.CodeO c' q)) : s.heap.CodeRec (.ref c') q := by
  obtain ⟨⟨oc, vs, t, hoc, hdc, hvc⟩, _, _⟩ := I.hok c' _ h
  exact ⟨c', oc, vs, t, rfl, hoc, hdc, hvc⟩
section
variable {X : Cx} {pins : List (Addr × Obj)} {σ : L2.St} {H : Hp} {s : Shared}
/-- one more code object in the table at P -/
theorem stk_table {P c' : Addr} {ps : Array Value} {x y : Value} (hP : H P = some (.tbl ps)) (nC : H c' = none) (hpos : ∃ pos : Pos, x = rawInt pos.line ∧ y = rawInt pos.col) : StK H (upd (upd H P (.tbl (ps ++ #[x, y, .ref c']))) c' (LamX.CodeO c' LN)) := by
  obtain ⟨pos, rfl, rfl⟩ := hpos
  have ne : ∀ {b : Addr} {o : HO}, H b = some o → ¬ isTb o → b ≠ P := fun {b o} e n z => by
    rw [z, hP] at e; cases e; exact n trivial
  have kp : ∀ (b : Addr) (o : HO), H b = some o → ¬ isTb o → upd (upd H P (.tbl (ps ++ #[rawInt pos.line, rawInt pos.col, .ref c']))) c' (LamX.CodeO c' LN) b = some o := fun b o e n => by
    rw [upd_ne (ne_of_none e nC), upd_ne (ne e n)]; exact e
  have nt : ∀ {d : Addr} {n : Str}, ¬ isTb (LamX.CodeO d n) := fun {d n} z => by unfold LamX.CodeO at z; exact z
  refine ⟨kp, fun a n t => ?_, fun b o e => ?_⟩
  · obtain ⟨rfl, qs, h1, h2, h3⟩ := t
    by_cases hb : a = P
    · subst hb
      rw [hP] at h1
      cases h1
      refine ⟨rfl, _, by rw [upd_ne (ne_of_none hP nC), upd_same], ?_, fun p' cv hcv => ?_⟩
      · rw [show (ps ++ #[rawInt pos.line, rawInt pos.col, .ref c']).toList = ps.toList ++ [rawInt pos.line, rawInt pos.col, .ref c'] by simp]
        exact PySem.TriplesOk_snoc _ _ _ _ h2
      · rw [show (ps ++ #[rawInt pos.line, rawInt pos.col, .ref c']).toList = ps.toList ++ [rawInt pos.line, rawInt pos.col, .ref c'] by simp] at hcv
        rcases LamX.among_app _ h2 hcv with z | z
        · obtain ⟨c0, e1, e2⟩ := h3 p' cv z
          exact ⟨c0, e1, kp _ _ e2 nt⟩
        · exact ⟨c', z, upd_same⟩
    · refine ⟨rfl, qs, by rw [upd_ne (ne_of_none h1 nC), upd_ne hb]; exact h1, h2, fun p' cv hcv => ?_⟩
      obtain ⟨c0, e1, e2⟩ := h3 p' cv hcv
      exact ⟨c0, e1, kp _ _ e2 nt⟩
  · by_cases hc : b = c'
    · exact ⟨_, by rw [hc]; exact upd_same⟩
    · by_cases hb : b = P
      · exact ⟨_, by rw [upd_ne hc, hb]; exact upd_same⟩
      · exact ⟨o, by rw [upd_ne hc, upd_ne hb]; exact e⟩
theorem lam_make3 {c P : Addr} {params : Arguments} {body : Expr} {scope : Scope} {pos : Pos} {E : Value → Shared → Prop} {Q : Value → Shared → Prop} (I : Inv X pins σ H s) (TB : LamX.TabB X.base X.mg c P) (hcode : X.env.code = .ref c)
    (hq : X.env.qual ++ "<lambda>" = LN) (hT : TbS H P LN) (hdef : defaultsOf params X.env = ([], [])) (hfree : ∀ y ∈ scope.names, y.2 = .free → ∃ c, X.env.cells.lookup y.1 = some c)
    (h : ∀ (f c' : Addr) (pm ctv : Value) (H1 : Hp) (s' : Shared), Inv X pins σ H1 s' → StK H H1 →
      s'.heap.get? f = some (PySem.W.kla_obj "<lambda>" LN params body scope (cloFrom X.env.cells scope.names []) pm c' ctv) → s'.heap.CodeRec (.ref c') LN → Q (.ref f) s') :
    wpAny (model X.prog X.w) X.A (eval (.Lambda params body scope pos) X.env) Q E s := by
  obtain ⟨_, ps, hP, ht, ha⟩ := hT
  refine PySem.W.kla_eval hdef ?_
  rw [hq]
  have hP' : s.heap.get? P = some { cls := .none, data := .fields ps } := I.hok P _ hP
  cases hc : codeAmong pos ps.toList with
  | none =>
    refine PySem.W.kla_makeFunction (mg := X.mg) (c := c) (P := P) (ps := ps) (closure_ok hfree) I.ok.glob (I.mod.glob.keeps I.bk) hcode (TB.code.keeps I.bk) hP' ht hc TB.gP (TB.bm.keeps I.bk) fun c' ctv h' tk hx hge hlt hrec htb => ?_
    obtain ⟨c2, oc, vs, t, e2, hoc, hd, hv⟩ := hrec
    cases e2
    have I1 := LamX.inv_table (q := LN) (t' := tk) (more := #[rawInt pos.line, rawInt pos.col, .ref c']) (h' := h'.push (PySem.W.kla_obj "<lambda>" LN params body scope (cloFrom X.env.cells scope.names []) ((X.mg "__name__").getD .none) c' ctv)) I hP
      (fun b o hb e => Heap.get?_push_of_some _ (hx b o hb e)) (Heap.get?_push_of_some _ htb) hge ⟨oc, vs, t, Heap.get?_push_of_some _ hoc, hd, hv⟩
    exact h h'.objs.size c' _ ctv _ _ I1 (stk_table hP (I.hok.fresh hge) ⟨pos, rfl, rfl⟩) (Heap.get?_push_size _ rfl) (code_rec I1 upd_same)
  | some cv =>
    obtain ⟨c', e, hco⟩ := ha pos cv hc
    subst e
    refine PySem.W.kla_makeFunctionHit (mg := X.mg) (c := c) (P := P) (ps := ps) (closure_ok hfree) I.ok.glob (I.mod.glob.keeps I.bk) hcode (TB.code.keeps I.bk) hP' ht hc (TB.bm.keeps I.bk) fun ctv h' tk hx hsz => ?_
    have I1 : Inv X pins σ H { s with heap := h'.push (PySem.W.kla_obj "<lambda>" LN params body scope (cloFrom X.env.cells scope.names []) ((X.mg "__name__").getD .none) c' ctv), toks := tk } := I.kept fun b o e => Heap.get?_push_of_some _ (hx b o e)
    exact h h'.objs.size c' _ ctv H _ I1 (StK.refl H) (Heap.get?_push_size _ rfl) (code_rec I1 hco)
/-! ### sorted by that key -/
theorem srk_pair {k : Int} {x : D} (h : srkOk k x = true) : ∃ n d, x = .tup [.int n, .int d] ∧ divOk d = true ∧ mulOk n (k / d) = true := by
  unfold srkOk at h
  split at h
  · exact ⟨_, _, rfl, ba h⟩
  · cases h
theorem sorted_lam {P : Addr → Prop} (I : Inv X pins σ H s) {a f c' c : Addr} {vs : List V} {ds : List D} {k : Int} {u3 : Tok} {Q : VK} {cl : List (Str × Addr)} {pm ctv : Value} {p : Pos} {body : Expr} {sc : Scope} (ha : H a = some (.lst vs)) (r : RpA X.K H P vs ds) (hok : ds.all (srkOk k) = true)
    (hf : s.heap.get? f = some (PySem.W.kla_obj "<lambda>" LN ⟨[], [⟨"step", none, p⟩], none, [], [], none, []⟩ body sc cl pm c' ctv)) (hc : s.heap.CodeRec (.ref c') LN) (L : LamSc sc) (hb : lamB body = true) (hcl : cl.lookup ("whole" : Str) = some c) (hcell : s.heap.IsCell c (some (.int k u3)))
    (hd : X.A.depth < recursionLimit) (hu : X.A.units + 65 < cLine) (hq : ∀ ws p, RpA X.K H P ws (srkD k ds) → H p = none → Q (.ref p) (upd H p (.lst ws))) :
    wpAny (model X.prog X.w) X.A (call (.builtin "sorted") [.ref a] [(Str.ofString "key", .ref f)]) (EP X pins σ Q) X.xe s := by
  obtain ⟨its, rv, hl, hz⟩ := I.list (.of ha)
  have hmem : ∀ p ∈ vs.zip ds, p.2 ∈ ds := fun p hp => by
    have := List.mem_map_of_mem (f := (·.2)) hp
    rw [zip_snd r] at this
    exact this
  have hlen : (vs.zip ds).length ≤ sizeLine := by rw [List.length_zip]; omega
  refine PySem.W.sorted_key_data (b := false) (bs := vs.zip ds) (fun p : V × D => .int (srkI k p.2)) hl.isList (each_zip r rv) (PySem.W.AllAlike.of fun _ _ => by simp [PySem.W.alike]) (.inr fun d hd => ?_) hlen (fun p hp => ?_) (ksk_s1 _ _) (fun _ => ksk_l1 _ _) (fun _ => ksk_t1 _ _) (fun v x hR hx h tk kp => ?_) fun out c1 h' tk kp fr hD hl2 eo => ?_
  · obtain ⟨p, _, rfl⟩ := List.mem_map.mp hd
    exact ⟨nofun, nofun⟩
  · have : (PyData.int (srkI k p.2)).depth = 0 := by simp [PyData.depth]
    omega
  · obtain ⟨n, d, e, h1, h2⟩ := srk_pair (List.all_eq_true.mp hok _ (hmem x hx))
    obtain ⟨r1, r2⟩ := hR
    rw [e] at r2
    obtain ⟨t, xs, ev, sq, rr⟩ := Vw.tup (.inl r2)
    rw [ev] at r1
    obtain rfl : v = Value.ref t := r1
    obtain ⟨its2, rv2, ht, _⟩ := I.tuple sq
    cases rr with
    | cons a1 rr =>
      cases rr with
      | cons a2 rr =>
        cases rr
        cases a1
        cases a2
        obtain ⟨w1, w2, rfl, q1, q2⟩ := vals2 rv2
        obtain ⟨u1, rfl⟩ := q1
        obtain ⟨u2, rfl⟩ := q2
        rw [e]
        obtain ⟨o, e1, e2⟩ := ht
        obtain ⟨o2, e3, e4⟩ := hcell
        obtain ⟨c2, oc, vv, tt, g1, g2, g3, g4⟩ := hc
        exact lam_turn (s := { s with heap := h, toks := tk }) (u1 := u1) (u2 := u2) hd (I.nolimit.keeps kp) (kp _ _ hf) ⟨c2, oc, vv, tt, g1, kp _ _ g2, g3, g4⟩ L hb ⟨o, kp _ _ e1, e2⟩ hcl ⟨o2, kp _ _ e3, e4⟩ h1 h2
  · rw [PySem.W.dataLe_int (β := V × D) (fun p => srkI k p.2)] at eo
    obtain ⟨k1, k2⟩ := each_un eo
    have e : ((vs.zip ds).mergeSort fun p q => decide (srkI k p.2 ≤ srkI k q.2)).map (·.2) = srkD k ds := by
      rw [List.map_mergeSort (s := fun x y => decide (srkI k x ≤ srkI k y)), zip_snd r]
      · rfl
      · intro p hp p' hp'; rfl
    rw [e] at k2
    have hlen2 : (((vs.zip ds).mergeSort fun p q => decide (srkI k p.2 ≤ srkI k q.2)).map (·.1)).length ≤ sizeLine := by
      rw [List.length_map, List.length_mergeSort]; exact hlen
    exact ⟨.ref _, _, I.laid (t' := tk) kp (Nat.le_succ _) (show ObjOk X.prog X.w _ _ _ (.lst (((vs.zip ds).mergeSort fun p q => decide (srkI k p.2 ≤ srkI k q.2)).map (·.1))) from ⟨hlen2, out, c1, k1, hD⟩), rfl, hq _ _ k2 (I.hok.fresh (Nat.le_succ _))⟩
end
section
variable {q : Bs} {X : Cx} {W : L2.WX} {sc : Scope} {N : List Str}
theorem kw_one {M : Model} {A : Around} {E : Value → Shared → Prop} {Q : List Value → Shared → Prop} {s : Shared} {nm : Option Str} {e : Expr} {kpos pos : Pos} {env : Env} (h : wpAny M A (eval e env) (fun v s' => Q [v] s') E s) : wpAny M A (evalAll ((backToKw pos (keywordEach [⟨nm, e, kpos⟩] env)).map (·.2))) Q E s := by
  show wpAny _ _ (evalAll ((do let v ← eval e env; standAt pos; pure v) :: [])) _ _ s
  exact wpAny_evalAll_cons (wpAny_bind (wpAny_mono h (fun v s' q => wpAny_bind (wpAny_standAt (wpAny_pure (wpAny_evalAll_nil q)))) fun _ _ z => z))
theorem slot_int {F : Fx} {g : G} {st : State} {σ : L2.St} {H : Hp} (R : RS F g st σ H) {w : Nat} {k : Int} {b : Bool} (h : st.r[w]? = some (.v (.int k) b)) : σ[w]? = some (some (.int k)) := by
  cases b with
  | false =>
    obtain ⟨v, e, r⟩ := R.sl w _ h
    cases r
    exact e
  | true =>
    obtain ⟨a, _, _, r⟩ := R.ow w _ h
    exact r.elim
theorem snd_srk (C : CO q X W sc N) {a : E} {w : Nat} {e ea : Expr} {x : Str} (hu : lamK e = some (x, ea)) (h1 : glo sc x = true) (h2 : x = "sorted") (hm : x ∈ q.blts) (hw : N[w]? = some ("whole" : Str)) (hcell : sc.names.lookup ("whole" : Str) = some NameKind.cell)
    (G0 : (gdX X.prog X.w X.K X.mg X.base q).lam) (ha : PE X ea (tE X.K q W a)) : PE X e (tE X.K q W (.srk a w)) := by
  subst h2
  unfold lamK at hu
  split at hu
  rotate_left
  · cases hu
  rename_i x0 p0 ea0 kn ps b lsc lp kp pos
  split at hu
  rotate_left
  · cases hu
  rename_i hh
  obtain ⟨rfl, hs, hps, hb, hls⟩ := hh
  cases hu
  obtain ⟨pp, rfl⟩ := lamP_of hps
  have L := lamS_of hls
  obtain ⟨gl, db⟩ := C.glo h1
  obtain ⟨pr, hcd, TB, hmt⟩ := G0
  obtain ⟨l1, l2⟩ := C.lam pr hcd
  have hw1 : X.N[w]? = some ("whole" : Str) := by rw [C.hN]; exact hw
  have hk1 : X.env.scope.names.lookup ("whole" : Str) = some .cell := by rw [C.hsc]; exact hcell
  refine ⟨fun pins s σ H Q I h => ?_⟩
  obtain ⟨p, g, st, R, k⟩ := h
  unfold ev at k
  refine wpAny_Call_Name_kw (ld_blt I gl (C.blt _ hm) boot_sorted ?_ (by decide +kernel) db)
  let F := FX X.K q p
  let QA : List V → Hp → Prop := fun vs H1 => ∃ (v : V) (g1 : G) (s1 : State) (ds : List D) (k : Int) (b : Bool), vs = [v] ∧ RS F g1 s1 σ H1 ∧ StE g H g1 H1 ∧ Vw F.K H1 (PP F g1) v (.lst ds) ∧ s1.r[w]? = some (.v (.int k) b) ∧ ds.all (srkOk k) = true ∧
    ∀ g' H', RS F g' s1 σ H' → StE g1 H1 g' H' → ∀ v, EVR F g' H H' v (.fr (.lst (srkD k ds))) → Q v H'
  have hA : wpAny (model X.prog X.w) X.A (spliced (backTo pos (starEach [ea] X.env))) (AP X pins σ QA) X.xe s := by
    refine (pa_cons ha pa_nil (starEach_cons hs)).run pos pins s σ H QA I ⟨p, g, st, R, Post.mono (Post.dat k) fun va g1 s1 H1 _ R1 t1 k v hv => ?_⟩
    obtain ⟨x, ex, k⟩ := k t1
    split at k
    · next ds kk b e =>
      split at k
      · next hok => exact ⟨v, g1, s1, ds, kk, b, rfl, R1, t1, hv.vw ex, e, hok, fun g' H' R' t' u hu => k g' H' R' t' t' u hu⟩
      · exact k.elim
    · exact k.elim
  refine PyProof.Rows.callWith_kw (thn hA fun us s1 ⟨vs, H1, I1, r1, q1⟩ => ?_) (by rw [starEach_cons hs]; rfl) (by rw [starEach_cons hs]; rfl) (by rfl) (by rfl)
  obtain ⟨v, g1, st1, ds, kk, b1, rfl, R1, t1, hv, e1, hok, kq⟩ := q1
  obtain ⟨l, xs, rfl, hl, rr⟩ := hv.lst
  obtain rfl := Vals.ref1 r1
  have hfree : ∀ y ∈ lsc.names, y.2 = .free → ∃ c, X.env.cells.lookup y.1 = some c := fun y hy e => by
    rw [L.names] at hy
    rcases List.mem_cons.mp hy with z | hy
    · subst z; cases e
    · rcases List.mem_cons.mp hy with z | hy
      · subst z; exact I.ok.has _ (.inl hk1)
      · exact absurd hy (by simp)
  refine kw_one (lam_make3 (P := pr.2) I1 TB l1 l2 (R1.tb _ hmt) rfl hfree fun f c' pm ctv H2 s2 I2 sk hf hc => ?_)
  have R2 := R1.growT sk
  have t2 : StE g1 H1 g1 H2 := sk.stE
  have hl2 : H2 l = some (.lst xs) := sk.keep l _ hl (fun z => z)
  have rr2 : RpA X.K H2 (PP F g1) xs ds := rr.mono (R1.kpE t2)
  have hs2 := slot_int R2 e1
  obtain ⟨m, hn, hloc⟩ := I2.loc
  obtain ⟨u, ru, hlk⟩ := hloc w _ _ hw1 hs2 (.inr (.inl hk1))
  obtain ⟨u3, rfl⟩ := ru
  rcases hlk with ⟨z, _⟩ | ⟨_, c, hcl, hce⟩
  · have z : X.env.scope.names.lookup ("whole" : Str) = some .local := z
    rw [hk1] at z; cases z
  have hcl2 : (cloFrom X.env.cells lsc.names []).lookup ("whole" : Str) = some c := by
    rw [L.names]
    show List.lookup ("whole" : Str) [(("whole" : Str), (X.env.cells.lookup ("whole" : Str)).getD 0)] = some c
    rw [hcl, List.lookup_cons]
    rw [show (("whole" : Str) == ("whole" : Str)) = true from by decide +kernel]
    rfl
  refine sorted_lam (P := PP F g1) I2 hl2 rr2 hok hf hc L hb hcl2 hce C.room.depth C.u65 fun ws pz rw hp => ?_
  have hp1 : H1 pz = none := t2.free hp
  have t3 : StE g1 H1 g1 (upd H2 pz (.lst ws)) := t2.alloc hp
  refine kq g1 _ (R2.alloc hp) t3 _ ⟨pz, rfl, t1.free hp1, R2.rd2.np hp, _, upd_same, rw.mono (R2.rd2.kpa hp)⟩
end
end MI

namespace MI
open PySem L2 RT RZ

/-! ### what is walked -/
section
variable {F : Fx} {g : G} {H : Hp}
theorem itr_list {a : Addr} {vs : List V} {xs : List D} (hl : ∀ (P' : Addr → Prop) (H2 : Hp), Kp (PP F g) g.m H P' H2 → SqL F.K H2 a vs) (r : RpA F.K H (PP F g) vs xs) : ItR F g H xs (Itl F.K a) := by
  intro i P' H2 k
  have q := hl P' H2 k
  refine ⟨fun d e => ?_, fun e => ⟨vs, q, by rw [r.length]; exact e⟩⟩
  obtain ⟨v, h1, h2⟩ := r.get e
  refine ⟨⟨vs, v, q, h1⟩, fun x H3 ⟨e1, e2⟩ => .inl ⟨e1, ?_⟩⟩
  have := e2 vs q
  rw [h1] at this; cases this
  exact h2
theorem itr_tup {a : Addr} {vs : List V} {xs : List D} (hl : SqT F.K H a vs) (r : RpA F.K H (PP F g) vs xs) : ItR F g H xs (Itt F.K a) := by
  intro i P' H2 k
  have q := k.sqT hl
  refine ⟨fun d e => ?_, fun e => ⟨vs, q, by rw [r.length]; exact e⟩⟩
  obtain ⟨v, h1, h2⟩ := r.get e
  refine ⟨⟨vs, v, q, h1⟩, fun x H3 ⟨e1, e2⟩ => .inl ⟨e1, ?_⟩⟩
  have := e2 vs q
  rw [h1] at this; cases this
  exact h2
theorem itr_rng (lo : Int) (n : Nat) : ItR F g H ((List.range n).map fun (k : Nat) => D.int (lo + (k : Nat))) (Itr lo n) := by
  intro i P' H2 k
  refine ⟨fun d e => ?_, fun e => show n ≤ i by simpa using e⟩
  rw [List.getElem?_map] at e
  simp only [Option.map_eq_some_iff] at e
  obtain ⟨j, e1, e2⟩ := e
  obtain ⟨h1, h2⟩ := List.getElem?_eq_some_iff.mp e1
  simp at h1 h2
  subst h2 e2
  exact ⟨h1, fun x H3 ⟨z1, z2⟩ => .inl ⟨z1, by subst z2; exact .int _⟩⟩
theorem rev_get {α : Type} {xs : List α} {i : Nat} {x : α} (h : xs.reverse[i]? = some x) : i < xs.length ∧ xs[xs.length - 1 - i]? = some x := by
  obtain ⟨h1, h2⟩ := List.getElem?_eq_some_iff.mp h
  rw [List.length_reverse] at h1
  rw [List.getElem?_reverse h1] at h
  exact ⟨h1, h⟩
theorem itr_revL {a : Addr} {vs : List V} {xs : List D} (hl : ∀ (P' : Addr → Prop) (H2 : Hp), Kp (PP F g) g.m H P' H2 → SqL F.K H2 a vs) (r : RpA F.K H (PP F g) vs xs) : ItR F g H xs.reverse (Itv F.K a vs.length) := by
  intro i P' H2 k
  have q := hl P' H2 k
  refine ⟨fun d e => ?_, fun e => show vs.length ≤ i by rw [r.length]; simpa using e⟩
  obtain ⟨h0, e⟩ := rev_get e
  obtain ⟨v, h1, h2⟩ := r.get e
  rw [← r.length] at h1 h0
  refine ⟨⟨h0, vs, v, q, h1⟩, fun x H3 ⟨e1, e2⟩ => .inl ⟨e1, ?_⟩⟩
  have := e2 vs q
  rw [h1] at this; cases this
  exact h2
theorem itr_revT {a : Addr} {vs : List V} {xs : List D} (hl : SqT F.K H a vs) (r : RpA F.K H (PP F g) vs xs) : ItR F g H xs.reverse (ItvT F.K a vs.length) := by
  intro i P' H2 k
  have q := k.sqT hl
  refine ⟨fun d e => ?_, fun e => show vs.length ≤ i by rw [r.length]; simpa using e⟩
  obtain ⟨h0, e⟩ := rev_get e
  obtain ⟨v, h1, h2⟩ := r.get e
  rw [← r.length] at h1 h0
  refine ⟨⟨h0, vs, v, q, h1⟩, fun x H3 ⟨e1, e2⟩ => .inl ⟨e1, ?_⟩⟩
  have := e2 vs q
  rw [h1] at this; cases this
  exact h2
theorem zip_get {xs ys : List D} {i : Nat} {d : D} (h : (zipD xs ys)[i]? = some d) : ∃ x y, xs[i]? = some x ∧ ys[i]? = some y ∧ d = .tup [x, y] := by
  unfold zipD at h
  rw [List.getElem?_zipWith] at h
  cases e1 : xs[i]? <;> cases e2 : ys[i]? <;> rw [e1, e2] at h <;> simp at h
  exact ⟨_, _, rfl, rfl, h.symm⟩
theorem zip_len {xs ys : List D} {i : Nat} (h : (zipD xs ys).length ≤ i) : xs.length ≤ i ∨ ys.length ≤ i := by
  unfold zipD at h
  rw [List.length_zipWith] at h
  omega
theorem itr_zipL {a b : Addr} {vs us : List V} {xs ys : List D} (hl : ∀ (P' : Addr → Prop) (H2 : Hp), Kp (PP F g) g.m H P' H2 → SqL F.K H2 a vs) (hl' : ∀ (P' : Addr → Prop) (H2 : Hp), Kp (PP F g) g.m H P' H2 → SqL F.K H2 b us) (r : RpA F.K H (PP F g) vs xs) (r' : RpA F.K H (PP F g) us ys) :
    ItR F g H (zipD xs ys) (Itz F.K a b) := by
  intro i P' H2 k
  have q := hl P' H2 k
  have q' := hl' P' H2 k
  refine ⟨fun d e => ?_, fun e => ⟨vs, us, q, q', by rw [r.length, r'.length]; exact zip_len e⟩⟩
  obtain ⟨x, y, e1, e2, e3⟩ := zip_get e
  obtain ⟨v, h1, h2⟩ := r.get e1
  obtain ⟨u, h3, h4⟩ := r'.get e2
  refine ⟨⟨vs, us, v, u, q, q', h1, h3⟩, fun z H3 ⟨T, x', y', z1, z2, z3, z4, z5⟩ => .inr ⟨T, [x', y'], [x, y], z2, z1, e3, z3, ?_⟩⟩
  have := z4 vs q
  rw [h1] at this; cases this
  have := z5 us q'
  rw [h3] at this; cases this
  exact .cons h2 (.cons h4 .nil)
theorem itr_zipT {a b : Addr} {vs us : List V} {xs ys : List D} (hl : SqT F.K H a vs) (hl' : SqT F.K H b us) (r : RpA F.K H (PP F g) vs xs) (r' : RpA F.K H (PP F g) us ys) : ItR F g H (zipD xs ys) (ItzT F.K a b) := by
  intro i P' H2 k
  have q := k.sqT hl
  have q' := k.sqT hl'
  refine ⟨fun d e => ?_, fun e => ⟨vs, us, q, q', by rw [r.length, r'.length]; exact zip_len e⟩⟩
  obtain ⟨x, y, e1, e2, e3⟩ := zip_get e
  obtain ⟨v, h1, h2⟩ := r.get e1
  obtain ⟨u, h3, h4⟩ := r'.get e2
  refine ⟨⟨vs, us, v, u, q, q', h1, h3⟩, fun z H3 ⟨T, x', y', z1, z2, z3, z4, z5⟩ => .inr ⟨T, [x', y'], [x, y], z2, z1, e3, z3, ?_⟩⟩
  have := z4 vs q
  rw [h1] at this; cases this
  have := z5 us q'
  rw [h3] at this; cases this
  exact .cons h2 (.cons h4 .nil)
theorem itr_zipM {a b : Addr} {vs us : List V} {xs ys : List D} (hl : SqT F.K H a vs) (hl' : ∀ (P' : Addr → Prop) (H2 : Hp), Kp (PP F g) g.m H P' H2 → SqL F.K H2 b us) (r : RpA F.K H (PP F g) vs xs) (r' : RpA F.K H (PP F g) us ys) : ItR F g H (zipD xs ys) (MZ.ItzM F.K a b) := by
  intro i P' H2 k
  have q := k.sqT hl
  have q' := hl' P' H2 k
  refine ⟨fun d e => ?_, fun e => ⟨vs, us, q, q', by rw [r.length, r'.length]; exact zip_len e⟩⟩
  obtain ⟨x, y, e1, e2, e3⟩ := zip_get e
  obtain ⟨v, h1, h2⟩ := r.get e1
  obtain ⟨u, h3, h4⟩ := r'.get e2
  refine ⟨⟨vs, us, v, u, q, q', h1, h3⟩, fun z H3 ⟨T, x', y', z1, z2, z3, z4, z5⟩ => .inr ⟨T, [x', y'], [x, y], z2, z1, e3, z3, ?_⟩⟩
  have := z4 vs q
  rw [h1] at this; cases this
  have := z5 us q'
  rw [h3] at this; cases this
  exact .cons h2 (.cons h4 .nil)
/-- a list that is nobody's own stands still -/
theorem lst_still {v : V} {xs : List D} (h : Rp F.K H (PP F g) v (.lst xs)) : ∃ a vs, v = .ref a ∧ SqL F.K H a vs ∧ RpA F.K H (PP F g) vs xs ∧ ∀ (P' : Addr → Prop) (H2 : Hp), Kp (PP F g) g.m H P' H2 → SqL F.K H2 a vs := by
  cases h with | lst h n r => exact ⟨_, _, rfl, .of h, r, fun P' H2 k => .of (k.lst h n).1⟩
theorem scr_still {v : V} {xs : List D} (h : Rp F.K H (PP F g) v (.scr xs)) : ∃ a vs, v = .ref a ∧ SqL F.K H a vs ∧ RpA F.K H (PP F g) vs xs ∧ ∀ (P' : Addr → Prop) (H2 : Hp), Kp (PP F g) g.m H P' H2 → SqL F.K H2 a vs := by
  cases h with | scr h r => exact ⟨_, _, rfl, h.sq, r, fun P' H2 k => (k.nL h).sq⟩
theorem tup_still {v : V} {xs : List D} (h : Rp F.K H (PP F g) v (.tup xs)) : ∃ a vs, v = .ref a ∧ SqT F.K H a vs ∧ RpA F.K H (PP F g) vs xs := by
  cases h with | tup h r => exact ⟨_, _, rfl, h, r⟩
end
section
variable {q : Bs} {X : Cx} {W : L2.WX} {sc : Scope} {N : List Str}
theorem snd_it {a : E} {e tg : Expr} (ha : PE X e (tE X.K q W a)) : PI X tg e (tI X.K q W (.it a)) := by
  refine PI.imp (PI.or (pi_list ha) (pi_tup ha)) fun σ H R ⟨p, g, s, Rs, k⟩ => ?_
  unfold evI at k
  cases e : ev a s with
  | bad => rw [e] at k; exact k.elim
  | exc x s1 => rw [e] at k; exact .inl ⟨p, g, s, Rs, by rw [e]; exact k⟩
  | ok r s1 =>
    rw [e] at k
    have lst : ∀ {xs : List D}, (∀ v (g' : G) (H' : Hp), EVR (FX X.K q p) g' H H' v r → ∃ a vs, v = .ref a ∧ SqL X.K H' a vs ∧ RpA X.K H' (PP (FX X.K q p) g') vs xs ∧ ∀ (P' : Addr → Prop) (H2 : Hp), Kp (PP (FX X.K q p) g') g'.m H' P' H2 → SqL X.K H2 a vs) →
        (∀ (g' : G) (H' : Hp), RS (FX X.K q p) g' s1 σ H' → StE g H g' H' → ∀ J, ItR (FX X.K q p) g' H' xs J → R J H') → iList X.K (tE X.K q W a) σ H R := fun {xs} h k => by
      refine ⟨p, g, s, Rs, ?_⟩
      rw [e]
      intro g' H' R' t' v hv
      obtain ⟨b, vs, z1, z2, z3, z4⟩ := h v g' H' hv
      exact ⟨b, z1, ⟨vs, z2⟩, k g' H' R' t' _ (itr_list z4 z3)⟩
    cases r with
    | ob j => exact k.elim
    | bo x => exact k.elim
    | ft x y => exact k.elim
    | fr x =>
      cases x <;> first | exact k.elim | skip
      refine .inl (lst (fun v g' H' h => ?_) k)
      exact lst_still (F := FX X.K q p) (EVR.rp (F := FX X.K q p) h rfl)
    | sh x =>
      cases x <;> first | exact k.elim | skip
      · refine .inr ⟨p, g, s, Rs, ?_⟩
        rw [e]
        intro g' H' R' t' v hv
        obtain ⟨b, vs, z1, z2, z3⟩ := tup_still (F := FX X.K q p) hv
        exact ⟨b, z1, ⟨vs, z2⟩, k g' H' R' t' _ (itr_tup (F := FX X.K q p) z2 z3)⟩
      · exact .inl (lst (fun v g' H' h => lst_still (F := FX X.K q p) h) k)
      · exact .inl (lst (fun v g' H' h => scr_still (F := FX X.K q p) h) k)
/-- a local's list, in a comprehension -/
theorem snd_itb (C : CO q X W sc N) {i : Nat} {e tg : Expr} (h : chkE q N sc (.bor i) e = true) : PI X tg e (tIc X.K q W (.itb i)) := by
  refine PI.imp (pi_list (snd_bor (W := W) C h)) fun σ H R ⟨p, g, s, Rs, k⟩ => ⟨p, g, s, Rs, ?_⟩
  unfold evI at k
  unfold ev
  split at k
  · next xs b e =>
    rw [e]
    intro g' H' R' t' v hv
    have hw : Vw X.K H' (PP (FX X.K q p) g') v (.lst xs) := hv
    obtain ⟨c, us, rfl, h1, r1⟩ := hw.lst
    refine ⟨c, rfl, ⟨us, .of h1⟩, k g' H' R' t' _ fun j P' H2 kk keep => ?_⟩
    have h2 : H2 c = some (.lst us) := keep c _ h1 (notIns R'.ins h1 (fun z => z)) (fun z => z)
    refine ⟨fun d ed => ?_, fun el => ⟨us, .of h2, by rw [r1.length]; exact el⟩⟩
    obtain ⟨u, z1, z2⟩ := r1.get ed
    refine ⟨⟨us, u, .of h2, z1⟩, fun x H3 ⟨y1, y2⟩ => .inl ⟨y1, ?_⟩⟩
    have := y2 us (.of h2)
    rw [z1] at this; cases this
    exact z2
  · exact k.elim
theorem snd_rg1 (C : CO q X W sc N) {a : E} {x : Str} {p1 pos : Pos} {ea tg : Expr} (h1 : glo sc x = true) (h2 : x = "range") (hm : x ∈ q.blts) (hs : notStar ea = true) (ha : PE X ea (tE X.K q W a)) : PI X tg (.Call (.Name x p1) [ea] [] pos) (tI X.K q W (.rg1 a)) := by
  subst h2
  refine PI.imp (pi_range1 (C.glo h1).1 (C.blt _ hm) (pa_cons ha pa_nil (starEach_cons hs)) (starEach_cons hs)) fun σ H R ⟨p, g, s, Rs, k⟩ => ⟨p, g, s, Rs, ?_⟩
  unfold evI at k
  refine Post.mono (Post.dat k) fun va g1 s1 H1 _ R1 t1 k v hv => ?_
  obtain ⟨x, ex, k⟩ := k t1
  cases x <;> first | exact k.elim | skip
  rename_i n
  cases (hv.vw ex).int
  dsimp only at k
  split at k
  · next hb =>
    have hb := rgOk_iff hb
    refine ⟨n, rfl, by omega, by omega, k g1 H1 R1 .refl .refl _ ?_⟩
    have := itr_rng (F := FX X.K q p) (g := g1) (H := H1) 0 n.toNat
    simpa using this
  · exact k.elim
theorem snd_rg2 (C : CO q X W sc N) {a b : E} {x : Str} {p1 pos : Pos} {ea eb tg : Expr} (h1 : glo sc x = true) (h2 : x = "range") (hm : x ∈ q.blts) (hs : notStar ea = true) (hs' : notStar eb = true) (ha : PE X ea (tE X.K q W a)) (hb : PE X eb (tE X.K q W b)) : PI X tg (.Call (.Name x p1) [ea, eb] [] pos) (tI X.K q W (.rg2 a b)) := by
  subst h2
  refine PI.imp (pi_range2 (C.glo h1).1 (C.blt _ hm) (pa_cons ha (pa_cons hb pa_nil (starEach_cons hs')) (starEach_cons hs)) (by rw [starEach_cons hs, starEach_cons hs']; rfl) (starEach_cons hs')) fun σ H R ⟨p, g, s, Rs, k⟩ => ⟨p, g, s, Rs, ?_⟩
  unfold evI at k
  refine Post.mono (Post.dat k) fun va g1 s1 H1 _ R1 t1 k v hv => ?_
  obtain ⟨x, ex, k⟩ := k t1
  refine ⟨p, g1, s1, R1, Post.mono (Post.dat k) fun vb g2 s2 H2 _ R2 t2 k u hu => ?_⟩
  obtain ⟨y, ey, k⟩ := k t2
  cases x with
  | int m =>
    cases y with
    | int n =>
      cases (hv.vw ex).int
      cases (hu.vw ey).int
      dsimp only at k
      split at k
      · next hb =>
        rw [Bool.and_eq_true] at hb
        have hb1 := rgOk_iff hb.1
        have hb2 := rgOk_iff hb.2
        exact ⟨m, n, rfl, ⟨by omega, by omega, by omega, by omega⟩, k g2 H2 R2 .refl .refl t2 _ (itr_rng (F := FX X.K q p) m (n - m).toNat)⟩
      · exact k.elim
    | _ => exact k.elim
  | _ => exact k.elim
theorem snd_rev (C : CO q X W sc N) {a : E} {x : Str} {p1 pos : Pos} {ea tg : Expr} (h1 : glo sc x = true) (h2 : x = "reversed") (hm : x ∈ q.blts) (hs : notStar ea = true) (ha : PE X ea (tE X.K q W a)) : PI X tg (.Call (.Name x p1) [ea] [] pos) (tI X.K q W (.rev a)) := by
  subst h2
  refine PI.imp (pi_revA (C.glo h1).1 (C.blt _ hm) ha (starEach_cons hs)) fun σ H R ⟨p, g, s, Rs, k⟩ => ⟨p, g, s, Rs, ?_⟩
  unfold evI at k
  refine Post.mono (Post.bind k) fun va g1 s1 H1 _ R1 t1 k v hv => ?_
  have k := k t1
  cases ex : sto va with
  | none => rw [ex] at k; exact k.elim
  | some x =>
    rw [ex] at k
    have r := hv.rp ex
    cases x <;> first | exact k.elim | skip
    · obtain ⟨b, vs, z1, z2, z3⟩ := tup_still r
      exact ⟨b, vs, z1, .inr ⟨z2, k g1 H1 R1 .refl .refl _ (itr_revT (F := FX X.K q p) z2 z3)⟩⟩
    · obtain ⟨b, vs, z1, z2, z3, z4⟩ := lst_still r
      exact ⟨b, vs, z1, .inl ⟨z2, k g1 H1 R1 .refl .refl _ (itr_revL (F := FX X.K q p) z4 z3)⟩⟩
theorem snd_zip (C : CO q X W sc N) {a b : E} {x : Str} {p1 pos tpos : Pos} {ea eb : Expr} {elts : List Expr} {kk : Nat} (h1 : glo sc x = true) (h2 : x = "zip") (hm : x ∈ q.blts) (hs : notStar ea = true) (hs' : notStar eb = true) (ha : PE X ea (tE X.K q W a)) (hb : PE X eb (tE X.K q W b)) :
    PI X (.Tuple elts kk tpos) (.Call (.Name x p1) [ea, eb] [] pos) (tI X.K q W (.zip a b)) := by
  subst h2
  refine PI.imp (MZ.pi_zipB (C.glo h1).1 (C.blt _ hm) (pa_cons ha (pa_cons hb pa_nil (starEach_cons hs')) (starEach_cons hs)) (starEach_cons hs) (by rw [starEach_cons hs']; rfl)) fun σ H R ⟨p, g, s, Rs, k⟩ => ⟨p, g, s, Rs, ?_⟩
  unfold evI at k
  refine Post.mono (Post.bind k) fun va g1 s1 H1 _ R1 t1 k v hv => ?_
  refine ⟨p, g1, s1, R1, Post.mono (Post.bind (k t1)) fun vb g2 s2 H2 _ R2 t2 k u hu => ?_⟩
  have k := k t2
  cases ex : sto va with
  | none => rw [ex] at k; exact k.elim
  | some x =>
    cases ey : sto vb with
    | none => rw [ex, ey] at k; cases x <;> exact k.elim
    | some y =>
      rw [ex, ey] at k
      have r := (hv.mono R1 t2).rp ex
      have r' := hu.rp ey
      cases x <;> cases y <;> first | exact k.elim | skip
      · obtain ⟨c, vs, z1, z2, z3⟩ := tup_still r
        obtain ⟨d, us, y1, y2, y3⟩ := tup_still r'
        exact ⟨c, d, vs, us, by rw [z1, y1], .inr (.inl ⟨z2, y2, k g2 H2 R2 .refl .refl t2 _ (itr_zipT (F := FX X.K q p) z2 y2 z3 y3)⟩)⟩
      · obtain ⟨c, vs, z1, z2, z3⟩ := tup_still r
        obtain ⟨d, us, y1, y2, y3, y4⟩ := lst_still r'
        exact ⟨c, d, vs, us, by rw [z1, y1], .inr (.inr ⟨z2, y2, k g2 H2 R2 .refl .refl t2 _ (itr_zipM (F := FX X.K q p) z2 y4 z3 y3)⟩)⟩
      · obtain ⟨c, vs, z1, z2, z3, z4⟩ := lst_still r
        obtain ⟨d, us, y1, y2, y3, y4⟩ := lst_still r'
        exact ⟨c, d, vs, us, by rw [z1, y1], .inl ⟨z2, y2, k g2 H2 R2 .refl .refl t2 _ (itr_zipL (F := FX X.K q p) z4 y4 z3 y3)⟩⟩
end
end MI

namespace MI
open PySem PySem.Spec PyProof.Rows L2 HT
theorem fm_congr {α β : Type} {f g : α → Option β} : ∀ {l : List α}, (∀ x ∈ l, f x = g x) → l.filterMap f = l.filterMap g
  | [], _ => rfl
  | x :: l, h => by
    rw [List.filterMap_cons, List.filterMap_cons, h x List.mem_cons_self, fm_congr fun y hy => h y (List.mem_cons_of_mem _ hy)]
theorem fm_all {α : Type} : ∀ ys : List α, (List.range ys.length).filterMap (fun m => ys[m]?) = ys
  | [] => rfl
  | y :: ys => by
    rw [List.length_cons, List.range_succ_eq_map, List.filterMap_cons]
    simp only [List.getElem?_cons_zero]
    rw [List.filterMap_map]
    exact congrArg (y :: ·) (fm_all ys)
theorem rev_pick (xs : Array Value) : ((List.range xs.size).filterMap fun (m : Nat) => xs[(((xs.size : Int) - 1) + (m : Int) * (-1)).toNat]?) = xs.toList.reverse := by
  have key := fm_all xs.toList.reverse
  rw [List.length_reverse, Array.length_toList] at key
  rw [← key]
  refine fm_congr fun m hm => ?_
  have hm : m < xs.size := List.mem_range.mp hm
  have e : (((xs.size : Int) - 1) + (m : Int) * (-1)).toNat = xs.size - 1 - m := by omega
  rw [e, List.getElem?_reverse (by simpa using hm)]
  simp
theorem item_rev {M : Program} {w : World} {A : Around} {E : Value → Shared → Prop} {s : Shared} {t sl : Addr} {items : Array Value} {u : Value} {Q : Value → Shared → Prop} (ht : IsTup s.heap t items) (hs : s.heap.IsSliceOf sl .none .none u) (pu : IsPart u (some (-1)))
    (h : Q (.ref s.heap.objs.size) { s with heap := s.heap.push { cls := .type "tuple", data := .seq items.toList.reverse.toArray } }) (hsz : items.size ≤ sizeLine) : wpAny (model M w) A (getItem (.ref t) (.ref sl)) Q E s := by
  have htake : sizeOk (.seq items.toList.reverse.toArray) := by
    show items.toList.reverse.toArray.size ≤ sizeLine
    rw [List.size_toArray, List.length_reverse, Array.length_toList]
    exact hsz
  obtain ⟨os, hos, hcs, hds⟩ := id hs
  have hTs : s.TypeIs (.ref sl) "slice" := ⟨os, hos, hcs⟩
  unfold getItem
  try with_reducible refine wpAny_holding ?_
  first | refine wpAny_bind (wpAny_pure ?_) | skip
  refine wpAny_bind (wpAny_sequenceKey ht.typeIs (by decide) ?_)
  refine wpAny_bind (wpAny_callSpecial?_slot (name := Str.ofString "__getitem__") ht.typeIs PyProof.Rows.slot_tuple_getitem
    (wpAny_call_entry PyProof.Rows.slot_tuple_getitem ht.typeIs entry_tuple_getitem ?_ (args_tuple_getitem _ _)))
  show wpAny _ _ (Builtin.Tuple.tupleItemsOf (.ref t) >>= _) _ _ s
  refine wpAny_bind (tupleItemsOf_ ht ?_)
  refine wpAny_bind (wpAny_typeOf hTs ?_)
  rw [if_pos (by decide)]
  have app : ∀ {R : Int × Int × Nat → Shared → Prop} {A' : Around} {E' : Value → Shared → Prop}, R ((items.size : Int) - 1, -1, items.size) s → wpAny (model M w) A' (Builtin.Slice.sliceApplied (.ref sl) (pure (items.size : Int))) R E' s := fun {R A' E'} hR => by
    unfold Builtin.Slice.sliceApplied Builtin.Slice.sliceFields
    refine wpAny_bind (wpAny_bind (wpAny_field hos hds (x := .none) rfl (wpAny_bind (wpAny_field hos hds (x := .none) rfl (wpAny_bind (wpAny_field hos hds (x := u) rfl (wpAny_pure ?_)))))))
    refine wpAny_bind (slicePart_ pu ?_)
    show wpAny _ _ (if ((-1 : Int) == 0) = true then _ else _) _ _ s
    rw [if_neg (by decide)]
    refine wpAny_bind (slicePart_none (wpAny_bind (slicePart_none (wpAny_bind (wpAny_pure ?_)))))
    show wpAny _ _ (pure ((items.size : Int) - 1, (-1 : Int), Builtin.Slice.slicePlaces ((items.size : Int) - 1) (-1) (-1))) _ _ s
    have e : Builtin.Slice.slicePlaces ((items.size : Int) - 1) (-1) (-1) = items.size := by
      unfold Builtin.Slice.slicePlaces
      rw [if_neg (by decide), show (-(-1) : Int) = 1 from rfl, Int.ediv_one]
      split <;> omega
    rw [e]
    exact wpAny_pure hR
  refine wpAny_bind (app ?_)
  show wpAny _ _ (if (((items.size : Int) - 1) == 0 && (-1 : Int) == 1 && items.size == items.size) = true then _ else _) _ _ s
  rw [if_neg (by simp), rev_pick]
  first
    | exact wpAny_bind (m := Builtin.Tuple.tupleExact _) (wpAny_newObj_type (wpAny_pure ⟨_, rfl, wpAny_pure h⟩) htake)
    | exact wpAny_bind (m := Builtin.Tuple.tupleExact _) (wpAny_newObj_type (wpAny_bind (wpAny_pure (wpAny_pure ⟨_, rfl, wpAny_pure h⟩))) htake)
    | exact wpAny_bind (wpAny_bind (m := Builtin.Tuple.tupleExact _) (wpAny_newObj_type (wpAny_pure (wpAny_pure ⟨_, rfl, wpAny_pure h⟩)) htake))
    | exact wpAny_bind (wpAny_bind (m := Builtin.Tuple.tupleExact _) (wpAny_newObj_type (wpAny_pure ⟨_, rfl, wpAny_pure h⟩) htake))
/-- x[::-1], a list or a tuple -/
def tRevS (K : PySem.W.Frag) (te : TE) : TE := fun σ H Q => te σ H fun x H1 => ∃ a xs, x = .ref a ∧ ((SqL K H1 a xs ∧ ∀ p, H1 p = none → Q (.ref p) (upd H1 p (.lst xs.reverse))) ∨ (SqT K H1 a xs ∧ ∀ p, H1 p = none → Q (.ref p) (upd H1 p (.tup xs.reverse))))
theorem pe_revS {X : Cx} {e : Expr} {te : TE} {k : Nat} {p1 p2 p3 pos : Pos} (he : PE X e te) : PE X (.Subscript e (.Slice none none (some (.UnaryOp .USub (.Constant (.int 1) k p1) p2)) p3) pos) (tRevS X.K te) := by
  refine ⟨fun pins s σ H Q I h => ?_⟩
  refine Subscript_ (thn (he.run pins s σ H _ I h) fun v s1 ⟨x, H1, I1, r1, q1⟩ => ?_)
  obtain ⟨a, xs, ex, hx⟩ := q1
  subst ex
  cases r1
  have hst : PO X (some (.UnaryOp .USub (.Constant (.int 1) k p1) p2)) (tPart (tUn (rU fun i => .int (-i)) (tC (.int 1)))) := po_some (pe_un un_neg pe_int)
  refine wpAny_Slice (thn (po_none.run pins s1 σ H1 (fun o H2 => o = none ∧ H2 = H1) I1 ⟨rfl, rfl⟩) fun vl s2 ⟨l, H2, I2, pl, el, e2⟩ => ?_)
  subst el e2
  refine thn (po_none.run pins s2 σ H2 (fun o H3 => o = none ∧ H3 = H2) I2 ⟨rfl, rfl⟩) fun vu s3 ⟨u, H3, I3, pu, eu, e3⟩ => ?_
  subst eu e3
  refine thn (hst.run pins s3 σ H3 (fun o H4 => o = some (-1) ∧ H4 = H3) I3 ⟨1, rfl, -1, rfl, rfl, rfl⟩) fun vs s4 ⟨o, H4, I4, ps, eo, e4⟩ => ?_
  subst eo e4
  have I5 : Inv X pins σ H4 { s4 with heap := s4.heap.push { cls := .type "slice", data := .fields #[vl, vu, vs] } } := I4.kept (t' := s4.toks) fun b ob q => Heap.get?_push_of_some _ q
  show wpAny (model X.prog X.w) X.A (subscriptTail e (.Slice none none (some (.UnaryOp .USub (.Constant (.int 1) k p1) p2)) p3) (.ref a) (.ref s4.heap.objs.size)) (EP X pins σ Q) X.xe { s4 with heap := s4.heap.push { cls := .type "slice", data := .fields #[vl, vu, vs] } }
  rcases hx with ⟨hx, q⟩ | ⟨hx, q⟩
  · obtain ⟨its, r, ht, hz⟩ := I5.list hx
    have hlen := r.length
    refine tail_any (ops := [.ref a, .ref s4.heap.objs.size]) ht.isList.typeIs (PySem.slot_list_getitem.lookup) ?_ (by with_unfolding_all rfl)
    refine wpAny_getItem_list_slice ht.isList (Heap.IsSliceOf.new _ vl vu vs) pl pu ps (by decide) ?_ (by rw [List.size_toArray]; omega)
    rw [PySem.W.krv_pick]
    refine ⟨.ref _, _, I5.laid (t' := s4.toks) (o := .lst xs.reverse) (fun b ob q => Heap.get?_push_of_some _ q) (Nat.le_refl _) ?_, rfl, q _ (I5.hok.fresh (Nat.le_refl _))⟩
    exact ⟨by rw [List.length_reverse]; exact hz, _, 0, r.reverse, Heap.get?_push_size _ rfl⟩
  · obtain ⟨its, r, ht, hz⟩ := I5.tuple hx
    have hlen := r.length
    cases pl
    cases pu
    refine tail_any (ops := [.ref a, .ref s4.heap.objs.size]) ht.typeIs (PyProof.Rows.slot_tuple_getitem.lookup) ?_ (by with_unfolding_all rfl)
    refine item_rev ht (Heap.IsSliceOf.new _ _ _ vs) ps ?_ (by rw [List.size_toArray]; omega)
    refine ⟨.ref _, _, I5.laid (t' := s4.toks) (o := .tup xs.reverse) (fun b ob q => Heap.get?_push_of_some _ q) (Nat.le_refl _) ?_, rfl, q _ (I5.hok.fresh (Nat.le_refl _))⟩
    exact ⟨by rw [List.length_reverse]; exact hz, _, r.reverse, IsTup.new _ _⟩
section
variable {q : Bs} {X : Cx} {W : L2.WX} {sc : Scope} {N : List Str}
theorem snd_dnew {e : Expr} (h : chkE q N sc .dnew e = true) : PE X e (tE X.K q W .dnew) := by
  cases e <;> first | exact Bool.noConfusion (show false = true from h) | skip
  rename_i ks vs pos
  cases ks <;> first | exact Bool.noConfusion (show false = true from h) | skip
  cases vs <;> first | exact Bool.noConfusion (show false = true from h) | skip
  refine PE.imp pe_dnewT fun σ H Q ⟨p, g, s, R, k⟩ b hb => ?_
  unfold ev at k
  exact k g _ (R.alloc hb) (StE.refl.alloc hb) _ ⟨b, rfl, hb, R.rd2.np hb, [], upd_same, rfl, .nil⟩
theorem insU_mem (x k : Int) : ∀ ys : List Int, k ∈ insU x ys ↔ k = x ∨ k ∈ ys
  | [] => by simp [insU]
  | y :: ys => by
    unfold insU
    split
    · simp
    · split
      · next h => subst h; simp
      · rw [List.mem_cons, insU_mem x k ys, List.mem_cons]
        constructor
        · rintro (h | h | h) <;> simp [h]
        · rintro (h | h | h) <;> simp [h]
theorem distI_mem (k : Int) : ∀ xs : List Int, k ∈ distI xs ↔ k ∈ xs
  | [] => by simp [distI]
  | x :: xs => by rw [distI, insU_mem, distI_mem k xs, List.mem_cons]
theorem insU_pw (x : Int) : ∀ ys : List Int, ys.Pairwise (· < ·) → (insU x ys).Pairwise (· < ·)
  | [], _ => by simp [insU]
  | y :: ys, h => by
    obtain ⟨h1, h2⟩ := List.pairwise_cons.mp h
    unfold insU
    split
    · next c =>
      refine List.pairwise_cons.mpr ⟨fun z hz => ?_, h⟩
      rcases List.mem_cons.mp hz with rfl | hz
      · exact c
      · have := h1 z hz; omega
    · split
      · exact h
      · next c1 c2 =>
        refine List.pairwise_cons.mpr ⟨fun z hz => ?_, insU_pw x ys h2⟩
        rcases (insU_mem x z ys).mp hz with rfl | hz
        · omega
        · exact h1 z hz
theorem distI_pw : ∀ xs : List Int, (distI xs).Pairwise (· < ·)
  | [] => .nil
  | x :: xs => insU_pw x _ (distI_pw xs)
theorem pw_uniq : ∀ {xs ys : List Int}, xs.Pairwise (· < ·) → ys.Pairwise (· < ·) → (∀ k, k ∈ xs ↔ k ∈ ys) → xs = ys
  | [], [], _, _, _ => rfl
  | [], y :: ys, _, _, h => absurd ((h y).mpr List.mem_cons_self) (by simp)
  | x :: xs, [], _, _, h => absurd ((h x).mp List.mem_cons_self) (by simp)
  | x :: xs, y :: ys, hx, hy, h => by
    obtain ⟨x1, x2⟩ := List.pairwise_cons.mp hx
    obtain ⟨y1, y2⟩ := List.pairwise_cons.mp hy
    have e : x = y := by
      rcases List.mem_cons.mp ((h x).mp List.mem_cons_self) with e | e
      · exact e
      · rcases List.mem_cons.mp ((h y).mpr List.mem_cons_self) with e' | e'
        · exact e'.symm
        · have a := x1 y e'
          have b := y1 x e
          omega
    subst e
    congr 1
    refine pw_uniq x2 y2 fun k => ⟨fun hk => ?_, fun hk => ?_⟩
    · rcases List.mem_cons.mp ((h k).mp (List.mem_cons_of_mem _ hk)) with e | e
      · have := x1 k hk; omega
      · exact e
    · rcases List.mem_cons.mp ((h k).mpr (List.mem_cons_of_mem _ hk)) with e | e
      · have := y1 k hk; omega
      · exact e
theorem rpa_ints {K : PySem.W.Frag} {H : Hp} {P : Addr → Prop} : ∀ {vs : List V} {ns : List Int}, RpA K H P vs (ns.map D.int) → vs = ns.map V.int
  | [], [], _ => rfl
  | [], n :: ns, h => by cases h
  | v :: vs, [], h => by cases h
  | v :: vs, n :: ns, h => by
    cases h with
    | cons h1 h2 =>
      cases h1
      rw [rpa_ints h2]; rfl
theorem rpa_of_ints {K : PySem.W.Frag} {H : Hp} {P : Addr → Prop} : ∀ (ns : List Int), RpA K H P (ns.map V.int) (ns.map D.int)
  | [] => .nil
  | n :: ns => .cons (.int n) (rpa_of_ints ns)
theorem snd_un (C : CO q X W sc N) {u : Un} {a : E} {e ea : Expr} {xs : List Str} (hu : unE u e = some (ea, xs)) (hx : (xs.all fun x => glo sc x && decide (x ∈ q.blts)) = true) (ha : PE X ea (tE X.K q W a)) : PE X e (tE X.K q W (.un u a)) := by
  cases u with
  | lrv =>
    unfold unE at hu
    dsimp only at hu
    split at hu <;> first | (cases hu; done) | skip
    split at hu <;> cases hu
    rename_i h
    obtain ⟨rfl, rfl, hs⟩ := h
    have h2 := List.all_eq_true.mp hx
    obtain ⟨g1, m1⟩ := ba (h2 "list" (by simp))
    obtain ⟨g2, m2⟩ := ba (h2 "reversed" (by simp))
    refine PE.imp (ML.pe_lv C.calm (C.glo g1).1 (C.blt _ (dec m1)) (C.glo g2).1 (C.blt _ (dec m2)) ha (starEach_cons hs) (by rfl)) fun σ H Q ⟨p, g, s, R, k⟩ => ⟨p, g, s, R, ?_⟩
    unfold ev at k
    refine Post.mono (Post.dat k) fun va g1 s1 H1 _ R1 t1 k v hv => ?_
    obtain ⟨x, ex, k⟩ := k t1
    obtain ⟨r, er, k⟩ := Post.orBad k
    have hw := hv.vw ex
    cases x <;> first | (cases er; done) | skip
    cases er
    obtain ⟨b, us, rfl, h1, r1⟩ := hw.lst
    exact ⟨b, us, rfl, .of h1, fun b hb => k g1 _ (R1.alloc hb) (StE.refl.alloc hb) (StE.refl.alloc hb) _ ⟨b, rfl, t1.free hb, R1.rd2.np hb, _, upd_same, r1.rev.mono (R1.rd2.kpa hb)⟩⟩
  | rvs =>
    unfold unE at hu
    dsimp only at hu
    split at hu <;> first | (cases hu; done) | skip
    cases hu
    refine PE.imp (pe_revS ha) fun σ H Q ⟨p, g, s, R, k⟩ => ⟨p, g, s, R, ?_⟩
    unfold ev at k
    refine Post.mono (Post.dat k) fun va g1 s1 H1 _ R1 t1 k v hv => ?_
    obtain ⟨x, ex, k⟩ := k t1
    obtain ⟨r, er, k⟩ := Post.orBad k
    have hw := hv.vw ex
    cases x <;> first | (cases er; done) | skip
    · cases er
      obtain ⟨b, us, rfl, h1, r1⟩ := hw.tup
      refine ⟨b, us, rfl, .inr ⟨h1, fun b hb => ?_⟩⟩
      exact k g1 _ (R1.alloc hb) (StE.refl.alloc hb) (StE.refl.alloc hb) _ (.tup (.of upd_same) ((r1.rev.mono (R1.rd2.kpa (o := .tup us.reverse) hb)).anti fun _ => .inl))
    · cases er
      obtain ⟨b, us, rfl, h1, r1⟩ := hw.lst
      refine ⟨b, us, rfl, .inl ⟨.of h1, fun b hb => ?_⟩⟩
      exact k g1 _ (R1.alloc hb) (StE.refl.alloc hb) (StE.refl.alloc hb) _ ⟨b, rfl, t1.free hb, R1.rd2.np hb, _, upd_same, r1.rev.mono (R1.rd2.kpa hb)⟩
  | trv =>
    unfold unE at hu
    dsimp only at hu
    split at hu <;> first | (cases hu; done) | skip
    split at hu <;> cases hu
    rename_i h
    obtain ⟨rfl, rfl, hs⟩ := h
    have h2 := List.all_eq_true.mp hx
    obtain ⟨g1, m1⟩ := ba (h2 "tuple" (by simp))
    obtain ⟨g2, m2⟩ := ba (h2 "reversed" (by simp))
    refine PE.imp (MR.pe_rv C.calm (C.glo g1).1 (C.blt _ (dec m1)) (C.glo g2).1 (C.blt _ (dec m2)) ha (starEach_cons hs) (by rfl)) fun σ H Q ⟨p, g, s, R, k⟩ => ⟨p, g, s, R, ?_⟩
    unfold ev at k
    refine Post.mono (Post.dat k) fun va g1 s1 H1 _ R1 t1 k v hv => ?_
    obtain ⟨x, ex, k⟩ := k t1
    obtain ⟨r, er, k⟩ := Post.orBad k
    have hw := hv.vw ex
    cases x <;> first | (cases er; done) | skip
    · cases er
      obtain ⟨b, us, rfl, h1, r1⟩ := hw.tup
      exact ⟨b, us, rfl, .inr h1, fun b hb => k g1 _ (R1.alloc hb) (StE.refl.alloc hb) (StE.refl.alloc hb) _ (.tup (.of upd_same) ((r1.rev.mono (R1.rd2.kpa (o := .tup us.reverse) hb)).anti fun _ => .inl))⟩
    · cases er
      obtain ⟨b, us, rfl, h1, r1⟩ := hw.lst
      exact ⟨b, us, rfl, .inl (.of h1), fun b hb => k g1 _ (R1.alloc hb) (StE.refl.alloc hb) (StE.refl.alloc hb) _ (.tup (.of upd_same) ((r1.rev.mono (R1.rd2.kpa (o := .tup us.reverse) hb)).anti fun _ => .inl))⟩
  | sst =>
    unfold unE at hu
    dsimp only at hu
    split at hu <;> first | (cases hu; done) | skip
    split at hu <;> cases hu
    rename_i h
    obtain ⟨rfl, rfl, hs⟩ := h
    have h2 := List.all_eq_true.mp hx
    obtain ⟨g1, m1⟩ := ba (h2 "sorted" (by simp))
    obtain ⟨g2, m2⟩ := ba (h2 "set" (by simp))
    refine PE.imp (MZ.pe_sortSet C.calm (C.glo g1).1 (C.blt _ (dec m1)) (C.glo g2).1 (C.blt _ (dec m2)) ha (starEach_cons hs) (by rfl)) fun σ H Q ⟨p, g, s, R, k⟩ => ⟨p, g, s, R, ?_⟩
    unfold ev at k
    refine Post.mono (Post.dat k) fun va g1 s1 H1 _ R1 t1 k v hv => ?_
    obtain ⟨x, ex, k⟩ := k t1
    obtain ⟨r, er, k2⟩ := Post.orBad k
    have hw := hv.vw ex
    cases x <;> first | (cases er; done) | skip
    rename_i xs
    have er : (intsD xs).bind (fun ns => gd (decide (ns.length < 64)) (.fr (.lst ((distI ns).map D.int)))) = some r := er
    cases ei : intsD xs with
    | none => rw [ei] at er; cases er
    | some ns =>
      rw [ei] at er
      obtain ⟨z1, rfl⟩ := gd_some er
      have ee := intsD_map ei
      subst ee
      obtain ⟨b, us, rfl, h1, r1⟩ := hw.lst
      rw [rpa_ints r1] at h1
      refine ⟨b, ns, rfl, .of h1, of_decide_eq_true z1, fun ms b2 pw me hb => ?_⟩
      have em : ms = distI ns := pw_uniq pw (distI_pw ns) fun k => (me k).trans (distI_mem k ns).symm
      subst em
      exact k2 g1 _ (R1.alloc hb) (StE.refl.alloc hb) (StE.refl.alloc hb) _ ⟨b2, rfl, t1.free hb, R1.rd2.np hb, _, upd_same, rpa_of_ints _⟩
theorem rpa_rng {K : PySem.W.Frag} {H : Hp} {P : Addr → Prop} (f : Nat → Int) : ∀ ks : List Nat, RpA K H P (ks.map fun k => V.int (f k)) (ks.map fun k => D.int (f k))
  | [] => .nil
  | k :: ks => .cons (.int _) (rpa_rng f ks)
theorem snd_lr1 (C : CO q X W sc N) {a : E} {x y : Str} {p1 p2 pos pos2 : Pos} {ea : Expr} (g1 : glo sc x = true) (g2 : glo sc y = true) (h1 : x = "list") (h2 : y = "range") (m1 : x ∈ q.blts) (m2 : y ∈ q.blts) (hs : notStar ea = true) (ha : PE X ea (tE X.K q W a)) :
    PE X (.Call (.Name x p1) [.Call (.Name y p2) [ea] [] pos2] [] pos) (tE X.K q W (.lr1 a)) := by
  subst h1 h2
  refine PE.imp (pe_listRg C.calm (C.glo g1).1 (C.blt _ m1) (prg_1 (C.glo g2).1 (C.blt _ m2) ha (starEach_cons hs)) (by rfl)) fun σ H Q ⟨p, g, s, R, k⟩ => ⟨p, g, s, R, ?_⟩
  unfold ev at k
  refine Post.mono (Post.dat k) fun va g1 s1 H1 _ R1 t1 k v hv => ?_
  obtain ⟨x, ex, k⟩ := k t1
  have hw := hv.vw ex
  cases x <;> first | exact k.elim | skip
  rename_i n
  cases hw.int
  dsimp only at k
  split at k
  · next hb =>
    rw [Bool.and_eq_true] at hb
    have b1 := rgOk_iff hb.1
    have b2 : n ≤ 16777216 := of_decide_eq_true hb.2
    refine ⟨n, rfl, ⟨by omega, by omega, by omega, by omega, by omega⟩, fun b hb => ?_⟩
    have e : rgV 0 n = (List.range n.toNat).map fun k => V.int ((k : Nat) : Int) := by
      unfold rgV
      rw [show n - 0 = n by omega]
      simp
    rw [e]
    exact k g1 _ (R1.alloc hb) (StE.refl.alloc hb) (StE.refl.alloc hb) _ ⟨b, rfl, t1.free hb, R1.rd2.np hb, _, upd_same, rpa_rng (fun k => (k : Int)) _⟩
  · exact k.elim
theorem snd_lr2 (C : CO q X W sc N) {a b : E} {x y : Str} {p1 p2 pos pos2 : Pos} {ea eb : Expr} (g1 : glo sc x = true) (g2 : glo sc y = true) (h1 : x = "list") (h2 : y = "range") (m1 : x ∈ q.blts) (m2 : y ∈ q.blts) (hs : notStar ea = true) (hs2 : notStar eb = true) (ha : PE X ea (tE X.K q W a)) (hb : PE X eb (tE X.K q W b)) :
    PE X (.Call (.Name x p1) [.Call (.Name y p2) [ea, eb] [] pos2] [] pos) (tE X.K q W (.lr2 a b)) := by
  subst h1 h2
  refine PE.imp (pe_listRg C.calm (C.glo g1).1 (C.blt _ m1) (prg_2 (C.glo g2).1 (C.blt _ m2) ha hb (starEach_cons hs) (starEach_cons hs2) (by rw [starEach_cons hs2]; rfl)) (by rfl)) fun σ H Q ⟨p, g, s, R, k⟩ => ⟨p, g, s, R, ?_⟩
  unfold ev at k
  refine Post.mono (Post.dat k) fun va g1 s1 H1 _ R1 t1 k v hv => ?_
  obtain ⟨x, ex, k⟩ := k t1
  refine ⟨p, g1, s1, R1, Post.mono (Post.dat k) fun vb g2 s2 H2 _ R2 t2 k u hu => ?_⟩
  obtain ⟨y, ey, k⟩ := k t2
  cases x with
  | int m =>
    cases y with
    | int n =>
      cases (hv.vw ex).int
      cases (hu.vw ey).int
      dsimp only at k
      split at k
      · next hb =>
        rw [Bool.and_eq_true, Bool.and_eq_true] at hb
        have b1 := rgOk_iff hb.1.1
        have b2 := rgOk_iff hb.1.2
        have b3 : n - m ≤ 16777216 := of_decide_eq_true hb.2
        refine ⟨m, n, rfl, rfl, ⟨by omega, by omega, by omega, by omega, by omega⟩, fun b hb => ?_⟩
        exact k g2 _ (R2.alloc hb) (StE.refl.alloc hb) (StE.refl.alloc hb) (t2.alloc hb) _ ⟨b, rfl, t1.free (t2.free hb), R2.rd2.np hb, _, upd_same, rpa_rng (fun k => m + (k : Int)) _⟩
      · exact k.elim
    | _ => exact k.elim
  | _ => exact k.elim
theorem itr_rngC {F : Fx} {g : G} {H : Hp} (m c : Int) (n : Nat) : ItR F g H ((List.range n).map fun (k : Nat) => D.int (m + (k : Nat) * c)) (Itc m c n) := by
  intro i P' H2 k
  refine ⟨fun d e => ?_, fun h => show n ≤ i by simpa using h⟩
  rw [List.getElem?_map] at e
  cases q : (List.range n)[i]? with
  | none => rw [q] at e; cases e
  | some j =>
    rw [q] at e
    cases e
    have hi : i < n := by simpa using (List.getElem?_eq_some_iff.mp q).1
    have : j = i := by
      have := (List.getElem?_eq_some_iff.mp q).2
      simpa using this.symm
    subst this
    exact ⟨hi, fun x H3 ⟨e1, e2⟩ => .inl ⟨e1, by rw [e2]; exact .int _⟩⟩
theorem snd_rg3 (C : CO q X W sc N) {a b : E} {c : Int} {x : Str} {p1 p2 p3 pos : Pos} {kk : Nat} {ea eb tg : Expr} (h1 : glo sc x = true) (h2 : x = "range") (hm : x ∈ q.blts) (hs : notStar ea = true) (hs2 : notStar eb = true) (hc : c = -1) (ha : PE X ea (tE X.K q W a)) (hb : PE X eb (tE X.K q W b)) :
    PI X tg (.Call (.Name x p1) [ea, eb, .UnaryOp .USub (.Constant (.int 1) kk p2) p3] [] pos) (tI X.K q W (.rg3 a b c)) := by
  subst h2 hc
  have hn : PE X (.UnaryOp .USub (.Constant (.int 1) kk p2) p3) (tUn (rU fun i => .int (-i)) (tC (.int 1))) := pe_un un_neg pe_int
  refine PI.imp (pi_range3 (C.glo h1).1 (C.blt _ hm) (pa_cons ha (pa_cons hb (pa_cons hn pa_nil (starEach_cons rfl)) (starEach_cons hs2)) (starEach_cons hs)) (starEach_cons hs) (by rw [starEach_cons hs2]; rfl)) fun σ H R ⟨p, g, s, Rs, k⟩ => ⟨p, g, s, Rs, ?_⟩
  unfold evI at k
  refine Post.mono (Post.dat k) fun va g1 s1 H1 _ R1 t1 k v hv => ?_
  obtain ⟨x, ex, k⟩ := k t1
  refine ⟨p, g1, s1, R1, Post.mono (Post.dat k) fun vb g2 s2 H2 _ R2 t2 k u hu => ?_⟩
  obtain ⟨y, ey, k⟩ := k t2
  cases x with
  | int m =>
    cases y with
    | int n =>
      cases (hv.vw ex).int
      cases (hu.vw ey).int
      dsimp only at k
      split at k
      · next hb =>
        rw [Bool.and_eq_true, Bool.and_eq_true] at hb
        have hb1 := rgOk_iff hb.1.1
        have hb2 := rgOk_iff hb.1.2
        exact ⟨1, rfl, m, n, -1, (m - n).toNat, rfl, .neg (by omega) (by omega) (by omega) (by omega), k g2 H2 R2 .refl .refl t2 _ (itr_rngC (F := FX X.K q p) m (-1) (m - n).toNat)⟩
      · exact k.elim
    | _ => exact k.elim
  | _ => exact k.elim
end
end MI

namespace MI
open PySem L2

/-! ### what an expression does to the slots: at most they own no more -/
def Sub (s s' : State) : Prop := ∀ (i : Nat) (z : Slot), s'.r[i]? = some z → z = .u ∨ s.r[i]? = some z ∨ ∃ x, z = .v x false ∧ s.r[i]? = some (.v x true)
theorem Sub.refl (s : State) : Sub s s := fun _ _ h => .inr (.inl h)
theorem Sub.trans {a b c : State} (h : Sub a b) (k : Sub b c) : Sub a c := fun i z e => by
  rcases k i z e with q | q | ⟨x, q1, q2⟩
  · exact .inl q
  · exact h i z q
  · rcases h i _ q2 with q | q | ⟨y, q3, q4⟩
    · cases q
    · exact .inr (.inr ⟨x, q1, q⟩)
    · cases q3
theorem Sub.of_r {s s' : State} (h : s'.r = s.r) : Sub s s' := fun i z e => .inr (.inl (by rw [← h]; exact e))
def SubR {α : Type} (s : State) (r : R State α) : Prop := match r with
  | .ok _ s' => Sub s s' | _ => True
theorem SubR.bind {α β : Type} {s : State} {r : R State α} {f : α → State → R State β} (h : SubR s r) (k : ∀ a s1, SubR s1 (f a s1)) : SubR s (r.bind f) := by
  cases r with
  | bad => trivial
  | exc e s1 => trivial
  | ok a s1 =>
    have k := k a s1
    show SubR s (f a s1)
    cases e : f a s1 with
    | bad => trivial
    | exc x s2 => trivial
    | ok b s2 => rw [e] at k; exact Sub.trans h k
theorem SubR.dat {β : Type} {s : State} {r : R State EV} {f : D → State → R State β} (h : SubR s r) (k : ∀ a s1, SubR s1 (f a s1)) : SubR s (r.dat f) :=
  SubR.bind h fun a s1 => by cases a <;> first | exact k _ _ | trivial
theorem SubR.orBad {α : Type} {s : State} {o : Option α} : SubR s (orBad o s) := by cases o <;> first | exact Sub.refl s | trivial
theorem SubR.ok {α : Type} {s : State} {a : α} : SubR s (R.ok a s) := Sub.refl s
theorem SubR.callF {f : Fn} {as : List Slot} {s : State} : SubR s (callF f as s) := by
  unfold MI.callF
  split <;> first | exact Sub.of_r rfl | trivial
theorem sub_wipe (vs : List Nat) (r : List Slot) (S S' : Store) : Sub ⟨r, S⟩ ⟨wipeR vs r, S'⟩ := fun i z e => by
  rcases wipeR_get e with q | ⟨_, q⟩
  · exact .inl q
  · exact .inr (.inl q)
theorem sub_set {r : List Slot} {S S' : Store} {i : Nat} {x : D} {b : Bool} (h : r[i]? = some (.v x b)) : Sub ⟨r, S⟩ ⟨r.set i (.v x false), S'⟩ := fun j z e => by
  rcases get_set e with ⟨rfl, e1, _⟩ | ⟨_, e1⟩
  · subst e1
    cases b with
    | false => exact .inr (.inl h)
    | true => exact .inr (.inr ⟨x, rfl, h⟩)
  · exact .inr (.inl e1)
/-- slots outside vs -/
def SubV (vs : List Nat) (s s' : State) : Prop := s'.r.length = s.r.length ∧ ∀ (i : Nat) (z : Slot), i ∉ vs → s'.r[i]? = some z → z = .u ∨ s.r[i]? = some z ∨ ∃ x, z = .v x false ∧ s.r[i]? = some (.v x true)
theorem setMany_get {is : List Nat} {xs : List D} {r : List Slot} {j : Nat} {z : Slot} (n : j ∉ is) (h : (setMany is xs r)[j]? = some z) : r[j]? = some z := by
  induction is generalizing xs r with
  | nil => exact h
  | cons i is ih =>
    cases xs with
    | nil => exact h
    | cons x xs =>
      have := ih (fun q => n (List.mem_cons_of_mem _ q)) h
      rcases get_set this with ⟨e, _⟩ | ⟨_, e⟩
      · exact absurd (by rw [e]; exact List.mem_cons_self) n
      · exact e
theorem asg_get {t : Tg} {v : EV} {s s' : State} {vs : List Nat} (ht : tgIn t vs = true) (h : asg t v s = .ok () s') {j : Nat} {z : Slot} (n : j ∉ vs) (e : s'.r[j]? = some z) : s.r[j]? = some z := by
  cases t with
  | one i =>
    have hi : i ∈ vs := dec ht
    cases v <;> first | (cases h; done) | skip
    all_goals
      cases h
      rcases get_set e with ⟨e1, _⟩ | ⟨_, e1⟩
      · exact absurd (e1 ▸ hi) n
      · exact e1
  | many is =>
    have hi : ∀ i ∈ is, i ∈ vs := fun i q => dec (List.all_eq_true.mp ht i q)
    unfold asg at h
    dsimp only at h
    split at h <;> first | (cases h; done) | skip
    all_goals
      split at h
      · cases h
        exact setMany_get (fun q => n (hi j q)) e
      · cases h
theorem comL_sub {f : D → State → R State (Option D)} (h : ∀ x s, SubR s (f x s)) : ∀ (xs : List D) (s : State), SubR s (comL f xs s)
  | [], s => Sub.refl s
  | x :: xs, s => by
    unfold comL
    have h1 := h x s
    cases e : f x s with
    | bad => trivial
    | exc y s1 => trivial
    | ok o s1 =>
      rw [e] at h1
      have h2 := comL_sub h xs s1
      dsimp only
      cases e2 : comL f xs s1 with
      | bad => trivial
      | exc y s2 => trivial
      | ok ys s2 => rw [e2] at h2; exact Sub.trans h1 h2
/-- the block of a comprehension, a turn -/
theorem turn_sub {vs : List Nat} {t : Tg} {x : D} {s s2 s4 : State} (ht : tgIn t vs = true) (e : asg t (.sh x) ⟨wipeR vs s.r, s.S⟩ = .ok () s2) (h : Sub s2 s4) : Sub s ⟨wipeR vs s4.r, s4.S⟩ := fun j z q => by
  rcases wipeR_get q with q | ⟨n, q⟩
  · exact .inl q
  · have key : ∀ {y : Slot}, s2.r[j]? = some y → y = .u ∨ s.r[j]? = some y := fun {y} w => by
      have := asg_get ht e n w
      rcases wipeR_get this with z | ⟨_, z⟩
      · exact .inl z
      · exact .inr z
    rcases h j z q with w | w | ⟨y, w1, w2⟩
    · exact .inl w
    · rcases key w with w | w
      · exact .inl w
      · exact .inr (.inl w)
    · rcases key w2 with w | w
      · cases w
      · exact .inr (.inr ⟨y, w1, w⟩)
/-- the targets of comprehensions are their own names -/
def Tidy : E → Prop
  | .bin _ a b => Tidy a ∧ Tidy b
  | .neg a => Tidy a
  | .cmp _ a b => Tidy a ∧ Tidy b
  | .chn _ _ a b c => Tidy a ∧ Tidy b ∧ Tidy c
  | .isn a => Tidy a
  | .isnn a => Tidy a
  | .lend a => Tidy a
  | .not a => Tidy a
  | .and a b => Tidy a ∧ Tidy b
  | .or a b => Tidy a ∧ Tidy b
  | .one a => Tidy a
  | .ite c a b => Tidy c ∧ Tidy a ∧ Tidy b
  | .tup a => Tidy a
  | .lst a => Tidy a
  | .cons a as => Tidy a ∧ Tidy as
  | .ix a i => Tidy a ∧ Tidy i
  | .sl a l h => Tidy a ∧ Tidy l ∧ Tidy h
  | .call _ _ as => Tidy as
  | .cax a _ as => Tidy a ∧ Tidy as
  | .cal _ _ as => Tidy as
  | .new _ _ _ as => Tidy as
  | .mth _ _ _ _ as => Tidy as
  | .blt _ as => Tidy as
  | .isi a _ => Tidy a
  | .bm _ a as => Tidy a ∧ Tidy as
  | .com vs t it c e => tgIn t vs = true ∧ Tidy it ∧ Tidy c ∧ Tidy e
  | .un _ a => Tidy a
  | .lr1 a => Tidy a
  | .stp a b => Tidy a ∧ Tidy b
  | .dqe _ a b => Tidy a ∧ Tidy b
  | .din _ k _ => Tidy k
  | .dgt a b c => Tidy a ∧ Tidy b ∧ Tidy c
  | .lr2 a b => Tidy a ∧ Tidy b
  | .srk a _ => Tidy a
  | .isx a _ _ _ => Tidy a
  | .xf a _ _ => Tidy a
  | .rg3 a b _ => Tidy a ∧ Tidy b
  | .it a => Tidy a
  | .rg1 a => Tidy a
  | .rg2 a b => Tidy a ∧ Tidy b
  | .zip a b => Tidy a ∧ Tidy b
  | .rev a => Tidy a
  | _ => True
theorem SubR.if_ {α : Type} {s : State} {c : Prop} [Decidable c] {a b : R State α} (h : SubR s a) (k : SubR s b) : SubR s (if c then a else b) := by split <;> assumption
structure SubA (c : E) : Prop where
  e : Tidy c → ∀ s, SubR s (ev c s)
  a : Tidy c → ∀ s, SubR s (evA c s)
  l : Tidy c → ∀ s, SubR s (evL c s)
  o : Tidy c → ∀ s, SubR s (evO c s)
  i : Tidy c → ∀ s, SubR s (evI c s)
theorem ev_sub (c : E) : SubA c := by
  induction c with
  | var i =>
    refine ⟨fun _ s => ?_, fun _ _ => ?_, fun _ _ => ?_, fun _ _ => ?_, fun _ _ => ?_⟩
    · unfold ev
      split
      · next x b e => exact sub_set e
      · exact Sub.refl s
      · trivial
    all_goals trivial
  | bor i =>
    refine ⟨fun _ s => ?_, fun _ _ => ?_, fun _ _ => ?_, fun _ _ => ?_, fun _ _ => ?_⟩
    · unfold ev
      split
      · exact Sub.refl s
      · trivial
    all_goals trivial
  | fld i c f =>
    refine ⟨fun _ s => ?_, fun _ _ => ?_, fun _ _ => ?_, fun _ _ => ?_, fun _ _ => ?_⟩
    · unfold ev
      split <;> first | trivial | skip
      split <;> first | trivial | skip
      exact SubR.if_ SubR.orBad trivial
    all_goals trivial
  | com vs t it c e hit hc he =>
    refine ⟨fun T s => ?_, fun _ _ => ?_, fun _ _ => ?_, fun _ _ => ?_, fun _ _ => ?_⟩
    · obtain ⟨t1, t2, t3, t4⟩ := T
      unfold ev
      refine SubR.bind (hit.i t2 s) fun xs s1 => SubR.if_ ?_ trivial
      have key := comL_sub (f := comT vs t (fun s => ev c s) (fun s => ev e s)) (fun x s => by
          unfold comT
          cases ea : asg t (.sh x) ⟨wipeR vs s.r, s.S⟩ with
          | bad => trivial
          | exc y s1 => trivial
          | ok u s2 =>
            dsimp only
            have h1 := hc.e t3 s2
            cases e1 : ev c s2 with
            | bad => trivial
            | exc y s3 => trivial
            | ok v s3 =>
              rw [e1] at h1
              unfold R.dat R.bind
              dsimp only
              cases v.dat with
              | none => trivial
              | some k =>
                cases k <;> first | trivial | skip
                rename_i b
                cases b with
                | false => exact turn_sub t1 ea h1
                | true =>
                  dsimp only
                  have h2 := he.e t4 s3
                  cases e2 : ev e s3 with
                  | bad => trivial
                  | exc y s4 => trivial
                  | ok w s4 =>
                    rw [e2] at h2
                    dsimp only
                    cases sto w <;> first | trivial | exact turn_sub t1 ea (h1.trans h2)) xs ⟨wipeR vs s1.r, s1.S⟩
      revert key
      generalize comL _ xs ⟨wipeR vs s1.r, s1.S⟩ = r
      intro key
      cases r with
      | bad => trivial
      | exc y s2 => trivial
      | ok ys s2 => exact (sub_wipe vs s1.r s1.S s1.S).trans key
    all_goals trivial
  | kn => exact ⟨fun _ s => Sub.refl s, fun _ _ => trivial, fun _ _ => trivial, fun _ _ => trivial, fun _ _ => trivial⟩
  | kb b => exact ⟨fun _ s => Sub.refl s, fun _ _ => trivial, fun _ _ => trivial, fun _ _ => trivial, fun _ _ => trivial⟩
  | ki i => exact ⟨fun _ s => Sub.refl s, fun _ _ => trivial, fun _ _ => trivial, fun _ _ => trivial, fun _ _ => trivial⟩
  | ks x => exact ⟨fun _ s => Sub.refl s, fun _ _ => trivial, fun _ _ => trivial, fun _ _ => trivial, fun _ _ => trivial⟩
  | fnv nm => exact ⟨fun _ s => Sub.refl s, fun _ _ => trivial, fun _ _ => trivial, fun _ _ => trivial, fun _ _ => trivial⟩
  | cax a fs as hb ha => exact ⟨fun T s => by unfold ev; exact SubR.dat (hb.e T.1 s) fun x s1 => by split <;> first | trivial | (split <;> first | trivial | exact SubR.bind (ha.a T.2 s1) fun x s1 => SubR.callF), fun _ _ => trivial, fun _ _ => trivial, fun _ _ => trivial, fun _ _ => trivial⟩
  | cal i fs as ha => exact ⟨fun T s => by unfold ev; split <;> first | trivial | (split <;> first | trivial | exact SubR.bind (ha.a T s) fun x s1 => SubR.callF), fun _ _ => trivial, fun _ _ => trivial, fun _ _ => trivial, fun _ _ => trivial⟩
  | glo n d => exact ⟨fun _ s => Sub.refl s, fun _ _ => trivial, fun _ _ => trivial, fun _ _ => trivial, fun _ _ => trivial⟩
  | dnew => exact ⟨fun _ s => Sub.refl s, fun _ _ => trivial, fun _ _ => trivial, fun _ _ => trivial, fun _ _ => trivial⟩
  | dnwi => exact ⟨fun _ s => Sub.refl s, fun _ _ => trivial, fun _ _ => trivial, fun _ _ => trivial, fun _ _ => trivial⟩
  | nil => exact ⟨fun _ _ => trivial, fun _ s => Sub.refl s, fun _ s => Sub.refl s, fun _ _ => trivial, fun _ _ => trivial⟩
  | gap => exact ⟨fun _ _ => trivial, fun _ _ => trivial, fun _ _ => trivial, fun _ s => Sub.refl s, fun _ _ => trivial⟩
  | bin o a b ha hb => exact ⟨fun T s => by unfold ev; exact SubR.dat (ha.e T.1 s) fun x s1 => SubR.dat (hb.e T.2 s1) fun y s2 => SubR.orBad, fun _ _ => trivial, fun _ _ => trivial, fun _ _ => trivial, fun _ _ => trivial⟩
  | cmp o a b ha hb => exact ⟨fun T s => by unfold ev; exact SubR.dat (ha.e T.1 s) fun x s1 => SubR.dat (hb.e T.2 s1) fun y s2 => SubR.orBad, fun _ _ => trivial, fun _ _ => trivial, fun _ _ => trivial, fun _ _ => trivial⟩
  | ix a b ha hb => exact ⟨fun T s => by unfold ev; exact SubR.dat (ha.e T.1 s) fun x s1 => SubR.dat (hb.e T.2 s1) fun y s2 => SubR.orBad, fun _ _ => trivial, fun _ _ => trivial, fun _ _ => trivial, fun _ _ => trivial⟩
  | neg a ha => exact ⟨fun T s => by unfold ev; exact SubR.dat (ha.e T s) fun x s1 => by cases x <;> first | exact Sub.refl s1 | trivial, fun _ _ => trivial, fun _ _ => trivial, fun _ _ => trivial, fun _ _ => trivial⟩
  | isn a ha => exact ⟨fun T s => by unfold ev; exact SubR.dat (ha.e T s) fun x s1 => by cases x <;> first | exact Sub.refl s1 | trivial, fun _ _ => trivial, fun _ _ => trivial, fun _ _ => trivial, fun _ _ => trivial⟩
  | isnn a ha => exact ⟨fun T s => by unfold ev; exact SubR.dat (ha.e T s) fun x s1 => by cases x <;> first | exact Sub.refl s1 | trivial, fun _ _ => trivial, fun _ _ => trivial, fun _ _ => trivial, fun _ _ => trivial⟩
  | lend a ha =>
    refine ⟨fun T s => ?_, fun _ _ => trivial, fun _ _ => trivial, fun _ _ => trivial, fun _ _ => trivial⟩
    unfold ev
    cases ev a s with
    | bad => trivial
    | exc y s1 => trivial
    | ok v s1 =>
      cases v with
      | sh x =>
        dsimp only
        by_cases k : x.nol = true
        · rw [if_pos k]; exact Sub.of_r rfl
        · rw [if_neg k]; trivial
      | _ => trivial
  | not a ha => exact ⟨fun T s => by unfold ev; exact SubR.dat (ha.e T s) fun x s1 => by cases x <;> first | exact Sub.refl s1 | trivial, fun _ _ => trivial, fun _ _ => trivial, fun _ _ => trivial, fun _ _ => trivial⟩
  | isi a t ha => exact ⟨fun T s => by unfold ev; exact SubR.dat (ha.e T s) fun x s1 => by cases x <;> first | exact Sub.refl s1 | trivial, fun _ _ => trivial, fun _ _ => trivial, fun _ _ => trivial, fun _ _ => trivial⟩
  | one a ha => exact ⟨fun T s => by rw [ev_one]; exact ha.e T s, fun _ _ => trivial, fun _ _ => trivial, fun T s => by unfold evO; exact SubR.dat (ha.e T s) fun x s1 => by cases x <;> first | exact Sub.refl s1 | trivial, fun _ _ => trivial⟩
  | and a b ha hb => exact ⟨fun T s => by unfold ev; exact SubR.dat (ha.e T.1 s) fun x s1 => by cases x <;> first | trivial | (rename_i k; cases k <;> first | exact hb.e T.2 s1 | exact Sub.refl s1), fun _ _ => trivial, fun _ _ => trivial, fun _ _ => trivial, fun _ _ => trivial⟩
  | or a b ha hb => exact ⟨fun T s => by unfold ev; exact SubR.dat (ha.e T.1 s) fun x s1 => by cases x <;> first | trivial | (rename_i k; cases k <;> first | exact hb.e T.2 s1 | exact Sub.refl s1), fun _ _ => trivial, fun _ _ => trivial, fun _ _ => trivial, fun _ _ => trivial⟩
  | ite c a b hc ha hb => exact ⟨fun T s => by unfold ev; exact SubR.dat (hc.e T.1 s) fun x s1 => by cases x <;> first | trivial | (rename_i k; cases k <;> first | exact ha.e T.2.1 s1 | exact hb.e T.2.2 s1), fun _ _ => trivial, fun _ _ => trivial, fun _ _ => trivial, fun _ _ => trivial⟩
  | chn o p a b c ha hb hc => exact ⟨fun T s => by unfold ev; exact SubR.dat (ha.e T.1 s) fun x s1 => SubR.dat (hb.e T.2.1 s1) fun y s2 => by cases cmpop o x y <;> first | trivial | (rename_i k; cases k <;> first | exact Sub.refl s2 | exact SubR.dat (hc.e T.2.2 s2) fun z s3 => SubR.orBad), fun _ _ => trivial, fun _ _ => trivial, fun _ _ => trivial, fun _ _ => trivial⟩
  | tup a ha => exact ⟨fun T s => by unfold ev; exact SubR.bind (ha.a T s) fun x s1 => SubR.orBad, fun _ _ => trivial, fun _ _ => trivial, fun _ _ => trivial, fun _ _ => trivial⟩
  | lst a ha => exact ⟨fun T s => by unfold ev; exact SubR.bind (ha.a T s) fun x s1 => SubR.orBad, fun _ _ => trivial, fun _ _ => trivial, fun _ _ => trivial, fun _ _ => trivial⟩
  | cons a as ha hs => exact ⟨fun _ _ => trivial, fun T s => by unfold evA; exact SubR.bind (ha.e T.1 s) fun x s1 => by cases x.slot <;> first | trivial | exact SubR.bind (hs.a T.2 s1) fun y s2 => Sub.refl s2, fun T s => by unfold evL; exact SubR.dat (ha.e T.1 s) fun x s1 => SubR.bind (hs.l T.2 s1) fun y s2 => Sub.refl s2, fun _ _ => trivial, fun _ _ => trivial⟩
  | sl a lo hi ha hl hh => exact ⟨fun T s => by unfold ev; exact SubR.dat (ha.e T.1 s) fun x s1 => SubR.bind (hl.o T.2.1 s1) fun y s2 => SubR.bind (hh.o T.2.2 s2) fun z s3 => SubR.orBad, fun _ _ => trivial, fun _ _ => trivial, fun _ _ => trivial, fun _ _ => trivial⟩
  | call n f as ha => exact ⟨fun T s => by unfold ev; exact SubR.bind (ha.a T s) fun x s1 => SubR.callF, fun _ _ => trivial, fun _ _ => trivial, fun _ _ => trivial, fun _ _ => trivial⟩
  | new n c f as ha => exact ⟨fun T s => by unfold ev; exact SubR.bind (ha.a T s) fun x s1 => by split <;> first | trivial | exact Sub.of_r rfl, fun _ _ => trivial, fun _ _ => trivial, fun _ _ => trivial, fun _ _ => trivial⟩
  | mth n i c f as ha => exact ⟨fun T s => by unfold ev; split <;> first | trivial | (split <;> first | trivial | exact SubR.if_ (SubR.bind (ha.a T s) fun x s1 => SubR.callF) trivial), fun _ _ => trivial, fun _ _ => trivial, fun _ _ => trivial, fun _ _ => trivial⟩
  | blt b as ha => exact ⟨fun T s => by unfold ev; exact SubR.bind (ha.l T s) fun x s1 => SubR.orBad, fun _ _ => trivial, fun _ _ => trivial, fun _ _ => trivial, fun _ _ => trivial⟩
  | bm m a as ha hs => exact ⟨fun T s => by unfold ev; exact SubR.dat (ha.e T.1 s) fun x s1 => by cases x <;> first | trivial | exact SubR.bind (hs.l T.2 s1) fun y s2 => SubR.orBad, fun _ _ => trivial, fun _ _ => trivial, fun _ _ => trivial, fun _ _ => trivial⟩
  | itb i => exact ⟨fun _ _ => trivial, fun _ _ => trivial, fun _ _ => trivial, fun _ _ => trivial, fun T s => by unfold evI; split <;> first | exact Sub.refl s | trivial⟩
  | it a ha => exact ⟨fun _ _ => trivial, fun _ _ => trivial, fun _ _ => trivial, fun _ _ => trivial, fun T s => by unfold evI; exact SubR.bind (ha.e T s) fun x s1 => by split <;> first | exact Sub.refl s1 | trivial⟩
  | rg1 a ha => exact ⟨fun _ _ => trivial, fun _ _ => trivial, fun _ _ => trivial, fun _ _ => trivial, fun T s => by unfold evI; exact SubR.dat (ha.e T s) fun x s1 => by cases x <;> first | trivial | exact SubR.if_ (Sub.refl s1) trivial⟩
  | rg2 a b ha hb => exact ⟨fun _ _ => trivial, fun _ _ => trivial, fun _ _ => trivial, fun _ _ => trivial, fun T s => by unfold evI; exact SubR.dat (ha.e T.1 s) fun x s1 => SubR.dat (hb.e T.2 s1) fun y s2 => by cases x <;> first | trivial | (cases y <;> first | trivial | exact SubR.if_ (Sub.refl s2) trivial)⟩
  | isx a t yes no ha => exact ⟨fun T s => by unfold ev; exact SubR.dat (ha.e T s) fun x s1 => by cases x <;> first | trivial | exact SubR.if_ (Sub.refl s1) (SubR.if_ (Sub.refl s1) trivial), fun _ _ => trivial, fun _ _ => trivial, fun _ _ => trivial, fun _ _ => trivial⟩
  | xf a f cs ha => exact ⟨fun T s => by unfold ev; exact SubR.dat (ha.e T s) fun x s1 => by cases x <;> first | trivial | exact SubR.if_ SubR.orBad trivial, fun _ _ => trivial, fun _ _ => trivial, fun _ _ => trivial, fun _ _ => trivial⟩
  | dqe z a b ha hb => exact ⟨fun T s => by unfold ev; exact SubR.dat (ha.e T.1 s) fun x s1 => by cases dqA x <;> first | trivial | exact SubR.dat (hb.e T.2 s1) fun y s2 => by cases dqA y <;> first | trivial | exact SubR.if_ (Sub.refl s2) trivial, fun _ _ => trivial, fun _ _ => trivial, fun _ _ => trivial, fun _ _ => trivial⟩
  | din z k i ha => exact ⟨fun T s => by unfold ev; exact SubR.dat (ha.e T s) fun x s1 => by split <;> first | trivial | exact SubR.if_ (Sub.refl s1) trivial, fun _ _ => trivial, fun _ _ => trivial, fun _ _ => trivial, fun _ _ => trivial⟩
  | stp a b ha hb => exact ⟨fun T s => by unfold ev; exact SubR.dat (ha.e T.1 s) fun x s1 => by cases x <;> first | trivial | exact SubR.dat (hb.e T.2 s1) fun y s2 => by cases y <;> first | trivial | exact SubR.if_ (Sub.refl s2) (SubR.if_ (Sub.refl s2) trivial), fun _ _ => trivial, fun _ _ => trivial, fun _ _ => trivial, fun _ _ => trivial⟩
  | dgt a b c ha hb hc => exact ⟨fun T s => by unfold ev; exact SubR.dat (ha.e T.1 s) fun x s1 => by cases x <;> first | trivial | exact SubR.dat (hb.e T.2.1 s1) fun y s2 => SubR.dat (hc.e T.2.2 s2) fun z s3 => by cases y <;> first | trivial | exact SubR.if_ (Sub.refl s3) trivial, fun _ _ => trivial, fun _ _ => trivial, fun _ _ => trivial, fun _ _ => trivial⟩
  | lr1 a ha => exact ⟨fun T s => by unfold ev; exact SubR.dat (ha.e T s) fun x s1 => by cases x <;> first | trivial | exact SubR.if_ (Sub.refl s1) trivial, fun _ _ => trivial, fun _ _ => trivial, fun _ _ => trivial, fun _ _ => trivial⟩
  | lr2 a b ha hb => exact ⟨fun T s => by unfold ev; exact SubR.dat (ha.e T.1 s) fun x s1 => SubR.dat (hb.e T.2 s1) fun y s2 => by cases x <;> first | trivial | (cases y <;> first | trivial | exact SubR.if_ (Sub.refl s2) trivial), fun _ _ => trivial, fun _ _ => trivial, fun _ _ => trivial, fun _ _ => trivial⟩
  | srk a w ha => exact ⟨fun T s => by unfold ev; exact SubR.dat (ha.e T s) fun x s1 => by split <;> first | trivial | exact SubR.if_ (Sub.refl s1) trivial, fun _ _ => trivial, fun _ _ => trivial, fun _ _ => trivial, fun _ _ => trivial⟩
  | un u a ha => exact ⟨fun T s => by unfold ev; exact SubR.dat (ha.e T s) fun x s1 => SubR.orBad, fun _ _ => trivial, fun _ _ => trivial, fun _ _ => trivial, fun _ _ => trivial⟩
  | rg3 a b c ha hb => exact ⟨fun _ _ => trivial, fun _ _ => trivial, fun _ _ => trivial, fun _ _ => trivial, fun T s => by unfold evI; exact SubR.dat (ha.e T.1 s) fun x s1 => SubR.dat (hb.e T.2 s1) fun y s2 => by cases x <;> first | trivial | (cases y <;> first | trivial | exact SubR.if_ (Sub.refl s2) trivial)⟩
  | zip a b ha hb => exact ⟨fun _ _ => trivial, fun _ _ => trivial, fun _ _ => trivial, fun _ _ => trivial, fun T s => by unfold evI; exact SubR.bind (ha.e T.1 s) fun x s1 => SubR.bind (hb.e T.2 s1) fun y s2 => by split <;> first | exact Sub.refl s2 | trivial⟩
  | rev a ha => exact ⟨fun _ _ => trivial, fun _ _ => trivial, fun _ _ => trivial, fun _ _ => trivial, fun T s => by unfold evI; exact SubR.bind (ha.e T s) fun x s1 => by split <;> first | exact Sub.refl s1 | trivial⟩
end MI

namespace MI
open PySem PySem.Spec PyProof.Rows L2
/-! ### a, b = a text of plain signs -/
def chars (cs : List Nat) : List V := cs.map fun c => V.str ⟨#[c]⟩
section
variable {prog : Program} {w : World} {A : Around} {E : Value → Shared → Prop}
theorem draw_str {it : Addr} {x : Str} {t : Tok} : ∀ (n i : Nat) (s : Shared) (Q : List Value → Shared → Prop), s.heap.IsStrIter it "str_ascii_iterator" x t i → i + n ≤ x.cps.size →
    (∀ h' tk us, h'.IsStrIter it "str_ascii_iterator" x t (i + n) → Heap.SameBut it s.heap h' → Vals (chars ((x.cps.toList.drop i).take n)) us → Q us { s with heap := h', toks := tk }) → wpAny (model prog w) A (draw (.ref it) n) Q E s
  | 0, i, s, Q, hit, _, hQ => by
    show wpAny _ _ (pure []) Q E s
    exact wpAny_pure (hQ s.heap s.toks [] hit (Heap.SameBut.refl ..) (by simpa [chars] using Paired.nil))
  | n + 1, i, s, Q, hit, hle, hQ => by
    have hlt : i < x.cps.size := by omega
    show wpAny _ _ (pyNext (.ref it) >>= _) Q E s
    refine wpAny_bind (wpAny_pyNext_ascii_item hit (c := x.cps[i]) (by simp [hlt]) fun h₁ hit₁ hs₁ => ?_)
    refine wpAny_bind (wpAny_holding (draw_str n (i + 1) _ _ hit₁ (by omega) fun h₂ tk us hit₂ hs₂ hv => wpAny_pure ?_))
    have hd : x.cps.toList.drop i = x.cps[i] :: x.cps.toList.drop (i + 1) := by simp [List.drop_eq_getElem_cons, hlt]
    refine hQ h₂ tk _ (by rw [show i + (n + 1) = i + 1 + n by omega]; exact hit₂) (hs₁.trans hs₂) ?_
    rw [hd, List.take_succ_cons]
    exact Paired.cons ⟨_, rfl⟩ hv
theorem unpackItems_str {s : Shared} {x : Str} {t : Tok} {Q : List Value → Shared → Prop} (hh : A.handled = none) (ha : x.cps.all (· < 128) = true)
    (hQ : ∀ h' tk us, Heap.ExtBut s.heap.objs.size s.heap h' → Vals (chars x.cps.toList) us → Q us { s with heap := h', toks := tk }) : wpAny (model prog w) A (unpackItems (.str x t) x.cps.size none) Q E s := by
  unfold unpackItems
  refine wpAny_bind ?_
  · unfold notIterableAtAll
    refine wpAny_bind (wpAny_specialOf (typeIs_str s x t) F.slot_str_iter.lookup ?_)
    refine wpAny_pure ?_
    simp only [Bool.false_eq_true, if_false]
    refine wpAny_bind (wpAny_holding (wpAny_pyIter_ascii ha ?_))
    refine wpAny_bind (wpAny_holding (draw_str x.cps.size 0 _ _ ⟨_, Heap.get?_push_size _ rfl, rfl, rfl⟩ (by omega) fun h₁ tk us hit₁ hs₁ hv => ?_))
    have hall : List.take x.cps.size (List.drop 0 x.cps.toList) = x.cps.toList := by
      rw [List.drop_zero]; exact List.take_of_length_le (by simp)
    rw [hall] at hv
    have hl : us.length = x.cps.size := by rw [← hv.length]; simp [chars]
    rw [if_neg (by omega)]
    refine wpAny_bind (wpAny_holding (wpAny_pyNext_ascii_end hh hit₁ (by simp) fun h₂ he₂ => ?_))
    simp only [Option.isSome_none, Bool.false_eq_true, if_false]
    refine wpAny_pure (hQ h₂ tk us (fun b o hb e => he₂ b o hb (hs₁.extBut b o hb (Heap.get?_push_of_some _ e))) hv)
end
/-- (a, b, ..) = a text of that length -/
def gStr (n : Nat) (t : TGs) : TG := fun v σ H Q => ∃ x : Str, v = .str x ∧ x.cps.all (· < 128) = true ∧ x.cps.size = n ∧ t (chars x.cps.toList) σ H Q
theorem pg_str {X : Cx} {pos : Pos} {es : List Expr} {k : Nat} {t : TGs} {n : Nat} (hc : X.calm = true) (h : PGs X es t)
    (hn : (assignEach es X.env).length = n := by rfl) (hst : (assignEach es X.env).findIdx? (·.1) = none := by rfl) : PG X (.Tuple es k pos) (gStr n t) := by
  refine ⟨fun pins s σ H v u Q I r hw => ?_⟩
  obtain ⟨x, e1, ha, hl, hw⟩ := hw
  subst e1
  obtain ⟨tk, rfl⟩ := r
  rw [PyProof.Rows.assign_Tuple]
  refine wpAny_bind (wpAny_standAt ?_)
  unfold unpack
  rw [hn, ← hl, hst]
  refine wpAny_bind (wpAny_holding (unpackItems_str (I.ok.hd hc) ha fun h' tk us hx hv => ?_))
  have I1 : Inv X pins σ H { s with heap := h', toks := tk } := I.kept (t' := tk) fun b o e => hx b o (Nat.ne_of_lt (Heap.lt_size e)) e
  exact h.run pins _ σ H _ us Q I1 hv hw
end MI

namespace MI
open PySem L2

/-! ### targets -/
def setV : List Nat → List V → L2.St → L2.St
  | i :: is, v :: vs, σ => setV is vs (σ.set i (some v))
  | _, _, σ => σ
def gNs (is : List Nat) : TGs := fun vs σ H Q => vs.length = is.length ∧ Q (setV is vs σ) H
def gT (K : PySem.W.Frag) : Tg → TG
  | .one i => gName i
  | .many is => fun v σ H Q => (gTup K is.length (gNs is) v σ H Q ∨ gUnl K is.length (gNs is) v σ H Q) ∨ gStr is.length (gNs is) v σ H Q
section
variable {q : Bs} {X : Cx} {W : L2.WX} {sc : Scope} {N : List Str}
theorem CO.loc (C : CO q X W sc N) {d : Bool} (hd : d = true → ∀ x, X.fn x = true) {i : Nat} {x : Str} (h : loc d N sc i x = true) : X.N[i]? = some x ∧ L2.Loc X.env.scope x ∧ (X.fn x = true ∨ X.env.scope.names.lookup x = some .local) := by
  obtain ⟨h1, h2⟩ := ba h
  refine ⟨by rw [C.hN]; exact dec h1, ?_⟩
  unfold L2.Loc
  rw [C.hsc]
  cases d with
  | true =>
    refine ⟨?_, .inl (hd rfl x)⟩
    rw [if_pos rfl] at h2
    unfold locK at h2
    split at h2 <;> simp_all
  | false =>
    rw [if_neg (by decide)] at h2
    exact ⟨.inl (dec h2), .inr (dec h2)⟩
theorem chkNs_len {d : Bool} : ∀ {is : List Nat} {es : List Expr}, chkNs d N sc is es = true → es.length = is.length
  | [], [], _ => rfl
  | [], _ :: _, h => by cases h
  | _ :: _, [], h => by cases h
  | i :: is, e :: es, h => by
    cases e <;> first | (cases h; done) | skip
    rw [List.length_cons, List.length_cons, chkNs_len (ba h).2]
theorem pgs_names (C : CO q X W sc N) {d : Bool} (hd : d = true → ∀ x, X.fn x = true) : ∀ {is : List Nat} {es : List Expr}, chkNs d N sc is es = true → PGs X es (gNs is) ∧ (assignEach es X.env).length = is.length ∧ (assignEach es X.env).findIdx? (·.1) = none
  | [], [], _ => ⟨⟨fun pins s σ H vs us Q I r ⟨h1, h2⟩ => pgs_nil.run pins s σ H vs us Q I r ⟨List.eq_nil_of_length_eq_zero h1, by cases vs with | nil => exact h2 | cons v vs => simp at h1⟩⟩, rfl, rfl⟩
  | [], _ :: _, h => by cases h
  | _ :: _, [], h => by cases h
  | i :: is, e :: es, h => by
    cases e <;> first | (cases h; done) | skip
    rename_i x pos
    obtain ⟨h1, h2⟩ := ba h
    obtain ⟨l1, l2, l3⟩ := C.loc hd h1
    obtain ⟨k1, k2, k3⟩ := pgs_names C hd h2
    refine ⟨⟨fun pins s σ H vs us Q I r ⟨z1, z2⟩ => ?_⟩, by show (assignEach es X.env).length + 1 = _; rw [k2]; rfl, ?_⟩
    · cases vs with
      | nil => simp at z1
      | cons v vs => exact (pgs_cons (pg_name (by rw [C.hN]; exact C.nd) l1 l2 l3) k1).run pins s σ H _ us Q I r ⟨v, vs, rfl, by simpa using z1, z2⟩
    · show ((false, assign (.Name x pos) X.env) :: assignEach es X.env).findIdx? (·.1) = none
      rw [List.findIdx?_cons, if_neg (by simp), k3]; rfl
theorem snd_tg (C : CO q X W sc N) {d : Bool} (hd : d = true → ∀ x, X.fn x = true) {t : Tg} {e : Expr} (h : chkTg d N sc t e = true) : PG X e (gT X.K t) := by
  cases t with
  | one i =>
    cases e <;> first | (cases h; done) | skip
    obtain ⟨l1, l2, l3⟩ := C.loc hd (show loc d N sc i _ = true from h)
    exact pg_name (by rw [C.hN]; exact C.nd) l1 l2 l3
  | many is =>
    cases e <;> first | (cases h; done) | skip
    obtain ⟨k1, k2, k3⟩ := pgs_names C hd (ba (show (chkNs d N sc is _ && decide (0 < is.length)) = true from h)).1
    exact PG.or (PG.or (pg_tup C.calm k1 k2 k3) (pg_unl C.calm k1 k2 k3)) (pg_str C.calm k1 k2 k3)
theorem CO.locC (C : CO q X W sc N) {raw : Scope} (hd : ∀ x, raw.names.lookup x = some .cell → X.fn x = true) {i : Nat} {x : Str} (h : locC N raw sc i x = true) : X.N[i]? = some x ∧ L2.Loc X.env.scope x ∧ (X.fn x = true ∨ X.env.scope.names.lookup x = some .local) := by
  obtain ⟨h1, h2⟩ := ba h
  refine ⟨by rw [C.hN]; exact dec h1, ?_⟩
  unfold L2.Loc
  rw [C.hsc]
  rcases Bool.or_eq_true _ _ ▸ h2 with h2 | h2
  · exact ⟨.inl (dec h2), .inr (dec h2)⟩
  · obtain ⟨h3, h4⟩ := ba h2
    exact ⟨.inr (dec h4), .inl (hd x (dec h3))⟩
theorem chkNsC_len {raw : Scope} : ∀ {is : List Nat} {es : List Expr}, chkNsC N raw sc is es = true → es.length = is.length
  | [], [], _ => rfl
  | [], _ :: _, h => by cases h
  | _ :: _, [], h => by cases h
  | i :: is, e :: es, h => by
    cases e <;> first | (cases h; done) | skip
    rw [List.length_cons, List.length_cons, chkNsC_len (ba h).2]
theorem pgs_namesC (C : CO q X W sc N) {raw : Scope} (hd : ∀ x, raw.names.lookup x = some .cell → X.fn x = true) : ∀ {is : List Nat} {es : List Expr}, chkNsC N raw sc is es = true → PGs X es (gNs is) ∧ (assignEach es X.env).length = is.length ∧ (assignEach es X.env).findIdx? (·.1) = none
  | [], [], _ => ⟨⟨fun pins s σ H vs us Q I r ⟨h1, h2⟩ => pgs_nil.run pins s σ H vs us Q I r ⟨List.eq_nil_of_length_eq_zero h1, by cases vs with | nil => exact h2 | cons v vs => simp at h1⟩⟩, rfl, rfl⟩
  | [], _ :: _, h => by cases h
  | _ :: _, [], h => by cases h
  | i :: is, e :: es, h => by
    cases e <;> first | (cases h; done) | skip
    rename_i x pos
    obtain ⟨h1, h2⟩ := ba h
    obtain ⟨l1, l2, l3⟩ := C.locC hd h1
    obtain ⟨k1, k2, k3⟩ := pgs_namesC C hd h2
    refine ⟨⟨fun pins s σ H vs us Q I r ⟨z1, z2⟩ => ?_⟩, by show (assignEach es X.env).length + 1 = _; rw [k2]; rfl, ?_⟩
    · cases vs with
      | nil => simp at z1
      | cons v vs => exact (pgs_cons (pg_name (by rw [C.hN]; exact C.nd) l1 l2 l3) k1).run pins s σ H _ us Q I r ⟨v, vs, rfl, by simpa using z1, z2⟩
    · show ((false, assign (.Name x pos) X.env) :: assignEach es X.env).findIdx? (·.1) = none
      rw [List.findIdx?_cons, if_neg (by simp), k3]; rfl
theorem snd_tgC (C : CO q X W sc N) {raw : Scope} (hd : ∀ x, raw.names.lookup x = some .cell → X.fn x = true) {t : Tg} {e : Expr} (h : chkTgC N raw sc t e = true) : PG X e (gT X.K t) := by
  cases t with
  | one i =>
    cases e <;> first | (cases h; done) | skip
    obtain ⟨l1, l2, l3⟩ := C.locC hd (show locC N raw sc i _ = true from h)
    exact pg_name (by rw [C.hN]; exact C.nd) l1 l2 l3
  | many is =>
    cases e <;> first | (cases h; done) | skip
    obtain ⟨k1, k2, k3⟩ := pgs_namesC C hd (ba (show (chkNsC N raw sc is _ && decide (0 < is.length)) = true from h)).1
    exact PG.or (PG.or (pg_tup C.calm k1 k2 k3) (pg_unl C.calm k1 k2 k3)) (pg_str C.calm k1 k2 k3)
end
theorem wipe_set {σ : L2.St} {vs : List Nat} {i : Nat} {v : Option V} (h : i ∈ vs) : L2.wipe (σ.set i v) vs = L2.wipe σ vs := by
  apply List.ext_getElem?
  intro j
  by_cases hj : j ∈ vs
  · have wi : ∀ (τ : L2.St) (us : List Nat), j ∈ us → (L2.wipe τ us)[j]? = if j < τ.length then some none else none := fun τ us => by
      induction us with
      | nil => intro h; cases h
      | cons u us ih =>
        intro h
        show ((L2.wipe τ us).set u none)[j]? = _
        by_cases e : u = j
        · subst e
          rw [List.getElem?_set]
          simp only [if_true, wipe_length]
        · rw [List.getElem?_set_ne e]
          exact ih ((List.mem_cons.mp h).resolve_left (Ne.symm e))
    rw [wi _ _ hj, wi _ _ hj, List.length_set]
  · rw [wipe_out hj, wipe_out hj, List.getElem?_set_ne]
    rintro rfl
    exact hj h
theorem wipe_setV {vs : List Nat} : ∀ {is : List Nat} {us : List V} {σ : L2.St}, (∀ i ∈ is, i ∈ vs) → L2.wipe (setV is us σ) vs = L2.wipe σ vs
  | [], _, _, _ => rfl
  | _ :: _, [], _, _ => rfl
  | i :: is, u :: us, σ, h => (wipe_setV fun j hj => h j (List.mem_cons_of_mem _ hj)).trans (wipe_set (h i List.mem_cons_self))
section
variable {F : Fx} {g : G} {s s' : State} {σ : L2.St} {H : Hp}
theorem RS.setMany (R : RS F g s σ H) : ∀ {is : List Nat} {vs : List V} {xs : List D}, RpA F.K H (PP F g) vs xs → vs.length = is.length → ∃ g', RS F g' ⟨MI.setMany is xs s.r, s.S⟩ (setV is vs σ) H ∧ StE g H g' H := fun {is} => by
  induction is generalizing g s σ with
  | nil => intro vs xs r h; exact ⟨g, R, .refl⟩
  | cons i is ih =>
    intro vs xs r h
    cases r with
    | nil => simp at h
    | cons r1 r2 =>
      obtain ⟨g', R', t'⟩ := ih (R.setS (i := i) (r1.mono (kp_drop R i))) (r2.mono (kp_drop R i)) (by simpa using h)
      exact ⟨g', R', stE_drop.trans t'⟩
theorem rp_chars {K : PySem.W.Frag} {H : Hp} {P : Addr → Prop} : ∀ cs : List Nat, RpA K H P (chars cs) (cs.map fun c => D.str [c])
  | [] => .nil
  | c :: cs => .cons (.str [c]) (rp_chars cs)
/-- shared data go to a target -/
theorem asg_sh (R : RS F g s σ H) {t : Tg} {v : V} {x : D} (h : Rp F.K H (PP F g) v x) (e : asg t (.sh x) s = .ok () s') {Q : L2.St → Hp → Prop}
    (k : ∀ g' σ', RS F g' s' σ' H → StE g H g' H → (∀ vs, tgIn t vs = true → L2.wipe σ' vs = L2.wipe σ vs) → Q σ' H) : gT F.K t v σ H Q := by
  cases t with
  | one i =>
    cases e
    exact k _ _ (R.setS (i := i) (h.mono (kp_drop R i))) stE_drop fun vs hv => wipe_set (dec hv)
  | many is =>
    have fin : ∀ {xs : List D} {us : List V}, RpA F.K H (PP F g) us xs → (if xs.length = is.length then (MI.R.ok () ⟨MI.setMany is xs s.r, s.S⟩ : MI.R State Unit) else MI.R.bad) = MI.R.ok () s' → us.length = is.length ∧ Q (setV is us σ) H := fun {xs us} r e => by
      split at e
      · next hl =>
        cases e
        have hu : us.length = is.length := r.length.trans hl
        obtain ⟨g', R', t'⟩ := R.setMany r hu
        exact ⟨hu, k g' _ R' t' fun vs hv => wipe_setV fun i hi => dec (List.all_eq_true.mp hv i hi)⟩
      · cases e
    cases x <;> first | (cases e; done) | skip
    · rename_i cs
      cases h
      unfold asg at e
      dsimp only [EV.dat] at e
      split at e
      · next hl =>
        obtain ⟨l1, l2⟩ := ba hl
        cases e
        have hu : (chars cs).length = is.length := by unfold chars; rw [List.length_map]; exact dec l2
        obtain ⟨g', R', t'⟩ := R.setMany (rp_chars cs) hu
        exact .inr ⟨_, rfl, by simpa using l1, by simpa using dec l2, hu, k g' _ R' t' fun vs hv => wipe_setV fun i hi => dec (List.all_eq_true.mp hv i hi)⟩
      · cases e
    · obtain ⟨a, us, rfl, h1, r⟩ := tup_still h
      obtain ⟨z1, z2⟩ := fin r e
      exact .inl (.inl ⟨a, us, rfl, h1, z1, z1, z2⟩)
    · obtain ⟨a, us, rfl, h1, r, _⟩ := lst_still h
      obtain ⟨z1, z2⟩ := fin r e
      exact .inl (.inr ⟨a, us, rfl, h1, z1, z1, z2⟩)
end

/-! ### a < b < c -/
section
variable {q : Bs} {X : Cx} {W : L2.WX} {sc : Scope} {N : List Str}
theorem evT_chn (o p : Cop) (a b c : E) (s : State) : evT (.chn o p a b c) s = (ev a s).dat fun x s1 => (ev b s1).dat fun y s2 => (match cmpop o x y with
    | some true => (ev c s2).dat fun z s3 => orBad (cmpop p y z) s3
    | some false => .ok false s2
    | none => .bad) := by
  unfold evT
  simp only [ev]
  cases ev a s with
  | bad => rfl
  | exc e s' => rfl
  | ok v s1 =>
    unfold R.dat R.bind
    dsimp only
    cases v.dat with
    | none => rfl
    | some x =>
      dsimp only
      cases ev b s1 with
      | bad => rfl
      | exc e s' => rfl
      | ok u s2 =>
        dsimp only
        cases u.dat with
        | none => rfl
        | some y =>
          dsimp only
          cases cmpop o x y with
          | none => rfl
          | some k =>
            cases k with
            | false => rfl
            | true =>
              dsimp only
              cases ev c s2 with
              | bad => rfl
              | exc e s' => rfl
              | ok w s3 =>
                dsimp only
                cases w.dat with
                | none => rfl
                | some z =>
                  dsimp only
                  cases cmpop p y z <;> rfl
theorem snd_chn (C : CO q X W sc N) {o o' : Cop} {a b c : E} {ea eb ec : Expr} {pos : Pos} (hb' : notSet eb = true) (hc' : notSet ec = true) (ha : PE X ea (tE X.K q W a)) (hb : PE X eb (tE X.K q W b)) (hc : PE X ec (tE X.K q W c)) :
    PE X (.Compare ea [copOf o, copOf o'] [eb, ec] pos) (tE X.K q W (.chn o o' a b c)) ∧ PT X (.Compare ea [copOf o, copOf o'] [eb, ec] pos) (tT X.K q W (.chn o o' a b c)) := by
  refine ⟨PE.imp (pe_chain (op_cmp q o C.u65) (op_cmp q o' C.u65) ha hb hc (nomark' hc')) fun σ H Q ⟨p, g, s, R, k⟩ => ⟨p, g, s, R, ?_⟩,
    PT.imp (pt_chain (op_cmp q o C.u65) (op_cmp q o' C.u65) ha hb hc (nomark' hc')) fun σ H Q ⟨p, g, s, R, k⟩ => ⟨p, g, s, R, ?_⟩⟩
  · unfold ev at k
    refine Post.mono (Post.dat k) fun va g1 s1 H1 _ R1 t1 k v hv => ?_
    obtain ⟨x, ex, k⟩ := k t1
    refine ⟨p, g1, s1, R1, Post.mono (Post.dat k) fun vb g2 s2 H2 _ R2 t2 k u hu => ?_⟩
    obtain ⟨y, ey, k⟩ := k t2
    cases e : cmpop o x y with
    | none => rw [e] at k; exact k.elim
    | some b =>
      rw [e] at k
      refine ⟨p, g2, x, y, b, R2.rd2, (hv.mono R1 t2).vw ex, hu.vw ey, e, b, rfl, ?_⟩
      cases b with
      | false => exact k g2 H2 R2 .refl .refl t2 _ (.bl _)
      | true =>
        refine ⟨p, g2, s2, R2, Post.mono (Post.dat k) fun vc g3 s3 H3 _ R3 t3 k w hw => ?_⟩
        obtain ⟨z, ez, k⟩ := k t3
        obtain ⟨r, er, k⟩ := Post.orBad k
        simp only [Option.map_eq_some_iff] at er
        obtain ⟨c', e1, e2⟩ := er
        subst e2
        exact ⟨p, g3, y, z, c', R3.rd2, (hu.mono R2 t3).vw ey, hw.vw ez, e1, k g3 H3 R3 .refl .refl t3 (t2.trans t3) _ (.bl c')⟩
  · rw [evT_chn] at k
    refine Post.mono (Post.dat k) fun va g1 s1 H1 _ R1 t1 k v hv => ?_
    obtain ⟨x, ex, k⟩ := k t1
    refine ⟨p, g1, s1, R1, Post.mono (Post.dat k) fun vb g2 s2 H2 _ R2 t2 k u hu => ?_⟩
    obtain ⟨y, ey, k⟩ := k t2
    cases e : cmpop o x y with
    | none => rw [e] at k; exact k.elim
    | some b =>
      rw [e] at k
      refine ⟨p, g2, x, y, b, R2.rd2, (hv.mono R1 t2).vw ex, hu.vw ey, e, b, rfl, ?_⟩
      cases b with
      | false => exact ⟨false, rfl, k g2 H2 R2 .refl .refl t2⟩
      | true =>
        refine ⟨p, g2, s2, R2, Post.mono (Post.dat k) fun vc g3 s3 H3 _ R3 t3 k w hw => ?_⟩
        obtain ⟨z, ez, k⟩ := k t3
        obtain ⟨r, er, k⟩ := Post.orBad k
        exact ⟨p, g3, y, z, r, R3.rd2, (hu.mono R2 t3).vw ey, hw.vw ez, er, r, rfl, k g3 H3 R3 .refl .refl t3 (t2.trans t3)⟩
end
end MI

namespace MI
open PySem L2

/-! ### a list under construction -/
abbrev Pv.add (p : Pv) (a : Addr) : Pv := ⟨fun b => p.P0 b ∨ b = a, p.m0, p.H0⟩
section
variable {K : PySem.W.Frag} {q : Bs} {p : Pv} {g g' : G} {s s' : State} {σ : L2.St} {H H' : Hp} {a : Addr}
theorem RS.h0 {F : Fx} (R : RS F g s σ H) {b : Addr} (h : H b = none) : F.H0 b = none := by
  cases e : F.H0 b with
  | none => rfl
  | some o =>
    by_cases hm : b ∈ F.m0
    · obtain ⟨r, e1, _⟩ := R.pre
      obtain ⟨u, e2, _⟩ := R.ins b (by rw [e1]; exact List.mem_append_left _ hm)
      rw [h] at e2; cases e2
    · obtain ⟨o1, e1⟩ := R.d0 b o e
      rw [e1] at h; cases h
theorem pp_add {b : Addr} : PP (FX K q (p.add a)) g b ↔ PP (FX K q p) g b ∨ b = a := by
  constructor
  · rintro ((h | h) | h)
    · exact .inl (.inl h)
    · exact .inr h
    · exact .inl (.inr h)
  · rintro ((h | h) | h)
    · exact .inl (.inl h)
    · exact .inr h
    · exact .inl (.inr h)
theorem kp_add (R : RS (FX K q p) g s σ H) (ha : H a = none) {o : HO} : Kp (PP (FX K q p) g) g.m H (PP (FX K q (p.add a)) g) (upd H a o) :=
  ⟨R.ld, R.ins, fun b u e _ _ _ => same_upd ha b u e, fun b u e n h => (pp_add.mp h).elim n fun z => by rw [z, ha] at e; cases e⟩
theorem RS.addP (R : RS (FX K q p) g s σ H) (ha : H a = none) {xs : List V} : RS (FX K q (p.add a)) g s σ (upd H a (.lst xs)) := by
  have k := kp_add R ha (o := .lst xs)
  have su := same_upd (o := .lst xs) ha
  refine ⟨R.len, fun i x e => ?_, fun i x e => ?_, R.ob, fun i ks e => let ⟨v, e1, h⟩ := R.dc i ks e; ⟨v, e1, h.mono k⟩, R.inj, fun i b e => ?_, fun b e => ?_, fun b o h n z => su b o (R.k0 b o h n z), fun b o h => let ⟨o1, e1⟩ := R.d0 b o h; ⟨o1, su b o1 e1⟩, fun p hp => (R.tb p hp).ext su, R.i0, R.pre, R.st.nd, R.st.len, fun j o e => ?_⟩
  · obtain ⟨v, e1, r⟩ := R.sl i x e
    exact ⟨v, e1, r.mono k⟩
  · obtain ⟨b, e1, e2, r⟩ := R.ow i x e
    exact ⟨b, e1, e2, r.mono k fun o _ h => su b o h⟩
  · obtain ⟨h1, h2, o, h3, h4⟩ := R.own i b e
    refine ⟨h1, fun z => z.elim h2 fun z => ?_, o, su b o h3, h4⟩
    rw [z, ha] at h3; cases h3
  · rcases e with e | e
    · obtain ⟨o, h3, h4⟩ := R.p0 b e
      exact ⟨o, su b o h3, h4⟩
    · subst e; exact ⟨_, upd_same, trivial⟩
  · obtain ⟨b, dx, vs, e1, e2, r⟩ := R.st.at_ j o e
    exact ⟨b, dx, vs, e1, su b _ e2, r.mono k⟩
theorem kp_rem (R : RS (FX K q (p.add a)) g s σ H) : Kp (PP (FX K q (p.add a)) g) g.m H (PP (FX K q p) g) H :=
  ⟨R.ld, R.ins, fun b u e _ _ _ => e, fun b u e n h => n (pp_add.mpr (.inl h))⟩
theorem RS.remP (R : RS (FX K q (p.add a)) g s σ H) : RS (FX K q p) g s σ H := by
  have k := kp_rem R
  refine ⟨R.len, fun i x e => ?_, fun i x e => ?_, R.ob, fun i ks e => let ⟨v, e1, h⟩ := R.dc i ks e; ⟨v, e1, h.mono k⟩, R.inj, fun i b e => ?_, fun b e => R.p0 b (.inl e), R.k0, R.d0, R.tb, R.i0, R.pre, R.st.any⟩
  · obtain ⟨v, e1, r⟩ := R.sl i x e
    exact ⟨v, e1, r.mono k⟩
  · obtain ⟨b, e1, e2, r⟩ := R.ow i x e
    exact ⟨b, e1, e2, r.mono k fun o _ h => h⟩
  · obtain ⟨h1, h2, h3⟩ := R.own i b e
    exact ⟨h1, fun z => h2 (.inl z), h3⟩
theorem kp_upd {F : Fx} (R : RS F g s σ H) (ha : PP F g a) {o : HO} : Kp (PP F g) g.m H (PP F g) (upd H a o) :=
  ⟨R.ld, R.ins, fun b u e n _ _ => by rw [upd_ne (fun z => n (by rw [z]; exact ha))]; exact e, fun b u e n => n⟩
/-- the list that is nobody's slot is written -/
theorem RS.updP {F : Fx} (R : RS F g s σ H) (ha : F.P0 a) (h0 : F.H0 a = none) {xs : List V} : RS F g s σ (upd H a (.lst xs)) := by
  have k := kp_upd R (.inl ha) (o := .lst xs)
  have ne : ∀ {i : Nat} {b : Addr}, g.own i = some b → b ≠ a := fun {i b} e z => (R.own i b e).2.1 (z ▸ ha)
  have nm : ∀ {b : Addr} {o : HO}, H b = some o → isIns o → b ≠ a := fun {b o} e l z => by
    obtain ⟨u, e2, l2⟩ := R.p0 a ha
    rw [z, e2] at e; cases e
    exact ld_ni l2 l
  refine ⟨R.len, fun i x e => ?_, fun i x e => ?_, R.ob, fun i ks e => let ⟨v, e1, h⟩ := R.dc i ks e; ⟨v, e1, h.mono k⟩, R.inj, fun i b e => ?_, fun b e => ?_, fun b o h n nt => ?_, fun b o h => ?_, fun p hp => let ⟨u, e2, l2⟩ := R.p0 a ha; tab_upd e2 (.inl l2) (R.tb p hp), R.i0, R.pre, R.st.nd, R.st.len, fun j o e => ?_⟩
  · obtain ⟨v, e1, r⟩ := R.sl i x e
    exact ⟨v, e1, r.mono k⟩
  · obtain ⟨b, e1, e2, r⟩ := R.ow i x e
    exact ⟨b, e1, e2, r.mono k fun o _ h => by rw [upd_ne (ne e1)]; exact h⟩
  · obtain ⟨h1, h2, o, h3, h4⟩ := R.own i b e
    exact ⟨h1, h2, o, by rw [upd_ne (ne e)]; exact h3, h4⟩
  · by_cases z : b = a
    · subst z; exact ⟨_, upd_same, trivial⟩
    · obtain ⟨o, h3, h4⟩ := R.p0 b e
      exact ⟨o, by rw [upd_ne z]; exact h3, h4⟩
  · rw [upd_ne (by rintro rfl; rw [h0] at h; cases h)]
    exact R.k0 b o h n nt
  · by_cases z : b = a
    · subst z; exact ⟨_, upd_same⟩
    · rw [upd_ne z]; exact R.d0 b o h
  · obtain ⟨b, dx, vs, e1, e2, r⟩ := R.st.at_ j o e
    exact ⟨b, dx, vs, e1, by rw [upd_ne (nm e2 trivial)]; exact e2, r.mono k⟩
end
theorem wipe_wipe {σ : L2.St} {vs : List Nat} : L2.wipe (L2.wipe σ vs) vs = L2.wipe σ vs := by
  have : ∀ (us : List Nat), (∀ u ∈ us, u ∈ vs) → L2.wipe (L2.wipe σ us) vs = L2.wipe σ vs := fun us => by
    induction us with
    | nil => intro _; rfl
    | cons u us ih =>
      intro h
      show L2.wipe ((L2.wipe σ us).set u none) vs = _
      rw [wipe_set (h u List.mem_cons_self)]
      exact ih fun w hw => h w (List.mem_cons_of_mem _ hw)
  exact this vs fun _ h => h
/-- a comprehension's turn -/
def turnC (vs : List Nat) (t : Tg) (c e : E) (x : D) (s : State) : R State (Option D) := match asg t (.sh x) ⟨wipeR vs s.r, s.S⟩ with
  | .ok _ s2 => (evT c s2).bind fun k s3 => if k = true then (ev e s3).bind fun v s4 => (match sto v with | some y => .ok (some y) ⟨wipeR vs s4.r, s4.S⟩ | none => .bad) else .ok none ⟨wipeR vs s3.r, s3.S⟩
  | _ => .bad
theorem ev_com (vs : List Nat) (t : Tg) (it c e : E) (s : State) : ev (.com vs t it c e) s = (evI it s).bind fun xs s1 => if fits xs.length = true then
    (match comL (turnC vs t c e) xs ⟨wipeR vs s1.r, s1.S⟩ with | .ok ys s2 => .ok (.fr (.lst ys)) s2 | _ => .bad) else .bad := by
  have : comT vs t (fun s => ev c s) (fun s => ev e s) = turnC vs t c e := by
    funext x s
    unfold turnC comT
    cases asg t (.sh x) ⟨wipeR vs s.r, s.S⟩ with
    | bad => rfl
    | exc y s1 => rfl
    | ok u s2 =>
      dsimp only
      unfold evT
      cases ev c s2 with
      | bad => rfl
      | exc y s3 => rfl
      | ok v s3 =>
        unfold R.dat R.bind
        dsimp only
        cases v.dat with
        | none => rfl
        | some k =>
          cases k <;> first | rfl | skip
          rename_i b
          cases b <;> rfl
  unfold ev
  first | (rw [this]; done) | (rw [this]; rfl)
abbrev W0 : L2.WX := fun _ _ _ _ => False
theorem comL_cons {f : D → State → R State (Option D)} {x : D} {xs : List D} {s sF : State} {ys : List D} (h : comL f (x :: xs) s = .ok ys sF) : ∃ o s1 zs, f x s = .ok o s1 ∧ comL f xs s1 = .ok zs sF ∧ ys = (match o with | some y => y :: zs | none => zs) := by
  unfold comL at h
  cases e : f x s with
  | bad => rw [e] at h; cases h
  | exc y s1 => rw [e] at h; cases h
  | ok o s1 =>
    rw [e] at h
    dsimp only at h
    cases e2 : comL f xs s1 with
    | bad => rw [e2] at h; cases h
    | exc y s2 => rw [e2] at h; cases h
    | ok zs s2 => rw [e2] at h; cases h; exact ⟨o, s1, zs, rfl, e2, rfl⟩
section
variable {q : Bs} {X : Cx} {W : L2.WX} {sc : Scope} {N : List Str}
theorem snd_com (C : CO q X W sc N) {vs : List Nat} {t : Tg} {it c e : E} {tg eit eel : Expr} {ifs : List Expr} {scope : Scope} {pos : Pos} {own : List (Str × Nat)} (ho : own.map (·.2) = vs) (ht : tgIn t vs = true) (hi : PI X tg eit (tIc X.K q W it)) (ok : BlkOk X.N X.env.scope scope own)
    (hs : notSet eit = true)
    (hg : ∀ (s : Shared) (H : Hp) (Cc : Addr) (cl : List (Str × Addr)) (fp : List Addr), PG (X.blk s H scope (compEnvC scope cl Cc X.env) fp) tg (gT X.K t))
    (hc : ∀ (s : Shared) (H : Hp) (Cc : Addr) (cl : List (Str × Addr)) (fp : List Addr), PTs (X.blk s H scope (compEnvC scope cl Cc X.env) fp) ifs (tT X.K q W0 c))
    (he : ∀ (s : Shared) (H : Hp) (Cc : Addr) (cl : List (Str × Addr)) (fp : List Addr), PE (X.blk s H scope (compEnvC scope cl Cc X.env) fp) eel (tE X.K q W0 e)) :
    (PE X (.ListComp eel [⟨tg, eit, ifs, 0⟩] scope pos) (tE X.K q W (.com vs t it c e))) ∧
    (∀ {i : Nat} {y : Str} {py spos : Pos}, X.N[i]? = some y → X.env.scope.names.lookup y = some .local → swapsWith (.ListComp eel [⟨tg, eit, ifs, 0⟩] scope pos) (some (.Name y py)) spos.line X.env = pure true →
      PS X (.Assign [.Name y py] (.ListComp eel [⟨tg, eit, ifs, 0⟩] scope pos) spos) (tAsg (tE X.K q W (.com vs t it c e)) (gName i))) := by
  have hN : X.N.Nodup := by rw [C.hN]; exact C.nd
  have key : ∀ σ H Q, tE X.K q W (.com vs t it c e) σ H Q → tLc (tIc X.K q W it) (gT X.K t) (tT X.K q W0 c) (tE X.K q W0 e) (own.map (·.2)) σ H Q := by
    intro σ H Q ⟨p, g, s, R, k⟩
    rw [ho]
    rw [ev_com] at k
    refine ⟨p, g, s, R, Post.mono (Post.bind k) fun xs g1 s1 H1 _ R1 t1 k J hJ D hD => ?_⟩
    have k := k t1
    split at k
    rotate_left
    · exact k.elim
    rename_i hf
    have hf := fits_iff.mp hf
    cases ec : comL (turnC vs t c e) xs ⟨wipeR vs s1.r, s1.S⟩ with
    | bad => rw [ec] at k; exact k.elim
    | exc y s2 => rw [ec] at k; exact k.elim
    | ok ys sF =>
      rw [ec] at k
      have hn : ¬ PP (FX X.K q p) g1 D := R1.rd2.np hD
      have h0 := R1.h0 hD
      refine ⟨fun i m Hc => m = xs.length - i ∧ i ≤ xs.length ∧ ∃ g2 s2 acc zs rest, RS (FX X.K q (p.add D)) g2 s2 (L2.wipe σ vs) Hc ∧ Hc D = some (.lst acc) ∧ RpA X.K Hc (PP (FX X.K q (p.add D)) g2) acc zs ∧ acc.length ≤ i ∧
        comL (turnC vs t c e) (xs.drop i) s2 = .ok rest sF ∧ zs ++ rest = ys ∧ (∃ r S, s2 = ⟨wipeR vs r, S⟩) ∧ StE g1 H1 g2 Hc, ⟨xs.length, by simp, Nat.zero_le _, g1, _, [], [], ys, (R1.wipe vs).addP hD, upd_same, .nil, Nat.le_refl _, ec, rfl, ⟨_, _, rfl⟩, StE.refl.alloc hD⟩, ?_⟩
      rintro i m Hc ⟨rfl, hi, g2, s2, acc, zs, rest, R2, d2, r2, hl, e2, hz, hw, t2⟩
      have kj : Kp (PP (FX X.K q p) g1) g1.m H1 (PP (FX X.K q (p.add D)) g2) Hc :=
        ⟨R1.ld, R1.ins, fun b o h _ n nt => t2.keep b o h n nt, fun b o h n z => (pp_add.mp z).elim (fun z => n (t2.pp z)) fun z => by rw [z, hD] at h; cases h⟩
      obtain ⟨j1, j2⟩ := hJ i _ Hc kj t2.keep
      by_cases hlt : i < xs.length
      · rw [List.drop_eq_getElem_cons hlt] at e2
        obtain ⟨o, s5, zs', f1, f2, f3⟩ := comL_cons e2
        obtain ⟨go, yl⟩ := j1 xs[i] (List.getElem?_eq_getElem hlt)
        refine .inr ⟨go, fun H' => ∃ g2 s2 acc zs rest, RS (FX X.K q (p.add D)) g2 s2 (L2.wipe σ vs) H' ∧ H' D = some (.lst acc) ∧ RpA X.K H' (PP (FX X.K q (p.add D)) g2) acc zs ∧ acc.length ≤ i + 1 ∧
          comL (turnC vs t c e) (xs.drop (i + 1)) s2 = .ok rest sF ∧ zs ++ rest = ys ∧ (∃ r S, s2 = ⟨wipeR vs r, S⟩) ∧ StE g1 H1 g2 H', fun H' h => ⟨xs.length - (i + 1), by omega, rfl, hlt, h⟩, fun v H' y => ?_⟩
        obtain ⟨gr, rv⟩ := ItY.to (F := FX X.K q p) (F' := FX X.K q (p.add D)) (g := g1) (g2 := g2) rfl kj R2.rd2 (yl v H' y)
        have R3 := (R2.grow gr.same).kill vs
        have t3 : StE g1 H1 g2 H' := t2.grow gr.same
        unfold turnC at f1
        cases ea : asg t (.sh xs[i]) ⟨wipeR vs s2.r, s2.S⟩ with
        | bad => rw [ea] at f1; cases f1
        | exc y s6 => rw [ea] at f1; cases f1
        | ok u s6 =>
          rw [ea] at f1
          dsimp only at f1
          refine asg_sh R3 rv ea fun g6 σ6 R6 u6 w6 => ⟨(w6 vs ht).trans wipe_wipe, ?_⟩
          have t6 : StE g1 H1 g6 H' := t3.trans u6
          refine ⟨p.add D, g6, s6, R6, ?_⟩
          cases et : evT c s6 with
          | bad => rw [et] at f1; cases f1
          | exc y s7 => rw [et] at f1; cases f1
          | ok b s7 =>
            rw [et] at f1
            intro g7 H7 R7 t7
            have d7 : H7 D = some (.lst acc) := t7.keep D _ (gr.same D _ d2) (notIns R6.ins (gr.same D _ d2) (fun z => z)) (fun z => z)
            have r7 : RpA X.K H7 (PP (FX X.K q (p.add D)) g7) acc zs := (r2.mono (R2.kpE ((StE.refl (g := g2) (H := Hc)).grow gr.same))).mono (by
              refine ⟨(R2.grow gr.same).ld, (R2.grow gr.same).ins, fun b o h _ n => ?_, fun b o h n z => ?_⟩
              · have t67 : StE g2 H' g7 H7 := by
                  refine StE.trans ?_ t7
                  exact u6
                exact t67.keep b o h n
              · exact n (u6.pp (t7.pp z)))
            cases b with
            | false =>
              cases f1
              refine L2.iteF ⟨g7, _, acc, zs, zs', ?_, d7, r7, by omega, f2, by rw [← hz]; simp [f3], ⟨_, _, rfl⟩, t6.trans t7⟩
              have := R7.wipe vs
              rw [w6 vs ht, wipe_wipe] at this
              exact this
            | true =>
              have f1 : ((ev e s7).bind fun v s4 => (match sto v with | some y => MI.R.ok (some y) ⟨wipeR vs s4.r, s4.S⟩ | none => MI.R.bad)) = MI.R.ok o s5 := f1
              refine L2.iteT ⟨p.add D, g7, s7, R7, ?_⟩
              cases ee : ev e s7 with
              | bad => rw [ee] at f1; cases f1
              | exc y s8 => rw [ee] at f1; cases f1
              | ok w s8 =>
                rw [ee] at f1
                have f1 : (match sto w with | some y => MI.R.ok (some y) ⟨wipeR vs s8.r, s8.S⟩ | none => MI.R.bad) = MI.R.ok o s5 := f1
                intro g8 H8 R8 t8 z hz8
                cases es : sto w with
                | none => rw [es] at f1; cases f1
                | some y =>
                  rw [es] at f1
                  cases f1
                  have d8 : H8 D = some (.lst acc) := t8.keep D _ d7 (notIns R7.ins d7 (fun z => z)) (fun z => z)
                  have r8 := r7.mono (R7.kpE t8)
                  have ry := hz8.rp es
                  have ku := kp_upd R8 (a := D) (.inl (.inr rfl)) (o := .lst (acc ++ [z]))
                  refine ⟨acc, d8, by omega, g8, _, acc ++ [z], zs ++ [y], zs', ?_, upd_same, (r8.app (.cons ry .nil)).mono ku, by simp; omega, f2, by rw [← hz, f3]; simp, ⟨_, _, rfl⟩, ?_⟩
                  · have := (R8.updP (a := D) (.inr rfl) h0 (xs := acc ++ [z])).wipe vs
                    rw [w6 vs ht, wipe_wipe] at this
                    exact this
                  · have tt := (t6.trans t7).trans t8
                    exact ⟨fun b o h n nt => by rw [upd_ne (by rintro rfl; rw [hD] at h; cases h)]; exact tt.keep b o h n nt, fun c n t => tab_upd d8 (.inl trivial) (tt.tb c n t), fun b o h => by
                      obtain ⟨o', h'⟩ := tt.dom b o h
                      exact ⟨o', by rw [upd_ne (by rintro rfl; rw [hD] at h; cases h)]; exact h'⟩, tt.sub, tt.pre⟩
      · have : i = xs.length := by omega
        subst this
        refine .inl ⟨j2 (Nat.le_refl _), ?_⟩
        rw [List.drop_length] at e2
        unfold comL at e2
        cases e2
        obtain ⟨r, S, rfl⟩ := hw
        have Rr := R2.remP.unwipe
        rw [List.append_nil] at hz
        subst hz
        refine k g2 Hc Rr t2 t2 _ ⟨D, rfl, t1.free hD, fun z => hn (t2.pp z), acc, d2, r2.anti fun b => pp_add.mpr⟩
  refine ⟨PE.imp (pe_lc C.calm hN hi ok hg hc he (folded' hs)) key, fun {i y py spos} h1 h2 h3 => ?_⟩
  refine PS.imp (ps_setLc C.calm hN h1 h2 h3 hi ok hg hc he (folded' hs)) fun D σ H k => key σ H _ k
end
end MI

namespace MI
open PySem PySem.Spec PyProof.Rows L2 HT
theorem item_fwd {M : Program} {w : World} {A : Around} {E : Value → Shared → Prop} {s : Shared} {t sl : Addr} {items : Array Value} {u : Value} {Q : Value → Shared → Prop} (ht : IsTup s.heap t items) (hs : s.heap.IsSliceOf sl .none .none u) (pu : IsPart u (some 1))
    (h : Q (.ref t) s) : wpAny (model M w) A (getItem (.ref t) (.ref sl)) Q E s := by
  obtain ⟨os, hos, hcs, hds⟩ := id hs
  have hTs : s.TypeIs (.ref sl) "slice" := ⟨os, hos, hcs⟩
  unfold getItem
  try with_reducible refine wpAny_holding ?_
  first | refine wpAny_bind (wpAny_pure ?_) | skip
  refine wpAny_bind (wpAny_sequenceKey ht.typeIs (by decide) ?_)
  refine wpAny_bind (wpAny_callSpecial?_slot (name := Str.ofString "__getitem__") ht.typeIs PyProof.Rows.slot_tuple_getitem
    (wpAny_call_entry PyProof.Rows.slot_tuple_getitem ht.typeIs entry_tuple_getitem ?_ (args_tuple_getitem _ _)))
  show wpAny _ _ (Builtin.Tuple.tupleItemsOf (.ref t) >>= _) _ _ s
  refine wpAny_bind (tupleItemsOf_ ht ?_)
  refine wpAny_bind (wpAny_typeOf hTs ?_)
  rw [if_pos (by decide)]
  have app : ∀ {R : Int × Int × Nat → Shared → Prop} {A' : Around} {E' : Value → Shared → Prop}, R (0, 1, items.size) s → wpAny (model M w) A' (Builtin.Slice.sliceApplied (.ref sl) (pure (items.size : Int))) R E' s := fun {R A' E'} hR => by
    unfold Builtin.Slice.sliceApplied Builtin.Slice.sliceFields
    refine wpAny_bind (wpAny_bind (wpAny_field hos hds (x := .none) rfl (wpAny_bind (wpAny_field hos hds (x := .none) rfl (wpAny_bind (wpAny_field hos hds (x := u) rfl (wpAny_pure ?_)))))))
    refine wpAny_bind (slicePart_ pu ?_)
    show wpAny _ _ (if ((1 : Int) == 0) = true then _ else _) _ _ s
    rw [if_neg (by decide)]
    refine wpAny_bind (slicePart_none (wpAny_bind (slicePart_none (wpAny_bind (wpAny_pure ?_)))))
    show wpAny _ _ (pure ((0 : Int), (1 : Int), Builtin.Slice.slicePlaces 0 (items.size : Int) 1)) _ _ s
    have e : Builtin.Slice.slicePlaces 0 (items.size : Int) 1 = items.size := places_gen 0 items.size
    rw [e]
    exact wpAny_pure hR
  refine wpAny_bind (app ?_)
  show wpAny _ _ (if ((0 : Int) == 0 && (1 : Int) == 1 && items.size == items.size) = true then _ else _) _ _ s
  rw [if_pos (by simp)]
  refine wpAny_bind ?_
  show wpAny _ _ (typeOf (.ref t) >>= fun T => pure (T == .type "tuple")) _ _ s
  refine wpAny_bind (wpAny_typeOf ht.typeIs (wpAny_pure ?_))
  first
    | rw [if_pos (by decide)]
    | simp only [beq_self_eq_true, if_true]
  first
    | exact wpAny_bind (wpAny_rule (wpAny_pure ⟨_, rfl, wpAny_pure h⟩))
    | exact wpAny_bind (wpAny_rule (wpAny_bind (wpAny_pure (wpAny_pure ⟨_, rfl, wpAny_pure h⟩))))
/-- a tuple's x[::t], t = 1 or -1 -/
def tStp (K : PySem.W.Frag) (te tt : TE) : TE := fun σ H Q => te σ H fun x H1 => ∃ a, x = .ref a ∧ tPart tt σ H1 fun o H2 => ∃ i xs, o = some i ∧ SqT K H2 a xs ∧ ((i = 1 ∧ Q (.ref a) H2) ∨ (i = -1 ∧ ∀ p, H2 p = none → Q (.ref p) (upd H2 p (.tup xs.reverse))))
theorem pe_stp {X : Cx} {e et : Expr} {te tt : TE} {p2 pos : Pos} (he : PE X e te) (ht : PE X et tt) : PE X (.Subscript e (.Slice none none (some et) p2) pos) (tStp X.K te tt) := by
  refine ⟨fun pins s σ H Q I h => ?_⟩
  refine Subscript_ (thn (he.run pins s σ H _ I h) fun v s1 ⟨x, H1, I1, r1, q1⟩ => ?_)
  obtain ⟨a, ex, q1⟩ := q1
  subst ex
  cases r1
  have hst : PO X (some et) (tPart tt) := po_some ht
  refine wpAny_Slice (thn (po_none.run pins s1 σ H1 (fun o H2 => o = none ∧ H2 = H1) I1 ⟨rfl, rfl⟩) fun vl s2 ⟨l, H2, I2, pl, el, e2⟩ => ?_)
  subst el e2
  refine thn (po_none.run pins s2 σ H2 (fun o H3 => o = none ∧ H3 = H2) I2 ⟨rfl, rfl⟩) fun vu s3 ⟨u, H3, I3, pu, eu, e3⟩ => ?_
  subst eu e3
  refine thn (hst.run pins s3 σ H3 _ I3 q1) fun vs s4 ⟨o, H4, I4, ps, i, xs, eo, hx, q⟩ => ?_
  subst eo
  have I5 : Inv X pins σ H4 { s4 with heap := s4.heap.push { cls := .type "slice", data := .fields #[vl, vu, vs] } } := I4.kept (t' := s4.toks) fun b ob q => Heap.get?_push_of_some _ q
  show wpAny (model X.prog X.w) X.A (subscriptTail e (.Slice none none (some et) p2) (.ref a) (.ref s4.heap.objs.size)) (EP X pins σ Q) X.xe { s4 with heap := s4.heap.push { cls := .type "slice", data := .fields #[vl, vu, vs] } }
  obtain ⟨its, r, ht, hz⟩ := I5.tuple hx
  have hlen := r.length
  cases pl
  cases pu
  refine tail_any (ops := [.ref a, .ref s4.heap.objs.size]) ht.typeIs (PyProof.Rows.slot_tuple_getitem.lookup) ?_ (by with_unfolding_all rfl)
  rcases q with ⟨rfl, q⟩ | ⟨rfl, q⟩
  · exact item_fwd ht (Heap.IsSliceOf.new _ _ _ vs) ps ⟨.ref a, H4, I5, rfl, q⟩
  · refine item_rev ht (Heap.IsSliceOf.new _ _ _ vs) ps ?_ (by rw [List.size_toArray]; omega)
    refine ⟨.ref _, _, I5.laid (t' := s4.toks) (o := .tup xs.reverse) (fun b ob q => Heap.get?_push_of_some _ q) (Nat.le_refl _) ?_, rfl, q _ (I5.hok.fresh (Nat.le_refl _))⟩
    exact ⟨by rw [List.length_reverse]; exact hz, _, r.reverse, IsTup.new _ _⟩
theorem getI_rp {K : PySem.W.Frag} {H : Hp} {P : Addr → Prop} {n : Int} {z : V} {zd : D} (hz : Rp K H P z zd) : ∀ {kvs : List (L2.Key × V)} {ks : List Int} {ds : List D}, kvs.map (·.1) = ks.map Sum.inl → RpA K H P (kvs.map (·.2)) ds → Rp K H P ((valV kvs (.inl n)).getD z) ((getI n ks ds).getD zd)
  | [], ks, ds, e, r => by
    cases ks with
    | nil => cases r; exact hz
    | cons k ks => cases e
  | p :: kvs, ks, ds, e, r => by
    cases ks with
    | nil => cases e
    | cons k ks =>
      rw [List.map_cons, List.map_cons] at e
      injection e with e1 e2
      cases r with
      | cons h hs =>
        unfold getI
        by_cases c : k = n
        · rw [if_pos c, valV_pos (by rw [e1, c])]; exact h
        · rw [if_neg c, valV_neg (by rw [e1]; exact fun q => c (by injection q))]; exact getI_rp hz e2 hs
section
variable {q : Bs} {X : Cx} {W : L2.WX} {sc : Scope} {N : List Str}
theorem snd_dnwi {e : Expr} (h : chkE q N sc .dnwi e = true) : PE X e (tE X.K q W .dnwi) := by
  cases e <;> first | exact Bool.noConfusion (show false = true from h) | skip
  rename_i ks vs pos
  cases ks <;> first | exact Bool.noConfusion (show false = true from h) | skip
  cases vs <;> first | exact Bool.noConfusion (show false = true from h) | skip
  refine PE.imp pe_dnewK fun σ H Q ⟨p, g, s, R, k⟩ b hb => ?_
  unfold ev at k
  exact k g _ (R.alloc hb) (StE.refl.alloc hb) _ ⟨b, rfl, hb, R.rd2.np hb, [], upd_same, rfl, .nil⟩
theorem snd_stp {a b : E} {ea eb : Expr} {p2 pos : Pos} (ha : PE X ea (tE X.K q W a)) (hb : PE X eb (tE X.K q W b)) : PE X (.Subscript ea (.Slice none none (some eb) p2) pos) (tE X.K q W (.stp a b)) := by
  refine PE.imp (pe_stp ha hb) fun σ H Q ⟨p, g, s, R, k⟩ => ⟨p, g, s, R, ?_⟩
  unfold ev at k
  refine Post.mono (Post.dat k) fun va g1 s1 H1 _ R1 t1 k v hv => ?_
  obtain ⟨x, ex, k⟩ := k t1
  cases x <;> first | exact k.elim | skip
  rename_i xs
  obtain ⟨c, us, rfl, _, _⟩ := (hv.vw ex).tup
  refine ⟨c, rfl, p, g1, s1, R1, Post.mono (Post.dat k) fun vb g2 s2 H2 _ R2 t2 k u hu => ?_⟩
  obtain ⟨y, ey, k⟩ := k t2
  cases y <;> first | exact k.elim | skip
  rename_i i
  cases (hu.vw ey).int
  obtain ⟨c', us', e', h1, r1⟩ := ((hv.mono R1 t2).vw ex).tup
  cases e'
  dsimp only at k
  split at k
  · next c1 => exact ⟨i, rfl, i, us', rfl, h1, .inl ⟨c1, k g2 H2 R2 .refl .refl t2 _ (.tup h1 r1)⟩⟩
  · split at k
    · next c1 => exact ⟨i, rfl, i, us', rfl, h1, .inr ⟨c1, fun b hb => k g2 _ (R2.alloc hb) (StE.refl.alloc hb) (StE.refl.alloc hb) (t2.alloc hb) _ (.tup (.of upd_same) ((r1.rev.mono (R2.rd2.kpa (o := .tup us'.reverse) hb)).anti fun _ => .inl))⟩⟩
    · exact k.elim
theorem snd_dgt (C : CO q X W sc N) {a b c : E} {y mm : Str} {p ap cp : Pos} {ek ee : Expr} (hm : mm = "get") (hl : (ap.endLine == cp.line) = true) (s1 : notStar ek = true) (s2 : notStar ee = true) (ha : PE X (.Name y p) (tE X.K q W a)) (hb : PE X ek (tE X.K q W b)) (hc : PE X ee (tE X.K q W c)) :
    PE X (.Call (.Attribute (.Name y p) mm ap) [ek, ee] [] cp) (tE X.K q W (.dgt a b c)) := by
  subst hm
  have sE := starEach_cons (es := [ee]) (env := X.env) s1
  have sF := starEach_cons (es := []) (env := X.env) s2
  refine PE.imp (pe_dget2 (by have := C.u65; omega) ha hb hc ⟨by rfl, by rw [sE, sF]; rfl, hl, by rw [sE, sF]; rfl⟩) fun σ H Q ⟨p, g, s, R, k⟩ => ⟨p, g, s, R, ?_⟩
  unfold ev at k
  refine Post.mono (Post.dat k) fun va g1 s1 H1 _ R1 t1 k v hv => ?_
  obtain ⟨x, ex, k⟩ := k t1
  cases x <;> first | exact k.elim | skip
  rename_i ks ds
  obtain ⟨d, kvs, rfl, h1, _, _⟩ := (hv.vw ex).dci
  refine ⟨d, rfl, .inl ⟨kvs, .inl h1⟩, p, g1, s1, R1, Post.mono (Post.dat k) fun vb g2 s2 H2 _ R2 t2 k u hu => ?_⟩
  obtain ⟨y, ey, k⟩ := k t2
  refine ⟨p, g2, s2, R2, Post.mono (Post.dat k) fun vc g3 s3 H3 _ R3 t3 k w hw => ?_⟩
  obtain ⟨z, ez, k⟩ := k t3
  obtain ⟨n, rfl⟩ : ∃ n, y = .int n := by cases y <;> first | exact ⟨_, rfl⟩ | exact k.elim
  cases (hu.vw ey).int
  obtain ⟨d', kvs', e', h2, h3, h4⟩ := (((hv.mono R1 t2).mono R2 t3).vw ex).dci
  cases e'
  dsimp only at k
  split at k
  · next hf =>
    exact ⟨_, .k (k := .inl n) h2, k g3 H3 R3 .refl .refl t3 (t2.trans t3) _ (getI_rp ((hw.vw ez).flat hf) h3 h4)⟩
  · exact k.elim
end
end MI

namespace MQ
open PySem PySem.Spec PyProof.Rows PySem.W PySem.Calls
section
variable {prog : Program} {w : World} {K : Type} [DecidableEq K] {knd : HeapKind prog w K} {A : Around} {E : Value → Shared → Prop} {s : Shared}
/-- two dicts with the same pairs -/
theorem samePairsH {nm : String} {a b : Addr} {ka kb : List (K × Addr × Value)} {Q : Bool → Shared → Prop} (ha : (a == sysModules) = false) (hb : (b == sysModules) = false) (hu : knd.room A)
    (da : s.heap.DictOfH knd a ka) (db : s.heap.DictOfH knd b kb) (hl : ka.length = kb.length) (hits : ∀ x ∈ ka, ∃ (j : Nat) (p : Addr × Value), kb[j]? = some (x.1, p) ∧ SeqAt.EqP prog w A s x.2.2 p.2 true) (h : Q true s) :
    wpAny (model prog w) A (Builtin.Dict.samePairs nm a b) Q E s := by
  obtain ⟨oa, es, ep, hoa, _, hda, hea, hia, hna⟩ := da
  obtain ⟨ob, es', ep', hob, _, hdb, heb, hib, hnb⟩ := db
  have hla : ka.length = es.size := (size_of_entries hea).symm
  have hlb : kb.length = es'.size := (size_of_entries heb).symm
  have hsz : es.size = es'.size := by omega
  unfold Builtin.Dict.samePairs Builtin.Dict.showsAll
  rw [if_neg (show ¬ (a == sysModules) = true by rw [ha]; exact Bool.false_ne_true), if_neg (show ¬ (b == sysModules) = true by rw [hb]; exact Bool.false_ne_true)]
  refine wpAny_bind (wpAny_pure (wpAny_bind (wpAny_pure ?_)))
  refine wpAny_bind (wpAny_dictEntries hoa hda ?_)
  dsimp only
  refine wpAny_bind (wpAny_dictEntries hob hdb ?_)
  rw [if_neg (by rw [hsz]; simp)]
  refine wpAny_bind (wpAny_dictEpoch hoa hda ?_)
  refine wpAny_bind ?_
  rw [Std.Legacy.Range.forIn_eq_forIn_range']
  simp only [Std.Legacy.Range.size, Nat.sub_zero, Nat.add_sub_cancel, Nat.div_one]
  refine wpAny_forIn_list _
    (fun rest q s' => s' = s ∧ q = (none, ()) ∧ ∃ i, rest = List.range' i (es.size - i) ∧ i ≤ es.size)
    _ ?_ ?_ _ _ ⟨rfl, rfl, 0, by simp, Nat.zero_le _⟩
  · rintro x rest q s' ⟨rfl, rfl, i, hr, hi⟩
    have hlt : i < es.size := by
      rcases Nat.lt_or_ge i es.size with h | h
      · exact h
      · rw [Nat.sub_eq_zero_of_le h] at hr; simp at hr
    obtain ⟨rfl, hrest⟩ : x = i ∧ rest = List.range' (i + 1) (es.size - (i + 1)) := by
      have e : es.size - i = (es.size - (i + 1)) + 1 := by omega
      rw [e, List.range'_succ] at hr
      injection hr with h1 h2
      exact ⟨h1, h2⟩
    refine wpAny_bind (wpAny_dictEntries hoa hda ?_)
    rw [Array.getElem?_eq_getElem hlt]
    have hlt' : x < ka.length := by rw [hla]; exact hlt
    have ee : es[x] = entryOfKey knd ka[x] := by
      have := entry_at hea x
      rw [Array.getElem?_eq_getElem hlt, List.getElem?_eq_getElem hlt'] at this
      exact Option.some.inj this
    obtain ⟨j, p, hj, he⟩ := hits ka[x] (List.getElem_mem hlt')
    show wpAny _ _ (holding [es[x].key, es[x].val] _ >>= _) _ _ _
    rw [ee]
    refine wpAny_bind (wpAny_holding (wpAny_bind (wpAny_dictFind_heap hu (hia ka[x] (List.getElem_mem hlt')) hob hdb heb hib hnb (fun no => absurd hj (no j p)) fun j' p' hj' => ?_)))
    have ep : p' = p := by
      have h1 : ka[x].1 = (kb.map (·.1))[j']?.getD ka[x].1 := by rw [List.getElem?_map, hj']; rfl
      have q1 := List.getElem?_eq_some_iff.mp hj'
      have q2 := List.getElem?_eq_some_iff.mp hj
      have e1 : (kb.map (·.1))[j']? = some ka[x].1 := by rw [List.getElem?_map, hj']; rfl
      have e2 : (kb.map (·.1))[j]? = some ka[x].1 := by rw [List.getElem?_map, hj]; rfl
      have := (List.getElem?_inj (by rw [List.length_map]; exact q1.1) hnb).mp (e1.trans e2.symm)
      subst this
      rw [hj] at hj'
      injection hj' with z
      injection z with _ z
      exact z.symm
    subst ep
    refine wpAny_bind (wpAny_dictEntries hob hdb ?_)
    have ej : es'[j']? = some (entryOfKey knd (ka[x].1, p')) := by rw [entry_at heb, hj']; rfl
    rw [ej]
    refine wpAny_holding (he _ _ ?_)
    show wpAny _ _ (if (!true) = true then _ else _) _ _ _
    rw [if_neg (by decide)]
    refine wpAny_bind (wpAny_dictEpoch hoa hda ?_)
    rw [if_neg (by simp)]
    exact wpAny_pure ⟨rfl, rfl, x + 1, hrest, hlt⟩
  · rintro q s' ⟨rfl, rfl, i, hr, hi⟩
    exact wpAny_pure h
theorem eqH {a b : Addr} {ka kb : List (K × Addr × Value)} {Q : Value → Shared → Prop} (ha : (a == sysModules) = false) (hb : (b == sysModules) = false) (hr : knd.room A.in1)
    (da : s.heap.DictOfH knd a ka) (db : s.heap.DictOfH knd b kb) (hu : A.units < cLine) (hl : ka.length = kb.length) (hits : ∀ x ∈ ka, ∃ (j : Nat) (p : Addr × Value), kb[j]? = some (x.1, p) ∧ SeqAt.EqP prog w A.in1 s x.2.2 p.2 true) (h : Q (.bool true) s) :
    wpAny (model prog w) A (compareOp .Eq (.ref a) (.ref b)) Q E s := by
  refine wpAny_richCompare_same_room (op := .Eq) da.typeIs db.typeIs PySem.F.slot_dict_eq (wpAny_call_entry PySem.F.slot_dict_eq da.typeIs PySem.F.entry_dict_eq ?_ (PySem.F.args_dict_eq_2 _ _)) hu
  show wpAny _ _ (Builtin.Dict.dictSlotArgs "__eq__" ⟨[.ref a, .ref b], []⟩ >>= _) _ _ s
  refine wpAny_bind ?_
  unfold Builtin.Dict.dictSlotArgs
  refine wpAny_bind (wpAny_notOrdered_dict da.typeIs ?_)
  show wpAny _ _ (pure (Value.ref a, Value.ref b)) _ _ s
  refine wpAny_pure ?_
  refine wpAny_bind (wpAny_isInstance (T := "dict") db.typeIs PySem.F.sub_dict_dict ?_)
  simp only [Bool.not_true, Bool.false_eq_true, if_false]
  refine wpAny_bind (wpAny_pure (wpAny_bind (wpAny_pure ?_)))
  refine wpAny_bind (samePairsH ha hb hr da db hl hits ?_)
  refine wpAny_pure ⟨_, rfl, ?_, ?_⟩
  · exact fun x => nomatch x
  · exact h
theorem neH {a b : Addr} {ka kb : List (K × Addr × Value)} {Q : Value → Shared → Prop} (ha : (a == sysModules) = false) (hb : (b == sysModules) = false) (hr : knd.room A.in1)
    (da : s.heap.DictOfH knd a ka) (db : s.heap.DictOfH knd b kb) (hu : A.units < cLine) (hl : ka.length = kb.length) (hits : ∀ x ∈ ka, ∃ (j : Nat) (p : Addr × Value), kb[j]? = some (x.1, p) ∧ SeqAt.EqP prog w A.in1 s x.2.2 p.2 true) (h : Q (.bool false) s) :
    wpAny (model prog w) A (compareOp .NotEq (.ref a) (.ref b)) Q E s := by
  refine wpAny_richCompare_same_room (op := .NotEq) da.typeIs db.typeIs PySem.F.slot_dict_ne (wpAny_call_entry PySem.F.slot_dict_ne da.typeIs PySem.F.entry_dict_ne ?_ (PySem.F.args_dict_ne_2 _ _)) hu
  show wpAny _ _ (Builtin.Dict.dictSlotArgs "__ne__" ⟨[.ref a, .ref b], []⟩ >>= _) _ _ s
  refine wpAny_bind ?_
  unfold Builtin.Dict.dictSlotArgs
  refine wpAny_bind (wpAny_notOrdered_dict da.typeIs ?_)
  show wpAny _ _ (pure (Value.ref a, Value.ref b)) _ _ s
  refine wpAny_pure ?_
  refine wpAny_bind (wpAny_isInstance (T := "dict") db.typeIs PySem.F.sub_dict_dict ?_)
  simp only [Bool.not_true, Bool.false_eq_true, if_false]
  refine wpAny_bind (wpAny_pure (wpAny_bind (wpAny_pure ?_)))
  refine wpAny_bind (samePairsH ha hb hr da db hl hits ?_)
  refine wpAny_pure ⟨_, rfl, ?_, ?_⟩
  · exact fun x => nomatch x
  · exact h
/-- keys that come once: put one by one -/
theorem storedAll_new : ∀ (ps acc : List (K × Addr × Value)), ((acc ++ ps).map (·.1)).Nodup → storedAllH acc ps = acc ++ ps
  | [], acc, _ => by unfold storedAllH; simp
  | p :: ps, acc, nd => by
    have e : storedH acc p.1 p.2.1 p.2.2 = acc ++ [p] := by
      have n : p.1 ∉ acc.map (·.1) := fun h => by
        rw [List.map_append, List.nodup_append] at nd
        exact nd.2.2 _ h _ (by simp) rfl
      refine storedH_new ?_ _ _
      unfold atKey
      have : acc.find? (fun x => decide (x.1 = p.1)) = none := by
        rw [List.find?_eq_none]
        intro x hx k
        exact n (List.mem_map.mpr ⟨x, hx, of_decide_eq_true k⟩)
      rw [this]; rfl
    show storedAllH (storedH acc p.1 p.2.1 p.2.2) ps = _
    rw [e, storedAll_new ps (acc ++ [p]) (by simpa using nd)]
    simp
end
/-- pairs of a dict: the pair's address, the key's, the key, the value -/
structure Pr where
  p : Addr
  b : Addr
  k : List L2.Key
  v : L2.V
open L2
def PrOk (K : PySem.W.Frag) (H : Hp) (t : Pr) : Prop := SqT K H t.p [.ref t.b, t.v] ∧ SqT K H t.b (t.k.map kV)
section
variable {X : Cx} {pins : List (Addr × Obj)} {σ : L2.St} {H : Hp} {s : Shared}
abbrev kTM (X : Cx) : HeapKind X.prog X.w (List L2.Key) := tupleKind (mixKind X.prog X.w)
theorem key_is {b : Addr} {key : List L2.Key} (I : Inv X pins σ H s) (h : SqT X.K H b (key.map kV)) : (kTM X).is s.heap key b := by
  obtain ⟨its, r, ⟨o, h1, h2, n, h3⟩, _⟩ := I.tuple h
  exact ⟨o, its.toArray, n, h1, h2, h3, by simpa using items_are r⟩
theorem vals_refs {L : List Pr} {us : List Value} (r : Vals (L.map fun t => V.ref t.p) us) : us = L.map fun t => Value.ref t.p := by
  have e : (L.map fun t => V.ref t.p) = (L.map (·.p)).map V.ref := by rw [List.map_map]; rfl
  rw [e] at r
  rw [refs_at r, List.map_map]; rfl
/-- the pairs as raw ones -/
theorem raw_pairs (I : Inv X pins σ H s) : ∀ {L : List Pr}, (∀ t ∈ L, PrOk X.K H t) → ∃ vs : List Value, Vals (L.map (·.v)) vs ∧ ∀ (j : Nat) (t : Pr) (v : Value), L[j]? = some t → vs[j]? = some v → PairAt s.heap t.p (.ref t.b) v
  | [], _ => ⟨[], .nil, fun j t v h => by simp at h⟩
  | t :: L, h => by
    obtain ⟨vs, r, k⟩ := raw_pairs I fun u hu => h u (List.mem_cons_of_mem _ hu)
    obtain ⟨its, rv, ht, _⟩ := I.tuple (h t (List.mem_cons_self ..)).1
    obtain ⟨u, y, ei, ru, ry⟩ := vals2 rv
    subst ei
    cases ru
    refine ⟨y :: vs, .cons ry r, fun j u v h1 h2 => ?_⟩
    cases j with
    | zero =>
      rw [List.getElem?_cons_zero] at h1 h2
      cases h1; cases h2
      exact .inl ht
    | succ j =>
      rw [List.getElem?_cons_succ] at h1 h2
      exact k j u v h1 h2
def trip (L : List Pr) (vs : List Value) : List (List L2.Key × Addr × Value) := List.zipWith (fun t v => (t.k, t.b, v)) L vs
theorem trip_key : ∀ {L : List Pr} {vs : List Value}, L.length = vs.length → (trip L vs).map (·.1) = L.map (·.k)
  | [], [], _ => rfl
  | [], _ :: _, h => by cases h
  | _ :: _, [], h => by cases h
  | t :: L, v :: vs, h => by
    show t.k :: (trip L vs).map (·.1) = t.k :: L.map (·.k)
    rw [trip_key (by simpa using h)]
theorem trip_len {L : List Pr} {vs : List Value} (h : L.length = vs.length) : (trip L vs).length = L.length := by
  unfold trip; rw [List.length_zipWith]; omega
theorem trip_get {L : List Pr} {vs : List Value} {j : Nat} {x : List L2.Key × Addr × Value} (h : (trip L vs)[j]? = some x) : ∃ t v, L[j]? = some t ∧ vs[j]? = some v ∧ x = (t.k, t.b, v) := by
  unfold trip at h
  rw [List.getElem?_zipWith] at h
  cases h1 : L[j]? with
  | none => rw [h1] at h; cases h
  | some t =>
    cases h2 : vs[j]? with
    | none => rw [h1, h2] at h; cases h
    | some v =>
      rw [h1, h2] at h
      exact ⟨t, v, rfl, rfl, (Option.some.inj h).symm⟩
def adr (L : List Pr) (j : Nat) : Addr := (L[j]?.map (·.p)).getD 0
/-- dict(xs) of pairs whose keys are tuples, each once: a dict of its own -/
theorem mkDict {a : Addr} {L : List Pr} {Q : Value → Shared → Prop} {E : Value → Shared → Prop} (hcalm : X.calm = true) (hu : X.A.units + 64 < cLine) (I : Inv X pins σ H s) (hq : SqL X.K H a (L.map fun t => V.ref t.p)) (hp : ∀ t ∈ L, PrOk X.K H t) (nd : (L.map (·.k)).Nodup)
    (h : ∀ vs h' tk, Vals (L.map (·.v)) vs → h'.DictOfH (kTM X) s.heap.objs.size (trip L vs) → (∀ b o, s.heap.get? b = some o → h'.get? b = some o) → Q (.ref s.heap.objs.size) { s with heap := h', toks := tk }) :
    wpAny (model X.prog X.w) X.A (call (.type "dict") [.ref a]) Q E s := by
  obtain ⟨its, rv, pl, hz⟩ := I.list hq
  have ei := vals_refs rv
  subst ei
  rw [List.length_map] at hz
  obtain ⟨vs, r, k⟩ := raw_pairs I hp
  have hl : L.length = vs.length := by have := r.length; rw [List.length_map] at this; exact this
  have tk_ := trip_key hl
  have hpairs : ∀ j k' v', (((trip L vs).map fun x => ((Value.ref x.2.1 : Value), x.2.2)))[j]? = some (k', v') → (L.map fun t => Value.ref t.p).toArray[j]? = some (Value.ref (adr L j)) ∧ PairAt s.heap (adr L j) k' v' := by
    intro j k' v' e
    rw [List.getElem?_map] at e
    cases h1 : (trip L vs)[j]? with
    | none => rw [h1] at e; cases e
    | some x =>
      obtain ⟨t, v, h2, h3, rfl⟩ := trip_get h1
      rw [h1] at e
      cases e
      unfold adr
      rw [h2]
      exact ⟨by simp [h2], k j t v h2 h3⟩
  have P := PairArg.list (prog := X.prog) (w := X.w) a (L.map fun t => Value.ref t.p).toArray (adr L) ((trip L vs).map fun x => ((Value.ref x.2.1 : Value), x.2.2))
  obtain ⟨o, n, ho, hc, hd, hdat⟩ := pl
  have ok : PlainSeq "list" s.heap a (L.map fun t => Value.ref t.p).toArray ∧ PairItems s.heap (L.map fun t => Value.ref t.p).toArray (adr L) ((trip L vs).map fun x => ((Value.ref x.2.1 : Value), x.2.2)) :=
    ⟨⟨o, n, ho, hc, hd, hdat⟩, by rw [List.size_toArray, List.length_map, List.length_map, trip_len hl], hpairs⟩
  have nd' : ((trip L vs).map (·.1)).Nodup := by rw [tk_]; exact nd
  have st := storedAll_new (trip L vs) [] (by rw [List.nil_append]; exact nd')
  rw [List.nil_append] at st
  refine call_dict_pairsH (knd := kTM X) (ps := trip L vs) P (I.ok.hd hcalm) ?_ ok ⟨by rw [List.length_map], fun i key v e => ?_⟩ ?_ ?_ fun h' tk hd' hk => ?_
  · show X.A.units + 1 + 1 < cLine
    omega
  · have e : ((trip L vs).map fun x => ((Value.ref x.2.1 : Value), x.2.2))[i]? = some (key, v) := e
    rw [List.getElem?_map] at e
    cases h1 : (trip L vs)[i]? with
    | none => rw [h1] at e; cases e
    | some x =>
      rw [h1] at e
      cases e
      exact ⟨x.1, x.2.1, rfl, rfl⟩
  · intro h' hk x hx
    obtain ⟨j, hj⟩ := List.mem_iff_getElem?.mp hx
    obtain ⟨t, v, h2, h3, rfl⟩ := trip_get hj
    obtain ⟨o, items, n, g1, g2, g3, g4⟩ := key_is I (hp t (List.mem_of_getElem? h2)).2
    exact ⟨o, items, n, hk t.b o (Nat.ne_of_lt (Heap.lt_size g1)) (by simp) g1, g2, g3, g4⟩
  · rw [List.length_map, trip_len hl]; exact hz
  · rw [st] at hd'
    exact h vs h' tk r hd' (fun b o e => hk b o (by simp) e)
/-- the pairs of both have the same keys and values -/
structure Same (K : PySem.W.Frag) (H : Hp) (L M : List Pr) : Prop where
  l : ∀ t ∈ L, SqT K H t.b (t.k.map kV)
  m : ∀ t ∈ M, PrOk K H t
  nm : (M.map (·.k)).Nodup
  len : L.length = M.length
  eq : ∀ t ∈ L, ∃ u ∈ M, u.k = t.k ∧ flatV t.v = true ∧ flatV u.v = true ∧ eqV t.v u.v = true
def tDq (K : PySem.W.Frag) (b : Bool) (ta tc : TE) : TE := fun σ H Q => ta σ H fun x H1 => ∃ (a : Addr) (L : List Pr), x = V.ref a ∧ SqL K H1 a (L.map fun t => V.ref t.p) ∧ (∀ t ∈ L, PrOk K H1 t) ∧ (L.map (·.k)).Nodup ∧
  tc σ H1 fun y H2 => ∃ (c : Addr) (M : List Pr), y = V.ref c ∧ SqL K H2 c (M.map fun t => V.ref t.p) ∧ Same K H2 L M ∧ Q (.bl b) H2
def opQ (b : Bool) : CmpOp := if b = true then .Eq else .NotEq
theorem cmpQ {A : Around} {E : Value → Shared → Prop} {s : Shared} {a b : Addr} {K : Type} [DecidableEq K] {knd : HeapKind X.prog X.w K} {ka kb : List (K × Addr × Value)} {Q : Value → Shared → Prop} (z : Bool) (ha : (a == sysModules) = false) (hb : (b == sysModules) = false) (hr : knd.room A.in1)
    (da : s.heap.DictOfH knd a ka) (db : s.heap.DictOfH knd b kb) (hu : A.units < cLine) (hl : ka.length = kb.length) (hits : ∀ x ∈ ka, ∃ (j : Nat) (p : Addr × Value), kb[j]? = some (x.1, p) ∧ SeqAt.EqP X.prog X.w A.in1 s x.2.2 p.2 true) (h : Q (.bool z) s) :
    wpAny (model X.prog X.w) A (compareOp (opQ z) (.ref a) (.ref b)) Q E s := by
  cases z
  · exact neH ha hb hr da db hu hl hits h
  · exact eqH ha hb hr da db hu hl hits h
theorem vals_get : ∀ {xs : List V} {us : List Value} (_ : Vals xs us) {j : Nat} {x : V} {u : Value}, xs[j]? = some x → us[j]? = some u → RelV x u
  | _, _, .nil, j, x, u, h, _ => by simp at h
  | _, _, .cons r rs, j, x, u, h1, h2 => by
    cases j with
    | zero =>
      rw [List.getElem?_cons_zero] at h1 h2
      cases h1; cases h2
      exact r
    | succ j =>
      rw [List.getElem?_cons_succ] at h1 h2
      exact vals_get rs h1 h2
/-- dict(a) == dict(c) of the same pairs -/
theorem pc_dq {ea ec : Expr} {x1 x2 : Str} {p1 p2 pos1 pos2 : Pos} {ta tc : TE} (z : Bool) (hcalm : X.calm = true) (hu : X.A.units + 64 < cLine)
    (g1 : Gl X x1) (m1 : X.mg x1 = none) (e1 : x1 = "dict") (g2 : Gl X x2) (m2 : X.mg x2 = none) (e2 : x2 = "dict") (ha : PE X ea ta) (hc : PE X ec tc)
    (s1 : starEach [ea] X.env = (false, eval ea X.env) :: starEach [] X.env) (s2 : starEach [ec] X.env = (false, eval ec X.env) :: starEach [] X.env) :
    PC X (opQ z) (.Call (.Name x1 p1) [ea] [] pos1) (.Call (.Name x2 p2) [ec] [] pos2) (tDq X.K z ta tc) := by
  subst e1 e2
  refine ⟨fun pins s σ H Q I h => ?_⟩
  refine wpAny_Call_Name_kw (ld_blt I g1 m1 (by rfl) ?_ (by decide) (by decide))
  refine PyProof.Rows.callWith_type1 (thn ((pa_cons ha pa_nil s1).run pos1 pins s σ H (fun vs H1 => match vs with
    | [x] => ∃ (a : Addr) (L : List Pr), x = V.ref a ∧ SqL X.K H1 a (L.map fun t => V.ref t.p) ∧ (∀ t ∈ L, PrOk X.K H1 t) ∧ (L.map (·.k)).Nodup ∧ tc σ H1 fun y H2 => ∃ (c : Addr) (M : List Pr), y = V.ref c ∧ SqL X.K H2 c (M.map fun t => V.ref t.p) ∧ Same X.K H2 L M ∧ Q (.bl z) H2
    | _ => False) I h) fun us s1 ⟨vs, H1, I1, r1, q1⟩ => ?_) s1 (by rfl)
  obtain ⟨x, rfl⟩ : ∃ x, vs = [x] := by
    cases vs with
    | nil => exact q1.elim
    | cons x vs =>
      cases vs with
      | nil => exact ⟨x, rfl⟩
      | cons y vs => exact q1.elim
  obtain ⟨a, L, ex, hq, hp, nd, q1⟩ := q1
  subst ex
  obtain ⟨u, eu, ru⟩ := vals1 r1
  subst eu
  cases ru
  refine mkDict hcalm hu I1 hq hp nd fun vs h' tk rvs hd hk => ?_
  have I2 : Inv X pins σ H1 { s1 with heap := h', toks := tk } := I1.kept (t' := tk) hk
  obtain ⟨ob, es, ep, g3, g4, g5, _⟩ := id hd
  have hfresh : H1 s1.heap.objs.size = none := I1.hok.fresh (Nat.le_refl _)
  have I2p : Inv X ((s1.heap.objs.size, ob) :: pins) σ H1 { s1 with heap := h', toks := tk } := I2.pins_of fun p hp => by
    rcases List.mem_cons.mp hp with rfl | hp
    · exact ⟨g3, hfresh, Nat.ne_of_gt I1.lt, I1.nofs (Nat.le_refl _), fun v e => by rw [g5] at e; cases e⟩
    · exact I2.pin p (List.mem_append_right _ hp)
  refine wpAny_Call_Name_kw (ld_blt I2 g2 m2 (by rfl) ?_ (by decide) (by decide))
  refine PyProof.Rows.callWith_type1 (thn ((pa_cons hc pa_nil s2).run pos2 _ _ σ H1 (fun vs H2 => match vs with
    | [y] => ∃ (c : Addr) (M : List Pr), y = V.ref c ∧ SqL X.K H2 c (M.map fun t => V.ref t.p) ∧ Same X.K H2 L M ∧ Q (.bl z) H2
    | _ => False) I2p q1) fun us2 s3 ⟨vs2, H2, I3, r3, q2⟩ => ?_) s2 (by rfl)
  obtain ⟨y, rfl⟩ : ∃ y, vs2 = [y] := by
    cases vs2 with
    | nil => exact q2.elim
    | cons x vs =>
      cases vs with
      | nil => exact ⟨x, rfl⟩
      | cons y vs => exact q2.elim
  obtain ⟨c, M, ey, hq2, sm, q⟩ := q2
  subst ey
  obtain ⟨u2, eu2, ru2⟩ := vals1 r3
  subst eu2
  cases ru2
  refine mkDict hcalm hu I3 hq2 sm.m sm.nm fun ws h'' tk2 rws hd2 hk2 => ?_
  have I4 : Inv X ((s1.heap.objs.size, ob) :: pins) σ H2 { s3 with heap := h'', toks := tk2 } := I3.kept (t' := tk2) hk2
  have pin1 := (I3.pin (s1.heap.objs.size, ob) (List.mem_append_right _ (List.mem_cons_self ..))).1
  have hl1 : L.length = vs.length := by have := rvs.length; rw [List.length_map] at this; exact this
  have hl2 : M.length = ws.length := by have := rws.length; rw [List.length_map] at this; exact this
  have hdA : h''.DictOfH (kTM X) s1.heap.objs.size (trip L vs) := hd.at' (fun o e => by
    rw [g3] at e; cases e
    exact hk2 _ _ pin1) fun y hy => by
    obtain ⟨j, hj⟩ := List.mem_iff_getElem?.mp hy
    obtain ⟨t, v, h2, h3, rfl⟩ := trip_get hj
    exact key_is I4 (sm.l t (List.mem_of_getElem? h2))
  have I5 : Inv X pins σ H2 { s3 with heap := h'', toks := tk2 } := I4.pins_of fun p hp => I4.pin p (List.mem_append_right _ (List.mem_cons_of_mem _ hp))
  have n1 : (s1.heap.objs.size == sysModules) = false := beq_eq_false_iff_ne.mpr (Nat.ne_of_gt I1.big)
  have n2 : (s3.heap.objs.size == sysModules) = false := beq_eq_false_iff_ne.mpr (Nat.ne_of_gt I3.big)
  refine cmpQ z n1 n2 (show X.A.units + 1 < cLine by omega) hdA hd2 (by omega) (by rw [trip_len hl1, trip_len hl2]; exact sm.len) (fun x hx => ?_) ⟨.bl z, H2, I5, rfl, q⟩
  obtain ⟨j, hj⟩ := List.mem_iff_getElem?.mp hx
  obtain ⟨t, v, h2, h3, rfl⟩ := trip_get hj
  obtain ⟨u, hu1, hu2, f1, f2, e⟩ := sm.eq t (List.mem_of_getElem? h2)
  obtain ⟨j', hj'⟩ := List.mem_iff_getElem?.mp hu1
  have lt := (List.getElem?_eq_some_iff.mp hj').1
  obtain ⟨wv, hw⟩ : ∃ wv, ws[j']? = some wv := ⟨ws[j'], List.getElem?_eq_getElem (by omega)⟩
  refine ⟨j', (u.b, wv), ?_, ?_⟩
  · unfold trip
    rw [List.getElem?_zipWith, hj', hw, ← hu2]
  · have rv : RelV t.v v := vals_get rvs (by rw [List.getElem?_map, h2]; rfl) h3
    have rw_ : RelV u.v wv := vals_get rws (by rw [List.getElem?_map, hj']; rfl) hw
    have := eqAt_V (A := X.A.in1) (s := { s3 with heap := h'', toks := tk2 }) rv rw_ f1 f2
    rw [e] at this
    exact this.eqP
end
end MQ
namespace MI
open PySem PySem.Spec PyProof.Rows L2 MQ
section
variable {K : PySem.W.Frag} {H : Hp} {P : Addr → Prop}
theorem kT_eqvs (a b : List L2.Key) : D.eqvs (a.map kD) (b.map kD) = decide (a = b) := by
  have := kT_eqv a b
  unfold kT at this
  rw [← this]
  simp only [D.eqv]
theorem prs_of : ∀ {xs : List D} {us : List V} {ps : List (List D × D)}, RpA K H P us xs → pairsD xs = some ps → ∃ L : List Pr, us = L.map (fun t => V.ref t.p) ∧ (∀ t ∈ L, PrOk K H t) ∧ ps.map (·.1) = L.map (fun t => t.k.map kD) ∧ L.length = ps.length ∧ ∀ (j : Nat) (t : Pr) (p : List D × D), L[j]? = some t → ps[j]? = some p → Rp K H P t.v p.2 ∧ flatD p.2 = true
  | [], _, ps, .nil, e => by cases e; exact ⟨[], rfl, (fun t h => by cases h), rfl, rfl, (fun j t p h => by simp at h)⟩
  | x :: xs, _, ps, .cons (v := u) (vs := us) h hs, e => by
    unfold pairsD at e
    cases ep : pairD x with
    | none => rw [ep] at e; cases e
    | some p =>
      cases eq : pairsD xs with
      | none => rw [ep, eq] at e; cases e
      | some qs =>
        rw [ep, eq] at e
        cases e
        obtain ⟨L, l1, l2, l3, l4, l5⟩ := prs_of hs eq
        unfold pairD at ep
        split at ep
        rotate_left
        · cases ep
        rename_i ks v
        split at ep
        rotate_left
        · cases ep
        rename_i hk
        cases ep
        rw [Bool.and_eq_true] at hk
        cases h with
        | tup h1 h2 =>
          rename_i a ws
          cases h2 with
          | cons r1 r2 =>
            rename_i w1 ws
            cases r2 with
            | cons r3 r4 =>
              cases r4
              rename_i w2
              cases r1 with
              | tup q1 q2 =>
                rename_i b vs'
                obtain ⟨key, e1, e2⟩ := RpA.keys q2 hk.1
                subst e1 e2
                refine ⟨⟨a, b, key, w2⟩ :: L, by rw [l1]; rfl, fun t ht => ?_, by rw [List.map_cons, List.map_cons, l3], by rw [List.length_cons, List.length_cons, l4], fun j t p h1' h2' => ?_⟩
                · rcases List.mem_cons.mp ht with rfl | ht
                  · exact ⟨h1, q1⟩
                  · exact l2 t ht
                · cases j with
                  | zero =>
                    rw [List.getElem?_cons_zero] at h1' h2'
                    cases h1'; cases h2'
                    exact ⟨r3, hk.2⟩
                  | succ j =>
                    rw [List.getElem?_cons_succ] at h1' h2'
                    exact l5 j t p h1' h2'
theorem nodupK_of : ∀ {ps : List (List D × D)} {L : List Pr}, ps.map (·.1) = L.map (fun t => t.k.map kD) → nodupK ps = true → (L.map (·.k)).Nodup
  | [], [], _, _ => by simp
  | [], _ :: _, e, _ => by cases e
  | _ :: _, [], e, _ => by cases e
  | p :: ps, t :: L, e, h => by
    rw [List.map_cons, List.map_cons] at e
    injection e with e1 e2
    unfold nodupK at h
    rw [Bool.and_eq_true, Bool.not_eq_true'] at h
    rw [List.map_cons, List.nodup_cons]
    refine ⟨fun hm => ?_, nodupK_of e2 h.2⟩
    obtain ⟨u, hu, ek⟩ := List.mem_map.mp hm
    have : u.k.map kD ∈ ps.map (·.1) := by rw [e2]; exact List.mem_map.mpr ⟨u, hu, rfl⟩
    obtain ⟨q, hq, eq⟩ := List.mem_map.mp this
    have := h.1
    rw [List.any_eq_false] at this
    refine this q hq ?_
    rw [eq, e1, kT_eqvs, decide_eq_true ek.symm]
theorem dqA_of {x : D} {ps : List (List D × D)} (h : dqA x = some ps) : ∃ xs, x = .lst xs ∧ pairsD xs = some ps ∧ nodupK ps = true := by
  unfold dqA at h
  split at h
  · rename_i xs
    cases e : pairsD xs with
    | none => rw [e] at h; cases h
    | some qs =>
      rw [e] at h
      change (if nodupK qs = true then some qs else none) = some ps at h
      split at h
      · cases h; exact ⟨xs, rfl, e, by assumption⟩
      · cases h
  · cases h
end
theorem same_of {K : PySem.W.Frag} {H1 H2 : Hp} {P1 P2 : Addr → Prop} {mm : List Addr} (kp : Kp P1 mm H1 P2 H2) {L M : List Pr} {ps qs : List (List D × D)} (l2 : ∀ t ∈ L, PrOk K H1 t) (n2 : ∀ t ∈ M, PrOk K H2 t) (l3 : ps.map (·.1) = L.map (fun t => t.k.map kD)) (n3 : qs.map (·.1) = M.map (fun t => t.k.map kD)) (l4 : L.length = ps.length) (n4 : M.length = qs.length)
    (l5 : ∀ (j : Nat) (t : Pr) (p : List D × D), L[j]? = some t → ps[j]? = some p → Rp K H1 P1 t.v p.2 ∧ flatD p.2 = true) (n5 : ∀ (j : Nat) (t : Pr) (p : List D × D), M[j]? = some t → qs[j]? = some p → Rp K H2 P2 t.v p.2 ∧ flatD p.2 = true) (h5 : nodupK qs = true) (hs : sameK ps qs = true) : Same K H2 L M := by
  unfold sameK at hs
  rw [Bool.and_eq_true, decide_eq_true_iff, List.all_eq_true] at hs
  refine ⟨fun t ht => kp.sqT (l2 t ht).2, n2, nodupK_of n3 h5, by omega, fun t ht => ?_⟩
  obtain ⟨j, hj⟩ := List.mem_iff_getElem?.mp ht
  have lt := (List.getElem?_eq_some_iff.mp hj).1
  obtain ⟨p, hp⟩ : ∃ p, ps[j]? = some p := ⟨ps[j], List.getElem?_eq_getElem (by omega)⟩
  have ha := hs.2 p (List.mem_of_getElem? hp)
  rw [List.any_eq_true] at ha
  obtain ⟨r, hr, e⟩ := ha
  rw [Bool.and_eq_true] at e
  obtain ⟨j', hj'⟩ := List.mem_iff_getElem?.mp hr
  have lt' := (List.getElem?_eq_some_iff.mp hj').1
  obtain ⟨u, hu⟩ : ∃ u, M[j']? = some u := ⟨M[j'], List.getElem?_eq_getElem (by omega)⟩
  obtain ⟨r1, f1⟩ := l5 j t p hj hp
  obtain ⟨r2, f2⟩ := n5 j' u r hu hj'
  have r1 := r1.mono kp
  have k1 : p.1 = t.k.map kD := by
    have : (ps.map (·.1))[j]? = (L.map (fun t => t.k.map kD))[j]? := by rw [l3]
    rw [List.getElem?_map, List.getElem?_map, hp, hj] at this
    exact Option.some.inj this
  have k2 : r.1 = u.k.map kD := by
    have : (qs.map (·.1))[j']? = (M.map (fun t => t.k.map kD))[j']? := by rw [n3]
    rw [List.getElem?_map, List.getElem?_map, hj', hu] at this
    exact Option.some.inj this
  refine ⟨u, List.mem_of_getElem? hu, ?_, flat_v r1 f1, flat_v r2 f2, by rw [eqv_flat r1 r2 f1 f2]; exact e.2⟩
  have := e.1
  rw [k1, k2, kT_eqvs] at this
  exact of_decide_eq_true this
section
variable {q : Bs} {X : Cx} {W : L2.WX} {sc : Scope} {N : List Str}
theorem snd_dqe (C : CO q X W sc N) {z : Bool} {a c : E} {x y : Str} {p1 p2 pos1 pos2 pos : Pos} {ea ec : Expr} (g1 : glo sc x = true) (g2 : glo sc y = true) (e1 : x = "dict") (e2 : y = "dict") (m1 : x ∈ q.blts) (m2 : y ∈ q.blts) (s1 : notStar ea = true) (s2 : notStar ec = true)
    (ha : PE X ea (tE X.K q W a)) (hc : PE X ec (tE X.K q W c)) :
    PE X (.Compare (.Call (.Name x p1) [ea] [] pos1) [if z = true then CmpOp.Eq else CmpOp.NotEq] [.Call (.Name y p2) [ec] [] pos2] pos) (tE X.K q W (.dqe z a c)) ∧ PT X (.Compare (.Call (.Name x p1) [ea] [] pos1) [if z = true then CmpOp.Eq else CmpOp.NotEq] [.Call (.Name y p2) [ec] [] pos2] pos) (tT X.K q W (.dqe z a c)) := by
  have base := pc_dq (pos1 := pos1) (pos2 := pos2) (p1 := p1) (p2 := p2) z C.calm (by have := C.u65; omega) (C.glo g1).1 (C.blt _ m1) e1 (C.glo g2).1 (C.blt _ m2) e2 ha hc (starEach_cons s1) (starEach_cons s2)
  have nb : behindInMarks (opQ z) (.Call (.Name y p2) [ec] [] pos2) = false := nobehind _ (by cases z <;> decide) (by cases z <;> decide)
  refine ⟨PE.imp (pe_cmp base nb) fun σ H Q ⟨p, g, s, R, k⟩ => ⟨p, g, s, R, ?_⟩, PT.imp (pt_cmp base nb) fun σ H Q ⟨p, g, s, R, k⟩ => ⟨p, g, s, R, ?_⟩⟩
  · unfold ev at k
    refine Post.mono (Post.dat k) fun va g1 s1 H1 _ R1 t1 k v hv => ?_
    obtain ⟨x, ex, k⟩ := k t1
    split at k
    rotate_left
    · exact k.elim
    rename_i ps hps
    obtain ⟨xs, rfl, h1, h2⟩ := dqA_of hps
    obtain ⟨b, us, rfl, h3, r1⟩ := (hv.vw ex).lst
    obtain ⟨L, l1, l2, l3, l4, l5⟩ := prs_of r1 h1
    subst l1
    refine ⟨b, L, rfl, .of h3, l2, nodupK_of l3 h2, p, g1, s1, R1, Post.mono (Post.dat k) fun vb g2 s2 H2 _ R2 t2 k u hu => ?_⟩
    obtain ⟨y, ey, k⟩ := k t2
    split at k
    rotate_left
    · exact k.elim
    rename_i qs hqs
    obtain ⟨ys, rfl, h4, h5⟩ := dqA_of hqs
    obtain ⟨b', us', rfl, h6, r2⟩ := (hu.vw ey).lst
    obtain ⟨M, n1, n2, n3, n4, n5⟩ := prs_of r2 h4
    subst n1
    split at k
    rotate_left
    · exact k.elim
    rename_i hs
    exact ⟨b', M, rfl, .of h6, same_of (R1.kpE t2) l2 n2 l3 n3 l4 n4 l5 n5 h5 hs, k g2 H2 R2 .refl .refl t2 _ (.bl z)⟩
  · unfold evT at k
    have k := Post.dat k
    unfold ev at k
    refine Post.mono (Post.dat k) fun va g1 s1 H1 _ R1 t1 k v hv => ?_
    obtain ⟨x, ex, k⟩ := k t1
    split at k
    rotate_left
    · exact k.elim
    rename_i ps hps
    obtain ⟨xs, rfl, h1, h2⟩ := dqA_of hps
    obtain ⟨b, us, rfl, h3, r1⟩ := (hv.vw ex).lst
    obtain ⟨L, l1, l2, l3, l4, l5⟩ := prs_of r1 h1
    subst l1
    refine ⟨b, L, rfl, .of h3, l2, nodupK_of l3 h2, p, g1, s1, R1, Post.mono (Post.dat k) fun vb g2 s2 H2 _ R2 t2 k u hu => ?_⟩
    obtain ⟨y, ey, k⟩ := k t2
    split at k
    rotate_left
    · exact k.elim
    rename_i qs hqs
    obtain ⟨ys, rfl, h4, h5⟩ := dqA_of hqs
    obtain ⟨b', us', rfl, h6, r2⟩ := (hu.vw ey).lst
    obtain ⟨M, n1, n2, n3, n4, n5⟩ := prs_of r2 h4
    subst n1
    split at k
    rotate_left
    · exact k.elim
    rename_i hs
    refine ⟨b', M, rfl, .of h6, same_of (R1.kpE t2) l2 n2 l3 n3 l4 n4 l5 n5 h5 hs, z, rfl, ?_⟩
    obtain ⟨w, ez, k⟩ := k g2 H2 R2 .refl .refl t2 (t1.trans t2)
    cases ez
    exact k g2 H2 R2 .refl .refl
end
end MI

namespace MI
open PySem PySem.Spec PyProof.Rows L2 MQ
/-! dict(pairs) kept in a name, asked with in -/
section
variable {P : Program} {w : World} {H H' : Hp} {h : Heap} {a : Addr} {xs : List (List L2.Key × Addr × Value)}
theorem dcO_ok (d : Dc0 P w a xs h) : ObjOk P w H h a (DcO P w a xs) := by
  refine ⟨d, ?_, fun h1 h2 d1 k => ?_⟩
  · obtain ⟨o, _, _, e, _⟩ := d.at_
    exact ⟨o, e⟩
  · obtain ⟨o, es, ep, e1, e2, e3, e4⟩ := d1.at_
    exact ⟨d1.sys, ⟨o, es, ep, k o e1, e2, e3, e4⟩, d1.nd⟩
end
section
variable {X : Cx} {pins : List (Addr × Obj)} {σ : L2.St} {H : Hp} {s : Shared} {a : Addr} {xs : List (List L2.Key × Addr × Value)}
theorem dcO_dict (I : Inv X pins σ H s) (e : H a = some (DcO X.prog X.w a xs)) (hk : ∀ y ∈ xs, SqT X.K H y.2.1 (y.1.map kV)) : (a == sysModules) = false ∧ s.heap.DictOfH (kTMx X.prog X.w) a xs := by
  obtain ⟨d, _⟩ := (show ObjOk X.prog X.w H s.heap a (.ext (Dc0 X.prog X.w a xs)) from I.hok a _ e)
  obtain ⟨o, es, ep, e1, e2, e3, e4⟩ := d.at_
  exact ⟨d.sys, o, es, ep, e1, e2, e3, e4, fun y hy => key_at I (hk y hy), d.nd⟩
theorem trip_kb : ∀ {L : List Pr} {vs : List Value}, L.length = vs.length → (trip L vs).map (fun y => (y.1, y.2.1)) = L.map fun t => (t.k, t.b)
  | [], [], _ => rfl
  | [], _ :: _, e => nomatch e
  | _ :: _, [], e => nomatch e
  | t :: L, v :: vs, e => by
    have ih := trip_kb (L := L) (vs := vs) (by simpa using e)
    unfold trip at ih ⊢
    rw [List.zipWith_cons_cons, List.map_cons, List.map_cons, ih]
/-- dict(xs) -/
def tDmk (P : Program) (w : World) (K : PySem.W.Frag) (ta : TE) : TE := fun σ H Q => ta σ H fun x H1 => ∃ (c : Addr) (L : List Pr), x = V.ref c ∧ SqL K H1 c (L.map fun t => V.ref t.p) ∧ (∀ t ∈ L, PrOk K H1 t) ∧ (L.map (·.k)).Nodup ∧
  ∀ (a : Addr) (xs : List (List L2.Key × Addr × Value)), H1 a = none → xs.map (fun y => (y.1, y.2.1)) = L.map (fun t => (t.k, t.b)) → Q (.ref a) (upd H1 a (DcO P w a xs))
theorem pe_dmk {ea : Expr} {x1 : Str} {p1 pos1 : Pos} {ta : TE} (hcalm : X.calm = true) (hu : X.A.units + 64 < cLine)
    (g1 : Gl X x1) (m1 : X.mg x1 = none) (e1 : x1 = "dict") (ha : PE X ea ta) (s1 : starEach [ea] X.env = (false, eval ea X.env) :: starEach [] X.env) :
    PE X (.Call (.Name x1 p1) [ea] [] pos1) (tDmk X.prog X.w X.K ta) := by
  subst e1
  refine ⟨fun pins s σ H Q I h => ?_⟩
  refine wpAny_Call_Name_kw (ld_blt I g1 m1 (by rfl) ?_ (by decide) (by decide))
  refine PyProof.Rows.callWith_type1 (thn ((pa_cons ha pa_nil s1).run pos1 pins s σ H (fun vs H1 => match vs with
    | [x] => ∃ (c : Addr) (L : List Pr), x = V.ref c ∧ SqL X.K H1 c (L.map fun t => V.ref t.p) ∧ (∀ t ∈ L, PrOk X.K H1 t) ∧ (L.map (·.k)).Nodup ∧
      ∀ (a : Addr) (xs : List (List L2.Key × Addr × Value)), H1 a = none → xs.map (fun y => (y.1, y.2.1)) = L.map (fun t => (t.k, t.b)) → Q (.ref a) (upd H1 a (DcO X.prog X.w a xs))
    | _ => False) I h) fun us s1 ⟨vs, H1, I1, r1, q1⟩ => ?_) s1 (by rfl)
  obtain ⟨x, rfl⟩ : ∃ x, vs = [x] := by
    cases vs with
    | nil => exact q1.elim
    | cons x vs =>
      cases vs with
      | nil => exact ⟨x, rfl⟩
      | cons y vs => exact q1.elim
  obtain ⟨c, L, ex, hq, hp, nd, q1⟩ := q1
  subst ex
  obtain ⟨u, eu, ru⟩ := vals1 r1
  subst eu
  cases ru
  refine mkDict hcalm hu I1 hq hp nd fun vs h' tk rvs hd hk => ?_
  have hl1 : L.length = vs.length := by have := rvs.length; rw [List.length_map] at this; exact this
  have hfresh : H1 s1.heap.objs.size = none := I1.hok.fresh (Nat.le_refl _)
  have n1 : (s1.heap.objs.size == sysModules) = false := beq_eq_false_iff_ne.mpr (Nat.ne_of_gt I1.big)
  have d0 : Dc0 X.prog X.w s1.heap.objs.size (trip L vs) h' := by
    obtain ⟨o, es, ep, e1, e2, e3, e4, _, e6⟩ := hd
    exact ⟨n1, ⟨o, es, ep, e1, e2, e3, e4⟩, e6⟩
  have J := I1.laid (t' := tk) (o := DcO X.prog X.w s1.heap.objs.size (trip L vs)) hk (Nat.le_refl _) (dcO_ok d0)
  exact ⟨.ref s1.heap.objs.size, _, J, rfl, q1 _ _ hfresh (trip_kb hl1)⟩
/-- y in d, y not in d -/
def opN (b : Bool) : CmpOp := if b = true then .In else .NotIn
def tDin (P : Program) (w : World) (K : PySem.W.Frag) (z : Bool) (i : Nat) (tk : TE) : TE := fun σ H Q => tk σ H fun x H1 => ∃ (a b : Addr) (xs : List (List L2.Key × Addr × Value)) (vs : List V) (ls : List Lf), σ[i]? = some (some (.ref a)) ∧ x = V.ref b ∧ H1 a = some (DcO P w a xs) ∧
  (∀ y ∈ xs, SqT K H1 y.2.1 (y.1.map kV)) ∧ SqT K H1 b vs ∧ LfA vs ls ∧ Q (.bl ((xs.any fun y => decide (y.1.map lfK = ls)) == z)) H1
theorem pc_din {ek : Expr} {y : Str} {p1 : Pos} {i : Nat} {tk : TE} (z : Bool) (hu : X.A.units + 1 < cLine) (hk : PE X ek tk) (hn : PE X (.Name y p1) (tVar i)) : PC X (opN z) ek (.Name y p1) (tDin X.prog X.w X.K z i tk) := by
  refine ⟨fun pins s σ H Q I h => ?_⟩
  refine thn (hk.run pins s σ H _ I h) fun iv s1 ⟨x, H1, I1, ry, a, b, xs, vs, ls, q1, q2, q3, q4, q5, q6, q⟩ => thn (hn.run pins s1 σ H1 (fun v H2 => v = .ref a ∧ H2 = H1) I1 ⟨_, q1, rfl, rfl⟩) fun u s2 ⟨v, H2, I2, rx, e1, e2⟩ => ?_
  subst e1 e2 q2
  obtain rfl : u = Value.ref a := rx
  obtain rfl : iv = Value.ref b := ry
  obtain ⟨g1, g2⟩ := dcO_dict I2 q3 q4
  cases z
  · exact dq_notIn hu I2 g1 g2 q5 q6 (by simpa using q)
  · exact dq_in hu I2 g1 g2 q5 q6 (by simpa using q)
end
section
variable {q : Bs} {X : Cx} {W : L2.WX} {sc : Scope} {N : List Str}
theorem snd_din (C : CO q X W sc N) {z : Bool} {k : E} {i : Nat} {ek : Expr} {y : Str} {p1 pos : Pos} (hy : vis N sc i y = true) (hk : PE X ek (tE X.K q W k)) :
    PE X (.Compare ek [opN z] [.Name y p1] pos) (tE X.K q W (.din z k i)) ∧ PT X (.Compare ek [opN z] [.Name y p1] pos) (tT X.K q W (.din z k i)) := by
  obtain ⟨h1, h2, h3, h4⟩ := C.vis hy
  have base := pc_din (i := i) z (by have := C.u65; omega) hk (pe_var (pos := p1) h1 h2 h3 h4)
  have nb : behindInMarks (opN z) (.Name y p1) = false := by cases z <;> rfl
  have go : ∀ {p : Pv} {g g1 : G} {s1 : State} {σ : L2.St} {H1 Hs : Hp} {v : V} {a : EV} {x : D} {ks : List (List D)}, RS (FX X.K q p) g1 s1 σ H1 → EVR (FX X.K q p) g1 Hs H1 v a → a.dat = some x → s1.r[i]? = some (.d ks) → x.keyokN = true →
      ∃ (a b : Addr) (xs : List (List L2.Key × Addr × Value)) (vs : List V) (ls : List Lf), σ[i]? = some (some (.ref a)) ∧ v = V.ref b ∧ H1 a = some (DcO X.prog X.w a xs) ∧ (∀ y ∈ xs, SqT X.K H1 y.2.1 (y.1.map kV)) ∧ SqT X.K H1 b vs ∧ LfA vs ls ∧ (xs.any fun y => decide (y.1.map lfK = ls)) = memK x ks := by
    intro p g g1 s1 σ H1 Hs v a x ks R1 hv ex es ok
    obtain ⟨u, f1, c, xs, rfl, f2, f3, f4⟩ := R1.dc i ks es
    obtain ⟨b, vs, ds, ls, rfl, rfl, m1, m2, m3⟩ := (hv.vw ex).keyN ok
    refine ⟨c, b, xs, vs, ls, f1, rfl, ?_, f4, m1, m2, ?_⟩
    · have f2 : H1 c = some (DcO q.pr q.w c xs) := f2
      rw [C.pr, C.w] at f2
      exact f2
    · subst f3
      unfold memK
      rw [List.any_map]
      congr 1
      funext y
      show decide _ = D.eqvs (y.1.map kD) ds
      rw [lfs_eqv y.1 m3]
  refine ⟨PE.imp (pe_cmp base nb) fun σ H Q ⟨p, g, s, R, k⟩ => ⟨p, g, s, R, ?_⟩, PT.imp (pt_cmp base nb) fun σ H Q ⟨p, g, s, R, k⟩ => ⟨p, g, s, R, ?_⟩⟩
  · unfold ev at k
    refine Post.mono (Post.dat k) fun va g1 s1 H1 _ R1 t1 k v hv => ?_
    obtain ⟨x, ex, k⟩ := k t1
    split at k
    rotate_left
    · exact k.elim
    rename_i ks es
    split at k
    rotate_left
    · exact k.elim
    rename_i ok
    obtain ⟨a, b, xs, vs, ls, f1, f2, f3, f4, f5, f6, f7⟩ := go (g := g) R1 hv ex es ok
    exact ⟨a, b, xs, vs, ls, f1, f2, f3, f4, f5, f6, by rw [f7]; exact k g1 H1 R1 .refl .refl _ (.bl _)⟩
  · unfold evT at k
    have k := Post.dat k
    unfold ev at k
    refine Post.mono (Post.dat k) fun va g1 s1 H1 _ R1 t1 k v hv => ?_
    obtain ⟨x, ex, k⟩ := k t1
    split at k
    rotate_left
    · exact k.elim
    rename_i ks es
    split at k
    rotate_left
    · exact k.elim
    rename_i ok
    obtain ⟨a, b, xs, vs, ls, f1, f2, f3, f4, f5, f6, f7⟩ := go (g := g) R1 hv ex es ok
    refine ⟨a, b, xs, vs, ls, f1, f2, f3, f4, f5, f6, _, rfl, ?_⟩
    rw [f7]
    obtain ⟨w, ez, k⟩ := k g1 H1 R1 .refl .refl t1
    cases ez
    exact k g1 H1 R1 .refl .refl
end
end MI

namespace MI
open PySem L2

def plainT : Expr → Bool
  | .UnaryOp .Not _ _ => false | .BoolOp _ _ _ => false | .IfExp _ _ _ _ => false | .Compare _ _ _ _ => false | _ => true
theorem plain_he {e : Expr} {env : Env} (h : plainT e = true) : ∀ whole, isTrue e env whole = (do let v ← whole; standAt e.pos; holding [v] (truthy v)) := by
  cases e <;> first | (intro w; rfl) | (cases h; done) | skip
  rename_i o x pos
  cases o <;> first | (intro w; rfl) | cases h
section
variable {q : Bs} {X : Cx} {W : L2.WX} {sc : Scope} {N : List Str}
theorem CO.blk (C : CO q X W sc N) {s : Shared} {H : Hp} {scope : Scope} {cl : List (Str × Addr)} {Cc : Addr} {fp : List Addr} : CO q (X.blk s H scope (compEnvC scope cl Cc X.env) fp) W0 (relS scope sc) N :=
  ⟨by rw [← C.hsc]; rfl, C.hN, C.calm, C.nd, takes0, PassesOwn.never, C.room, C.k1, C.blt, C.pr, C.w, C.lam⟩
theorem PTs.imp {ifs : List Expr} {t t' : TT} (h : PTs X ifs t) (m : ∀ σ H Q, t' σ H Q → t σ H Q) : PTs X ifs t' := ⟨fun pins s σ H Q I k => h.run pins s σ H Q I (m σ H Q k)⟩
end
theorem isYes_eq {c : E} (h : isYes c = true) : c = .kb true := by
  cases c <;> first | exact (Bool.noConfusion (show false = true from h)) | skip
  rename_i b
  cases b <;> first | rfl | exact (Bool.noConfusion (show false = true from h))
structure Snd (q : Bs) (c : E) : Prop where
  e : ∀ {X : Cx} {W : L2.WX} {sc : Scope} {N : List Str} {ex : Expr}, CO q X W sc N → GoodE (gdX X.prog X.w X.K X.mg X.base q) c → chkE q N sc c ex = true → PE X ex (tE X.K q W c) ∧ PT X ex (tT X.K q W c)
  l : ∀ {X : Cx} {W : L2.WX} {sc : Scope} {N : List Str} {op : BoolOp} {es : List Expr} {pos : Pos}, CO q X W sc N → GoodE (gdX X.prog X.w X.K X.mg X.base q) c → chkL q N sc op c es = true → PE X (.BoolOp op es pos) (tE X.K q W c) ∧ PW X (.BoolOp op es pos) (tT X.K q W c)
  a : ∀ {X : Cx} {W : L2.WX} {sc : Scope} {N : List Str} {es : List Expr}, CO q X W sc N → GoodE (gdX X.prog X.w X.K X.mg X.base q) c → chkA q N sc c es = true → PA X es (tA X.K q W c) ∧ PA X es (tL X.K q W c)
  o : ∀ {X : Cx} {W : L2.WX} {sc : Scope} {N : List Str} {ex : Option Expr}, CO q X W sc N → GoodE (gdX X.prog X.w X.K X.mg X.base q) c → chkO q N sc c ex = true → PO X ex (tO X.K q W c)
  i : ∀ {X : Cx} {W : L2.WX} {sc : Scope} {N : List Str} {tg ex : Expr}, CO q X W sc N → GoodE (gdX X.prog X.w X.K X.mg X.base q) c → (isZip c = true → ∃ elts kk tpos, tg = .Tuple elts kk tpos) → chkI q N sc c ex = true → PI X tg ex (tI X.K q W c)
theorem no {p : Prop} (h : false = true) : p := Bool.noConfusion h
section
variable {q : Bs} {X : Cx} {W : L2.WX} {sc : Scope} {N : List Str}
theorem snd_comE (C : CO q X W sc N) {vs : List Nat} {t : Tg} {it c e : E} (hi : Snd q it) (hc : Snd q c) (he : Snd q e) {ex : Expr} (G : GoodE (gdX X.prog X.w X.K X.mg X.base q) (.com vs t it c e)) (h : chkE q N sc (.com vs t it c e) ex = true) :
    ∃ eel tg eit ifs scope pos, ex = .ListComp eel [⟨tg, eit, ifs, 0⟩] scope pos ∧ (PE X ex (tE X.K q W (.com vs t it c e))) ∧
    (∀ {i : Nat} {y : Str} {py spos : Pos}, X.N[i]? = some y → X.env.scope.names.lookup y = some .local → swapsWith ex (some (.Name y py)) spos.line X.env = pure true →
      PS X (.Assign [.Name y py] ex spos) (tAsg (tE X.K q W (.com vs t it c e)) (gName i))) := by
  unfold chkE at h
  split at h
  rotate_left
  · cases h
  rename_i eel tg eit ifs scope pos
  obtain ⟨h, k7⟩ := ba h
  obtain ⟨h, k6⟩ := ba h
  obtain ⟨h, k5⟩ := ba h
  obtain ⟨h, k4⟩ := ba h
  obtain ⟨h, k3⟩ := ba h
  obtain ⟨k1, k2⟩ := ba h
  obtain ⟨g1, g2, g3⟩ := G
  have ok : BlkOk X.N X.env.scope scope (vs.map fun i => (N.getD i "", i)) := by rw [C.hN, C.hsc]; exact blkOk_by k1
  have zz : isZip it = true → ∃ elts kk tpos, tg = .Tuple elts kk tpos := fun z => by
    cases t with
    | one i => simp [z] at k2
    | many is =>
      cases tg <;> first | (cases k3; done) | exact ⟨_, _, _, rfl⟩
  have hic : PI X tg eit (tIc X.K q W it) := by
    split at k5
    · next i => exact snd_itb C k5
    · exact PI.imp (hi.i C g1 zz k5) fun σ H R h => tIc_i _ _ _ h
  obtain ⟨r1, r2⟩ := snd_com C (own := vs.map fun i => (N.getD i "", i)) (scope := scope) (pos := pos) (c := c) (e := e) (eel := eel) (ifs := ifs) (by simp [List.map_map, Function.comp_def]) k4 hic ok (ba k2).1
    (fun s H Cc cl fp => snd_tgC (C.blk) (raw := scope) (fun x e => by show (scope.names.lookup x == some .cell) = true; rw [e]; rfl) k3)
    (fun s H Cc cl fp => by
      match ifs, k6 with
      | [], k6 =>
        have : c = .kb true := isYes_eq k6
        subst this
        exact PTs.imp pts_nil fun σ H Q ⟨p, g, s, R, k⟩ => k g H R .refl
      | [ec], k6 => exact pts_one (hc.e (C.blk) g2 k6).2
      | _ :: _ :: _, k6 => cases k6)
    (fun s H Cc cl fp => (he.e (C.blk) g3 k7).1)
  exact ⟨eel, tg, eit, ifs, scope, pos, rfl, r1, r2⟩
end
theorem sndAll (q : Bs) (c : E) : Snd q c := by
  induction c with
  | var i => exact ⟨fun C G h => ⟨snd_var C h, snd_test (snd_var C h) (plain_he (by rename_i ex; cases ex <;> first | rfl | exact no h))⟩, fun _ _ h => no h, fun _ _ h => no h, fun _ _ h => no h, fun _ _ _ h => no h⟩
  | bor i => exact ⟨fun C G h => ⟨snd_bor C h, snd_test (snd_bor C h) (plain_he (by rename_i ex; cases ex <;> first | rfl | exact no h))⟩, fun _ _ h => no h, fun _ _ h => no h, fun _ _ h => no h, fun _ _ _ h => no h⟩
  | kn => exact ⟨fun C G h => ⟨snd_const h trivial, snd_test (snd_const h trivial) (plain_he (by rename_i ex; cases ex <;> first | rfl | exact no h))⟩, fun _ _ h => no h, fun _ _ h => no h, fun _ _ h => no h, fun _ _ _ h => no h⟩
  | kb b => exact ⟨fun C G h => ⟨snd_const h trivial, snd_test (snd_const h trivial) (plain_he (by rename_i ex; cases ex <;> first | rfl | exact no h))⟩, fun _ _ h => no h, fun _ _ h => no h, fun _ _ h => no h, fun _ _ _ h => no h⟩
  | ki i => exact ⟨fun C G h => ⟨snd_const h trivial, snd_test (snd_const h trivial) (plain_he (by rename_i ex; cases ex <;> first | rfl | exact no h))⟩, fun _ _ h => no h, fun _ _ h => no h, fun _ _ h => no h, fun _ _ _ h => no h⟩
  | ks x => exact ⟨fun C G h => ⟨snd_const h trivial, snd_test (snd_const h trivial) (plain_he (by rename_i ex; cases ex <;> first | rfl | exact no h))⟩, fun _ _ h => no h, fun _ _ h => no h, fun _ _ h => no h, fun _ _ _ h => no h⟩
  | glo n d => exact ⟨fun C G h => ⟨snd_glo C h G, snd_test (snd_glo C h G) (plain_he (by rename_i ex; cases ex <;> first | rfl | exact no h))⟩, fun _ _ h => no h, fun _ _ h => no h, fun _ _ h => no h, fun _ _ _ h => no h⟩
  | bin o a b ia ib =>
    refine ⟨fun C G h => ?_, fun _ _ h => no h, fun _ _ h => no h, fun _ _ h => no h, fun _ _ _ h => no h⟩
    unfold chkE at h
    split at h <;> first | exact no h | skip
    obtain ⟨h, k2⟩ := ba h
    obtain ⟨k0, k1⟩ := ba h
    cases dec k0
    have r := snd_bin (X := _) (pos := ‹Pos›) (ia.e C G.1 k1).1 (ib.e C G.2 k2).1 (o := o)
    exact ⟨r, snd_test r (plain_he rfl)⟩
  | neg a ia =>
    refine ⟨fun C G h => ?_, fun _ _ h => no h, fun _ _ h => no h, fun _ _ h => no h, fun _ _ _ h => no h⟩
    unfold chkE at h
    split at h <;> first | exact no h | skip
    have r := snd_neg (pos := ‹Pos›) (ia.e C G h).1
    exact ⟨r, snd_test r (plain_he rfl)⟩
  | cmp o a b ia ib =>
    refine ⟨fun C G h => ?_, fun _ _ h => no h, fun _ _ h => no h, fun _ _ h => no h, fun _ _ _ h => no h⟩
    unfold chkE at h
    split at h <;> first | exact no h | skip
    obtain ⟨h, k2⟩ := ba h
    obtain ⟨h, k1⟩ := ba h
    obtain ⟨k0, kn⟩ := ba h
    cases dec k0
    exact snd_cmp C kn (ia.e C G.1 k1).1 (ib.e C G.2 k2).1
  | chn o p a b c ia ib ic =>
    refine ⟨fun C G h => ?_, fun _ _ h => no h, fun _ _ h => no h, fun _ _ h => no h, fun _ _ _ h => no h⟩
    unfold chkE at h
    split at h <;> first | exact no h | skip
    obtain ⟨h, k3⟩ := ba h
    obtain ⟨h, k2⟩ := ba h
    obtain ⟨h, k1⟩ := ba h
    obtain ⟨h, n2⟩ := ba h
    obtain ⟨h, n1⟩ := ba h
    obtain ⟨k0, k0'⟩ := ba h
    cases dec k0
    cases dec k0'
    exact snd_chn C n1 n2 (ia.e C G.1 k1).1 (ib.e C G.2.1 k2).1 (ic.e C G.2.2 k3).1
  | isn a ia =>
    refine ⟨fun C G h => ?_, fun _ _ h => no h, fun _ _ h => no h, fun _ _ h => no h, fun _ _ _ h => no h⟩
    unfold chkE at h
    split at h <;> first | exact no h | skip
    exact snd_isn (ia.e C G h).1
  | isnn a ia =>
    refine ⟨fun C G h => ?_, fun _ _ h => no h, fun _ _ h => no h, fun _ _ h => no h, fun _ _ _ h => no h⟩
    unfold chkE at h
    split at h <;> first | exact no h | skip
    exact snd_isnn (ia.e C G h).1
  | lend a ia =>
    refine ⟨fun C G h => ?_, fun _ _ h => no h, fun _ _ h => no h, fun _ _ h => no h, fun _ _ _ h => no h⟩
    unfold chkE at h
    obtain ⟨_, h⟩ := ba h
    exact snd_lend (ia.e C G h).1 (ia.e C G h).2
  | not a ia =>
    refine ⟨fun C G h => ?_, fun _ _ h => no h, fun _ _ h => no h, fun _ _ h => no h, fun _ _ _ h => no h⟩
    unfold chkE at h
    split at h <;> first | exact no h | skip
    exact snd_not (ia.e C G h).1 (ia.e C G h).2
  | one a ia =>
    refine ⟨fun _ _ h => no h, fun C G h => ?_, fun _ _ h => no h, fun C G h => ?_, fun _ _ _ h => no h⟩
    · unfold chkL at h
      split at h <;> first | exact no h | skip
      exact snd_one (ia.e C G h).1 (ia.e C G h).2
    · unfold chkO at h
      split at h <;> first | exact no h | skip
      exact snd_part (ia.e C G h).1
  | and a b ia ib =>
    refine ⟨fun C G h => ?_, fun C G h => ?_, fun _ _ h => no h, fun _ _ h => no h, fun _ _ _ h => no h⟩
    · unfold chkE at h
      split at h <;> first | exact no h | skip
      rename_i ea es pos
      obtain ⟨h, k2⟩ := ba h
      obtain ⟨k0, k1⟩ := ba h
      cases es with
      | nil => exact no k0
      | cons eb es =>
        have r := snd_and (pos := pos) (ia.e C G.1 k1).1 (ia.e C G.1 k1).2 (ib.l C G.2 k2).1 (ib.l C G.2 k2).2
        exact ⟨r.1, r.2.pt⟩
    · unfold chkL at h
      split at h <;> first | exact no h | skip
      obtain ⟨k1, k2⟩ := ba h
      exact snd_and (ia.e C G.1 k1).1 (ia.e C G.1 k1).2 (ib.l C G.2 k2).1 (ib.l C G.2 k2).2
  | or a b ia ib =>
    refine ⟨fun C G h => ?_, fun C G h => ?_, fun _ _ h => no h, fun _ _ h => no h, fun _ _ _ h => no h⟩
    · unfold chkE at h
      split at h <;> first | exact no h | skip
      rename_i ea es pos
      obtain ⟨h, k2⟩ := ba h
      obtain ⟨k0, k1⟩ := ba h
      cases es with
      | nil => exact no k0
      | cons eb es =>
        have r := snd_or (pos := pos) (ia.e C G.1 k1).1 (ia.e C G.1 k1).2 (ib.l C G.2 k2).1 (ib.l C G.2 k2).2
        exact ⟨r.1, r.2.pt⟩
    · unfold chkL at h
      split at h <;> first | exact no h | skip
      obtain ⟨k1, k2⟩ := ba h
      exact snd_or (ia.e C G.1 k1).1 (ia.e C G.1 k1).2 (ib.l C G.2 k2).1 (ib.l C G.2 k2).2
  | ite c a b ic ia ib =>
    refine ⟨fun C G h => ?_, fun _ _ h => no h, fun _ _ h => no h, fun _ _ h => no h, fun _ _ _ h => no h⟩
    unfold chkE at h
    split at h <;> first | exact no h | skip
    obtain ⟨h, k2⟩ := ba h
    obtain ⟨k0, k1⟩ := ba h
    exact snd_ite (ic.e C G.1 k0).2 (ia.e C G.2.1 k1).1 (ia.e C G.2.1 k1).2 (ib.e C G.2.2 k2).1 (ib.e C G.2.2 k2).2
  | tup as ia =>
    refine ⟨fun C G h => ?_, fun _ _ h => no h, fun _ _ h => no h, fun _ _ h => no h, fun _ _ _ h => no h⟩
    unfold chkE at h
    split at h <;> first | exact no h | skip
    obtain ⟨k0, k1⟩ := ba h
    have r := (snd_tup (n := ‹Nat›) (pos := ‹Pos›) k1 (dec k0) (ia.a C G k1).1).1
    exact ⟨r, snd_test r (plain_he rfl)⟩
  | lst as ia =>
    refine ⟨fun C G h => ?_, fun _ _ h => no h, fun _ _ h => no h, fun _ _ h => no h, fun _ _ _ h => no h⟩
    unfold chkE at h
    split at h <;> first | exact no h | skip
    obtain ⟨k0, k1⟩ := ba h
    have r := (snd_tup (n := 0) (pos := ‹Pos›) k1 (dec k0) (ia.a C G k1).1).2
    exact ⟨r, snd_test r (plain_he rfl)⟩
  | nil =>
    refine ⟨fun _ _ h => no h, fun _ _ h => no h, fun C G h => ?_, fun _ _ h => no h, fun _ _ _ h => no h⟩
    rename_i es
    have : es = [] := by simpa [chkA] using h
    subst this
    exact snd_nilA
  | cons a as ia ib =>
    refine ⟨fun _ _ h => no h, fun _ _ h => no h, fun C G h => ?_, fun _ _ h => no h, fun _ _ _ h => no h⟩
    unfold chkA at h
    split at h <;> first | exact no h | skip
    obtain ⟨h, k2⟩ := ba h
    obtain ⟨k0, k1⟩ := ba h
    exact snd_consA k0 (ia.e C G.1 k1).1 (ib.a C G.2 k2).1 (ib.a C G.2 k2).2
  | ix a i ia ib =>
    refine ⟨fun C G h => ?_, fun _ _ h => no h, fun _ _ h => no h, fun _ _ h => no h, fun _ _ _ h => no h⟩
    unfold chkE at h
    split at h <;> first | exact no h | skip
    obtain ⟨h, k2⟩ := ba h
    obtain ⟨k0, k1⟩ := ba h
    have r := snd_ix (pos := ‹Pos›) k0 (ia.e C G.1 k1).1 (ib.e C G.2 k2).1
    exact ⟨r, snd_test r (plain_he rfl)⟩
  | sl a lo hi ia il ih =>
    refine ⟨fun C G h => ?_, fun _ _ h => no h, fun _ _ h => no h, fun _ _ h => no h, fun _ _ _ h => no h⟩
    unfold chkE at h
    split at h <;> first | exact no h | skip
    rename_i ea es pos
    cases es <;> first | exact no h | skip
    rename_i l u st p2
    cases st <;> first | exact no h | skip
    obtain ⟨h, k3⟩ := ba (show (chkE q _ _ a ea && chkO q _ _ lo l && chkO q _ _ hi u) = true from h)
    obtain ⟨k1, k2⟩ := ba h
    have r := snd_sl (pos := pos) (p2 := p2) (ia.e C G.1 k1).1 (il.o C G.2.1 k2) (ih.o C G.2.2 k3)
    exact ⟨r, snd_test r (plain_he rfl)⟩
  | gap =>
    refine ⟨fun _ _ h => no h, fun _ _ h => no h, fun _ _ h => no h, fun C G h => ?_, fun _ _ _ h => no h⟩
    rename_i ex
    cases ex with
    | none => exact snd_omit
    | some e => exact no h
  | call n f as ia =>
    refine ⟨fun C G h => ?_, fun _ _ h => no h, fun _ _ h => no h, fun _ _ h => no h, fun _ _ _ h => no h⟩
    unfold chkE at h
    split at h <;> first | exact no h | skip
    obtain ⟨h, k2⟩ := ba h
    obtain ⟨k0, k1⟩ := ba h
    exact ⟨snd_call2 C k0 (dec k1) k2 G.1 (ia.a C G.2 k2).1, snd_test (snd_call2 C k0 (dec k1) k2 G.1 (ia.a C G.2 k2).1) (plain_he rfl)⟩
  | fnv nm =>
    refine ⟨fun C G h => ?_, fun _ _ h => no h, fun _ _ h => no h, fun _ _ h => no h, fun _ _ _ h => no h⟩
    unfold chkE at h
    split at h <;> first | exact no h | skip
    obtain ⟨k0, k1⟩ := ba h
    exact ⟨snd_fnv C k0 (dec k1) G, snd_test (snd_fnv C k0 (dec k1) G) (plain_he rfl)⟩
  | cax a fs as ie ia =>
    refine ⟨fun C G h => ?_, fun _ _ h => no h, fun _ _ h => no h, fun _ _ h => no h, fun _ _ _ h => no h⟩
    unfold chkE at h
    split at h <;> first | exact no h | skip
    obtain ⟨h, k2⟩ := ba h
    obtain ⟨k0, k1⟩ := ba h
    exact ⟨snd_cax C (ie.e C G.1 k0).1 k1 k2 G.2.1 (ia.a C G.2.2 k2).1, snd_test (snd_cax C (ie.e C G.1 k0).1 k1 k2 G.2.1 (ia.a C G.2.2 k2).1) (plain_he rfl)⟩
  | cal i fs as ia =>
    refine ⟨fun C G h => ?_, fun _ _ h => no h, fun _ _ h => no h, fun _ _ h => no h, fun _ _ _ h => no h⟩
    unfold chkE at h
    split at h <;> first | exact no h | skip
    obtain ⟨h, k2⟩ := ba h
    obtain ⟨k0, k1⟩ := ba h
    exact ⟨snd_cal C k0 k1 k2 G.1 (ia.a C G.2 k2).1, snd_test (snd_cal C k0 k1 k2 G.1 (ia.a C G.2 k2).1) (plain_he rfl)⟩
  | new n c f as ia =>
    refine ⟨fun C G h => ?_, fun _ _ h => no h, fun _ _ h => no h, fun _ _ h => no h, fun _ _ _ h => no h⟩
    unfold chkE at h
    split at h <;> first | exact no h | skip
    obtain ⟨h, k2⟩ := ba h
    obtain ⟨k0, k1⟩ := ba h
    exact ⟨snd_new C k0 (dec k1) k2 G.1 (ia.a C G.2 k2).1, snd_test (snd_new C k0 (dec k1) k2 G.1 (ia.a C G.2 k2).1) (plain_he rfl)⟩
  | mth n i c f as ia =>
    refine ⟨fun C G h => ?_, fun _ _ h => no h, fun _ _ h => no h, fun _ _ h => no h, fun _ _ _ h => no h⟩
    unfold chkE at h
    split at h <;> first | exact no h | skip
    obtain ⟨h, k5⟩ := ba h
    obtain ⟨h, k4⟩ := ba h
    obtain ⟨h, k3⟩ := ba h
    obtain ⟨k1, k2⟩ := ba h
    exact ⟨snd_mth C k1 (dec k2) (dec k3) k4 k5 G.1 (ia.a C G.2 k5).1, snd_test (snd_mth C k1 (dec k2) (dec k3) k4 k5 G.1 (ia.a C G.2 k5).1) (plain_he rfl)⟩
  | fld i c f =>
    refine ⟨fun C G h => ?_, fun _ _ h => no h, fun _ _ h => no h, fun _ _ h => no h, fun _ _ _ h => no h⟩
    unfold chkE at h
    split at h <;> first | exact no h | skip
    obtain ⟨h, k3⟩ := ba h
    obtain ⟨k1, k2⟩ := ba h
    exact ⟨snd_fld C k1 (dec k2) (dec k3) G, snd_test (snd_fld C k1 (dec k2) (dec k3) G) (plain_he rfl)⟩
  | blt b as ia =>
    refine ⟨fun C G h => ?_, fun _ _ h => no h, fun _ _ h => no h, fun _ _ h => no h, fun _ _ _ h => no h⟩
    unfold chkE at h
    split at h <;> first | exact no h | skip
    obtain ⟨h, k3⟩ := ba h
    obtain ⟨h, k2⟩ := ba h
    obtain ⟨k0, k1⟩ := ba h
    exact ⟨snd_blt C k0 (dec k1) (dec k2) k3 (ia.a C G k3).2, snd_test (snd_blt C k0 (dec k1) (dec k2) k3 (ia.a C G k3).2) (plain_he rfl)⟩
  | isi a t ia =>
    refine ⟨fun C G h => ?_, fun _ _ h => no h, fun _ _ h => no h, fun _ _ h => no h, fun _ _ _ h => no h⟩
    unfold chkE at h
    split at h <;> first | exact no h | skip
    obtain ⟨h, k8⟩ := ba h
    obtain ⟨h, k7⟩ := ba h
    obtain ⟨h, k6⟩ := ba h
    obtain ⟨h, k5⟩ := ba h
    obtain ⟨h, k4⟩ := ba h
    obtain ⟨h, k3⟩ := ba h
    obtain ⟨k1, k2⟩ := ba h
    exact ⟨snd_isi C k1 k2 (dec k3) (dec k4) (dec k5) (dec k6) k7 (ia.e C G k8).1, snd_test (snd_isi C k1 k2 (dec k3) (dec k4) (dec k5) (dec k6) k7 (ia.e C G k8).1) (plain_he rfl)⟩
  | dnew => exact ⟨fun C G h => ⟨snd_dnew h, snd_test (snd_dnew h) (plain_he (by rename_i ex; cases ex <;> first | rfl | exact no h))⟩, fun _ _ h => no h, fun _ _ h => no h, fun _ _ h => no h, fun _ _ _ h => no h⟩
  | dnwi => exact ⟨fun C G h => ⟨snd_dnwi h, snd_test (snd_dnwi h) (plain_he (by rename_i ex; cases ex <;> first | rfl | exact no h))⟩, fun _ _ h => no h, fun _ _ h => no h, fun _ _ h => no h, fun _ _ _ h => no h⟩
  | dqe z a b ia ib =>
    refine ⟨fun C G h => ?_, fun _ _ h => no h, fun _ _ h => no h, fun _ _ h => no h, fun _ _ _ h => no h⟩
    unfold chkE at h
    split at h <;> first | exact no h | skip
    obtain ⟨h, k11⟩ := ba h
    obtain ⟨h, k10⟩ := ba h
    obtain ⟨h, k9⟩ := ba h
    obtain ⟨h, k8⟩ := ba h
    obtain ⟨h, k7⟩ := ba h
    obtain ⟨h, k6⟩ := ba h
    obtain ⟨h, k5⟩ := ba h
    obtain ⟨h, k4⟩ := ba h
    obtain ⟨h, k3⟩ := ba h
    obtain ⟨k1, k2⟩ := ba h
    cases dec k7
    exact snd_dqe C k1 k2 (dec k3) (dec k4) (dec k5) (dec k6) k8 k9 (ia.e C G.1 k10).1 (ib.e C G.2 k11).1
  | din z k i ia =>
    refine ⟨fun C G h => ?_, fun _ _ h => no h, fun _ _ h => no h, fun _ _ h => no h, fun _ _ _ h => no h⟩
    unfold chkE at h
    split at h <;> first | exact no h | skip
    obtain ⟨h, k3⟩ := ba h
    obtain ⟨k1, k2⟩ := ba h
    cases dec k2
    exact snd_din C k1 (ia.e C G k3).1
  | stp a b ia ib =>
    refine ⟨fun C G h => ?_, fun _ _ h => no h, fun _ _ h => no h, fun _ _ h => no h, fun _ _ _ h => no h⟩
    unfold chkE at h
    split at h <;> first | exact no h | skip
    obtain ⟨h, k3⟩ := ba h
    obtain ⟨k1, k2⟩ := ba h
    have r := fun p1 p2 => snd_stp (p2 := p1) (pos := p2) (ia.e C G.1 k2).1 (ib.e C G.2 k3).1
    exact ⟨r _ _, snd_test (r _ _) (plain_he rfl)⟩
  | dgt a b c ia ib ic =>
    refine ⟨fun C G h => ?_, fun _ _ h => no h, fun _ _ h => no h, fun _ _ h => no h, fun _ _ _ h => no h⟩
    unfold chkE at h
    split at h <;> first | exact no h | skip
    obtain ⟨h, k7⟩ := ba h
    obtain ⟨h, k6⟩ := ba h
    obtain ⟨h, k5⟩ := ba h
    obtain ⟨h, k4⟩ := ba h
    obtain ⟨h, k3⟩ := ba h
    obtain ⟨k1, k2⟩ := ba h
    have r := snd_dgt C (dec k1) k2 k3 k4 (ia.e C G.1 k5).1 (ib.e C G.2.1 k6).1 (ic.e C G.2.2 k7).1
    exact ⟨r, snd_test r (plain_he rfl)⟩
  | lr1 a ia =>
    refine ⟨fun C G h => ?_, fun _ _ h => no h, fun _ _ h => no h, fun _ _ h => no h, fun _ _ _ h => no h⟩
    unfold chkE at h
    split at h <;> first | exact no h | skip
    obtain ⟨h, k8⟩ := ba h
    obtain ⟨h, k7⟩ := ba h
    obtain ⟨h, k6⟩ := ba h
    obtain ⟨h, k5⟩ := ba h
    obtain ⟨h, k4⟩ := ba h
    obtain ⟨h, k3⟩ := ba h
    obtain ⟨k1, k2⟩ := ba h
    have r := fun p1 p2 p3 p4 => snd_lr1 (p1 := p1) (p2 := p2) (pos := p3) (pos2 := p4) C k1 k2 (dec k3) (dec k4) (dec k5) (dec k6) k7 (ia.e C G k8).1
    exact ⟨r _ _ _ _, snd_test (r _ _ _ _) (plain_he rfl)⟩
  | lr2 a b ia ib =>
    refine ⟨fun C G h => ?_, fun _ _ h => no h, fun _ _ h => no h, fun _ _ h => no h, fun _ _ _ h => no h⟩
    unfold chkE at h
    split at h <;> first | exact no h | skip
    obtain ⟨h, k10⟩ := ba h
    obtain ⟨h, k9⟩ := ba h
    obtain ⟨h, k8⟩ := ba h
    obtain ⟨h, k7⟩ := ba h
    obtain ⟨h, k6⟩ := ba h
    obtain ⟨h, k5⟩ := ba h
    obtain ⟨h, k4⟩ := ba h
    obtain ⟨h, k3⟩ := ba h
    obtain ⟨k1, k2⟩ := ba h
    have r := fun p1 p2 p3 p4 => snd_lr2 (p1 := p1) (p2 := p2) (pos := p3) (pos2 := p4) C k1 k2 (dec k3) (dec k4) (dec k5) (dec k6) k7 k8 (ia.e C G.1 k9).1 (ib.e C G.2 k10).1
    exact ⟨r _ _ _ _, snd_test (r _ _ _ _) (plain_he rfl)⟩
  | srk a w ia =>
    refine ⟨fun C G h => ?_, fun _ _ h => no h, fun _ _ h => no h, fun _ _ h => no h, fun _ _ _ h => no h⟩
    rename_i ex
    unfold chkE at h
    cases hu : lamK ex with
    | none => rw [hu] at h; exact no h
    | some p =>
      obtain ⟨x, ea⟩ := p
      rw [hu] at h
      obtain ⟨h, k6⟩ := ba h
      obtain ⟨h, k5⟩ := ba h
      obtain ⟨h, k4⟩ := ba h
      obtain ⟨h, k3⟩ := ba h
      obtain ⟨k1, k2⟩ := ba h
      have r := snd_srk C hu k1 (dec k2) (dec k3) (dec k4) (dec k5) G.1 (ia.e C G.2 k6).1
      exact ⟨r, snd_test r (plain_he (by have z := lamK_plain hu; unfold isCallE at z; split at z <;> first | rfl | cases z))⟩
  | un u a ia =>
    refine ⟨fun C G h => ?_, fun _ _ h => no h, fun _ _ h => no h, fun _ _ h => no h, fun _ _ _ h => no h⟩
    rename_i ex
    unfold chkE at h
    cases hu : unE u ex with
    | none => rw [hu] at h; exact no h
    | some p =>
      obtain ⟨ea, xs⟩ := p
      rw [hu] at h
      obtain ⟨k1, k2⟩ := ba h
      exact ⟨snd_un C hu k1 (ia.e C G k2).1, snd_test (snd_un C hu k1 (ia.e C G k2).1) (plain_he (by cases u <;> (unfold unE at hu; dsimp only at hu) <;> first | (cases hu; done) | (split at hu <;> first | rfl | cases hu)))⟩
  | isx a t yes no' ia =>
    refine ⟨fun C G h => ?_, fun _ _ h => no h, fun _ _ h => no h, fun _ _ h => no h, fun _ _ _ h => no h⟩
    unfold chkE at h
    split at h <;> first | exact no h | skip
    obtain ⟨h, k7⟩ := ba h
    obtain ⟨h, k6⟩ := ba h
    obtain ⟨h, k5⟩ := ba h
    obtain ⟨h, k4⟩ := ba h
    obtain ⟨h, k3⟩ := ba h
    obtain ⟨k1, k2⟩ := ba h
    exact ⟨snd_isx C k1 k2 (dec k3) (dec k4) (dec k5) k6 G (ia.e C G.2.2.2 k7).1, snd_test (snd_isx C k1 k2 (dec k3) (dec k4) (dec k5) k6 G (ia.e C G.2.2.2 k7).1) (plain_he rfl)⟩
  | xf a f cs ia =>
    refine ⟨fun C G h => ?_, fun _ _ h => no h, fun _ _ h => no h, fun _ _ h => no h, fun _ _ _ h => no h⟩
    unfold chkE at h
    split at h <;> first | exact no h | skip
    obtain ⟨h, k3⟩ := ba h
    obtain ⟨k1, k2⟩ := ba h
    have r := snd_xf (pos := ‹Pos›) (dec k1) k2 G (ia.e C G.2 k3).1
    exact ⟨r, snd_test r (plain_he rfl)⟩
  | rg3 a b c ia ib =>
    refine ⟨fun _ _ h => no h, fun _ _ h => no h, fun _ _ h => no h, fun _ _ h => no h, fun C G _ h => ?_⟩
    unfold chkI at h
    split at h <;> first | exact no h | skip
    obtain ⟨h, k8⟩ := ba h
    obtain ⟨h, k7⟩ := ba h
    obtain ⟨h, k6⟩ := ba h
    obtain ⟨h, k5⟩ := ba h
    obtain ⟨h, k4⟩ := ba h
    obtain ⟨h, k3⟩ := ba h
    obtain ⟨h, k2⟩ := ba h
    obtain ⟨k0, k1⟩ := ba h
    cases dec k5
    exact snd_rg3 C k0 (dec k1) (dec k2) k3 k4 (dec k6) (ia.e C G.1 k7).1 (ib.e C G.2 k8).1
  | bm m a as ia ib =>
    refine ⟨fun C G h => ?_, fun _ _ h => no h, fun _ _ h => no h, fun _ _ h => no h, fun _ _ _ h => no h⟩
    unfold chkE at h
    split at h <;> first | exact no h | skip
    obtain ⟨h, k5⟩ := ba h
    obtain ⟨h, k4⟩ := ba h
    obtain ⟨h, k3⟩ := ba h
    obtain ⟨k1, k2⟩ := ba h
    cases dec k1
    have r := snd_bm C (dec k2) k5 k3 (ia.e C G.1 k4).1 (ib.a C G.2 k5).2
    exact ⟨r, snd_test r (plain_he rfl)⟩
  | com vs t it c e ii ic ie =>
    refine ⟨fun C G h => ?_, fun _ _ h => no h, fun _ _ h => no h, fun _ _ h => no h, fun _ _ _ h => no h⟩
    obtain ⟨_, _, _, _, _, _, rfl, r, _⟩ := snd_comE C ii ic ie G h
    exact ⟨r, snd_test r (plain_he rfl)⟩
  | itb i => exact ⟨fun _ _ h => no h, fun _ _ h => no h, fun _ _ h => no h, fun _ _ h => no h, fun _ _ _ h => no h⟩
  | it a ia => exact ⟨fun _ _ h => no h, fun _ _ h => no h, fun _ _ h => no h, fun _ _ h => no h, fun C G _ h => snd_it (ia.e C G h).1⟩
  | rg1 a ia =>
    refine ⟨fun _ _ h => no h, fun _ _ h => no h, fun _ _ h => no h, fun _ _ h => no h, fun C G _ h => ?_⟩
    unfold chkI at h
    split at h <;> first | exact no h | skip
    obtain ⟨h, k5⟩ := ba h
    obtain ⟨h, k4⟩ := ba h
    obtain ⟨h, k3⟩ := ba h
    obtain ⟨k1, k2⟩ := ba h
    exact snd_rg1 C k1 (dec k2) (dec k3) k4 (ia.e C G k5).1
  | rg2 a b ia ib =>
    refine ⟨fun _ _ h => no h, fun _ _ h => no h, fun _ _ h => no h, fun _ _ h => no h, fun C G _ h => ?_⟩
    unfold chkI at h
    split at h <;> first | exact no h | skip
    obtain ⟨h, k7⟩ := ba h
    obtain ⟨h, k6⟩ := ba h
    obtain ⟨h, k5⟩ := ba h
    obtain ⟨h, k4⟩ := ba h
    obtain ⟨h, k3⟩ := ba h
    obtain ⟨k1, k2⟩ := ba h
    exact snd_rg2 C k1 (dec k2) (dec k3) k4 k5 (ia.e C G.1 k6).1 (ib.e C G.2 k7).1
  | zip a b ia ib =>
    refine ⟨fun _ _ h => no h, fun _ _ h => no h, fun _ _ h => no h, fun _ _ h => no h, fun C G z h => ?_⟩
    obtain ⟨elts, kk, tpos, rfl⟩ := z rfl
    unfold chkI at h
    split at h <;> first | exact no h | skip
    obtain ⟨h, k7⟩ := ba h
    obtain ⟨h, k6⟩ := ba h
    obtain ⟨h, k5⟩ := ba h
    obtain ⟨h, k4⟩ := ba h
    obtain ⟨h, k3⟩ := ba h
    obtain ⟨k1, k2⟩ := ba h
    exact snd_zip C k1 (dec k2) (dec k3) k4 k5 (ia.e C G.1 k6).1 (ib.e C G.2 k7).1
  | rev a ia =>
    refine ⟨fun _ _ h => no h, fun _ _ h => no h, fun _ _ h => no h, fun _ _ h => no h, fun C G _ h => ?_⟩
    unfold chkI at h
    split at h <;> first | exact no h | skip
    obtain ⟨h, k5⟩ := ba h
    obtain ⟨h, k4⟩ := ba h
    obtain ⟨h, k3⟩ := ba h
    obtain ⟨k1, k2⟩ := ba h
    exact snd_rev C k1 (dec k2) (dec k3) k4 (ia.e C G k5).1
end MI

namespace MI
open PySem L2

/-! ### statements: the check -/
def isKill : T → Bool
  | .kill _ => true | _ => false
def isTup : Expr → Bool
  | .Tuple _ _ _ => true | _ => false
/-- the names of a, b = x, y that CPython stores from the right -/
def swN (sc : Scope) (ts : List Expr) : List Str := ts.filterMap fun
    | .Name id pos => if sc.names.lookup id == some .local && pos.line == (ts.head?.map (·.pos.line)).getD 0 then some id else none
    | _ => none
def starX : Expr → Bool
  | .Starred .. => true | _ => false
def swNo (sc : Scope) (ts vs : List Expr) : Bool :=
  (!(ts.length == 2 || ts.length == 3) || vs.length != ts.length) || vs.any starX || (swN sc ts).length != ts.length || (swN sc ts).eraseDups.length != (swN sc ts).length || vs.all (foldedForSure 8)
def swYes (sc : Scope) (ts vs : List Expr) : Bool :=
  ((ts.length == 2 || ts.length == 3) && vs.length == ts.length) && !vs.any starX && (swN sc ts).length == ts.length && (swN sc ts).eraseDups.length == (swN sc ts).length && !vs.all (foldedForSure 8) && !vs.all (constantsAlone 8)
/-- a comprehension that is stored at once in a local -/
def lcNow (sc : Scope) (y : Str) (py : Pos) : Expr → Bool
  | .ListComp _ _ scope pos => decide (sc.names.lookup y = some .local) && (py.line == pos.line) && !(scope.names.any fun (n, k) => n == y && (k == .local || k == .cell))
  | _ => false
def lcLate (sc : Scope) (y : Str) (py : Pos) : Expr → Bool
  | .ListComp _ _ scope pos => !(decide (sc.names.lookup y = some .local) && (py.line == pos.line) && !(scope.names.any fun (n, k) => n == y && (k == .local || k == .cell)))
  | e => notComp e
/-- the targets of comprehensions are their own names -/
def tdy : E → Bool
  | .bin _ a b => tdy a && tdy b
  | .neg a => tdy a
  | .cmp _ a b => tdy a && tdy b
  | .chn _ _ a b c => tdy a && tdy b && tdy c
  | .isn a => tdy a
  | .isnn a => tdy a
  | .lend a => tdy a
  | .not a => tdy a
  | .and a b => tdy a && tdy b
  | .or a b => tdy a && tdy b
  | .one a => tdy a
  | .ite c a b => tdy c && tdy a && tdy b
  | .tup a => tdy a
  | .lst a => tdy a
  | .cons a as => tdy a && tdy as
  | .ix a i => tdy a && tdy i
  | .sl a l h => tdy a && tdy l && tdy h
  | .call _ _ as => tdy as
  | .cax a _ as => tdy a && tdy as
  | .cal _ _ as => tdy as
  | .new _ _ _ as => tdy as
  | .mth _ _ _ _ as => tdy as
  | .blt _ as => tdy as
  | .isi a _ => tdy a
  | .bm _ a as => tdy a && tdy as
  | .com vs t it c e => tgIn t vs && tdy it && tdy c && tdy e
  | .un _ a => tdy a
  | .lr1 a => tdy a
  | .stp a b => tdy a && tdy b
  | .dqe _ a b => tdy a && tdy b
  | .din _ k _ => tdy k
  | .dgt a b c => tdy a && tdy b && tdy c
  | .lr2 a b => tdy a && tdy b
  | .srk a _ => tdy a
  | .isx a _ _ _ => tdy a
  | .xf a _ _ => tdy a
  | .rg3 a b _ => tdy a && tdy b
  | .it a => tdy a
  | .rg1 a => tdy a
  | .rg2 a b => tdy a && tdy b
  | .zip a b => tdy a && tdy b
  | .rev a => tdy a
  | _ => true
theorem tdy_ok {c : E} (h : tdy c = true) : Tidy c := by
  induction c <;> (simp only [tdy, Bool.and_eq_true] at h; unfold Tidy; first | trivial | grind)
/-! ### the suite of an except clause: one plain statement -/
mutual
def hotE (N : List Str) (sc : Scope) : E → Expr → Bool
  | .var i, e => (match e with | .Name x _ => vis N sc i x | _ => false)
  | .kn, e => (match e with | .Constant .none _ _ => true | _ => false)
  | .kb b, e => (match e with | .Constant (.bool c) _ _ => b == c | _ => false)
  | .ks x, e => (match e with | .Constant (.str y) _ _ => decide (sS x = y) | _ => false)
  | .xf (.var i) f _, e => (match e with | .Attribute (.Name x _) m _ => vis N sc i x && decide (m = sS f) | _ => false)
  | .tup as, e => (match e with | .Tuple es _ _ => decide (es.length ≤ 1000) && hotA N sc as es | _ => false)
  | _, _ => false
def hotA (N : List Str) (sc : Scope) : E → List Expr → Bool
  | .nil, es => es.isEmpty
  | .cons a as, es => (match es with | e :: es => notStar e && (hotE N sc a e && hotA N sc as es) | [] => false)
  | _, _ => false
end
def hotS (N : List Str) (sc : Scope) : HS → Stmt → Bool
  | .set m e, st => (match st with | .Assign [.Name y _] v _ => loc true N sc m y && (notComp v && (tdy e && hotE N sc e v)) | _ => false)
  | .ret e, st => (match st with | .Return (some v) _ => hotE N sc e v | _ => false)
def chkH (N : List Str) (sc : Scope) : List Hd → List ExceptHandler → Bool
  | [], es => es.isEmpty
  | h :: hs, es => (match es with
    | .ExceptHandler (some (.Name x _)) n [st] _ :: es => glo sc x && (decide (x = sS h.t) && ((match h.v, n with
      | none, none => true
      | some i, some y => decide (N[i]? = some y) && decide (sc.names.lookup y = some .local)
      | _, _ => false) && (hotS N sc h.st st && chkH N sc hs es)))
    | _ => false)
def GoodHS (d : Gd) : HS → Prop
  | .set _ e => GoodE d e
  | .ret e => GoodE d e
/-- no list is changed in it -/
def quiet : T → Bool
  | .nil => true
  | .cons a b => !isKill a && (quiet a && quiet b)
  | .set (.one _) _ => true
  | .ife _ a b => quiet a && quiet b
  | _ => false
mutual
def chkPad (N : List Str) (sc : Scope) (j : Nat) : List Nat → List Expr → Bool
  | [], es => (match es with | [.Call (.Attribute (.Name y _) m ap) [] [] cp] => vis N sc j y && decide (m = "pop") && (ap.endLine == cp.line) | _ => false)
  | a :: as, es => (match es with | .Name x _ :: es => vis N sc a x && chkPad N sc j as es | _ => false)
def chkS (q : Bs) (N : List Str) (sc : Scope) : T → Stmt → Bool
  | .set t e, st => (match st with
    | .Assign [.Name y py] v _ => chkTg true N sc t (.Name y py) && tdy e && chkE q N sc e v && (lcNow sc y py v || lcLate sc y py v)
    | .Assign [.Tuple es k p] v _ => chkTg true N sc t (.Tuple es k p) && tdy e && chkE q N sc e v && !isTup v
    | _ => false)
  | .par is as, st => (match st with
    | .Assign [.Tuple es k p] (.Tuple vs _ _) _ => chkTg true N sc (.many is) (.Tuple es k p) && tdy as && decide is.Nodup && chkA q N sc as vs && decide (vs.length ≤ 1000) && (swNo sc es vs || swYes sc es vs)
    | _ => false)
  | .setf i _ f e, st => (match st with
    | .Assign [.Attribute (.Name y _) m _] v _ => vis N sc i y && decide (q.flds[f]? = some m) && decide q.flds.Nodup && notComp v && chkE q N sc e v
    | _ => false)
  | .augf o i _ f e, st => (match st with
    | .AugAssign (.Attribute (.Name y _) m _) op v _ => vis N sc i y && decide (q.flds[f]? = some m) && decide q.flds.Nodup && decide (op = opOf o) && (match o with | .add => true | .sub => true | _ => false) && chkE q N sc e v
    | _ => false)
  | .aug o i e, st => (match st with
    | .AugAssign (.Name x _) op v _ => loc true N sc i x && decide (op = opOf o) && (match o with | .add => true | .sub => true | _ => false) && chkE q N sc e v
    | _ => false)
  | .rvl i, st => (match st with
    | .Expr (.Call (.Attribute (.Name x _) m ap) [] [] cp) _ => vis N sc i x && decide (m = "reverse") && (ap.endLine == cp.line)
    | _ => false)
  | .app i e, st => (match st with
    | .Expr (.Call (.Attribute (.Name x _) m ap) [v] [] cp) _ => vis N sc i x && decide (m = "append") && (ap.endLine == cp.line) && notStar v && chkE q N sc e v
    | _ => false)
  | .ext i e, st => (match st with
    | .Expr (.Call (.Attribute (.Name x _) m ap) [v] [] cp) _ => vis N sc i x && decide (m = "extend") && (ap.endLine == cp.line) && notStar v && chkE q N sc e v
    | _ => false)
  | .ins i k e, st => (match st with
    | .Expr (.Call (.Attribute (.Name x _) m ap) [u, v] [] cp) _ => vis N sc i x && decide (m = "insert") && (ap.endLine == cp.line) && notStar u && notStar v && chkE q N sc k u && chkE q N sc e v
    | _ => false)
  | .seti i k e, st => (match st with
    | .Assign [.Subscript (.Name x _) u _] v _ => vis N sc i x && notSlice u && notComp v && chkE q N sc k u && chkE q N sc e v
    | _ => false)
  | .dput i k e, st => (match st with
    | .Assign [.Subscript (.Name x _) u _] v _ => vis N sc i x && notSlice u && notComp v && chkE q N sc k u && chkE q N sc e v
    | _ => false)
  | .dpti i k e, st => (match st with
    | .Assign [.Subscript (.Name x _) u _] v _ => vis N sc i x && notSlice u && notComp v && chkE q N sc k u && chkE q N sc e v
    | _ => false)
  | .dset i e, st => (match st with
    | .Assign [.Name y py] (.Call (.Name x _) [ea] [] _) _ => chkTg true N sc (.one i) (.Name y py) && tdy e && glo sc x && decide (x = "dict") && decide (x ∈ q.blts) && notStar ea && chkE q N sc e ea
    | _ => false)
  | .pad i j n _ k as, st => (match st with
    | .Assign [.Name x _] (.BinOp (.Name x2 _) .Add (.Call (.Name g _) (.Constant (.str k') _ _ :: es) [] _) _) _ => loc true N sc i x && vis N sc i x2 && glo sc g && decide (q.fns[n]? = some g) && decide (sS k = k') && chkPad N sc j as es
    | _ => false)
  | .ife c a b, st => (match st with
    | .If t s1 s2 _ => chkE q N sc c t && chkB q N sc a s1 && chkB q N sc b s2
    | _ => false)
  | .whl c b, st => (match st with
    | .While t s1 [] _ => chkE q N sc c t && chkB q N sc b s1
    | _ => false)
  | .for t it b _, st => (match st with
    | .For tg e s1 [] _ => chkTg true N sc t tg && (notSet e && (match t with | .one _ => !isZip it | .many _ => true)) && (match it with | .itb i => (match isNm e with | some x => vis N sc i x | none => false) && quiet b | _ => chkI q N sc it e) && chkB q N sc b s1
    | _ => false)
  | .ret e, st => (match st with | .Return (some v) _ => chkE q N sc e v | _ => false)
  | .retv i, st => (match st with | .Return (some (.Name x _)) _ => vis N sc i x | _ => false)
  | .retn, st => (match st with | .Return none _ => true | _ => false)
  | .ret2 i j, st => (match st with | .Return (some (.Tuple [.Name x _, .Name y _] _ _)) _ => vis N sc i x && vis N sc j y | _ => false)
  | .set2 i j e, st => (match st with
    | .Assign [.Tuple es k p] v _ => chkTg true N sc (.many [i, j]) (.Tuple es k p) && tdy e && chkE q N sc e v && !isTup v
    | _ => false)
  | .ffr i e c, st => (match st with
    | .For tg ee [.If t [.Return (some (.Name x _)) _] [] _] [] _ => chkTg true N sc (.one i) tg && (notSet ee && (chkE q N sc e ee && (chkE q N sc c t && vis N sc i x)))
    | _ => false)
  | .exp e, st => (match st with | .Expr v _ => notComp v && chkE q N sc e v | _ => false)
  | .pass, st => (match st with | .Pass _ => true | _ => false)
  | .never, st => (match st with | .Raise _ _ _ => true | _ => false)
  | .raise c _ as, st => (match st with | .Raise (some (.Call (.Name x _) (ea :: es) [] _)) none _ => glo sc x && (decide (x = sS c) && chkA q N sc as (ea :: es)) | _ => false)
  | .tri b hs, st => (match st with | .Try body (h0 :: hds) [] [] _ => chkB q N sc b body && chkH N sc hs (h0 :: hds) | _ => false)
  | .cont, st => (match st with | .Continue _ => true | _ => false)
  | .brk, st => (match st with | .Break _ => true | _ => false)
  | _, _ => false
def chkB (q : Bs) (N : List Str) (sc : Scope) : T → List Stmt → Bool
  | .nil, sts => sts.isEmpty
  | .cons a b, sts => if isKill a = true then chkB q N sc b sts else (match sts with | st :: sts => chkS q N sc a st && chkB q N sc b sts | [] => false)
  | _, _ => false
end
def GoodT (d : Gd) : T → Prop
  | .cons a b => GoodT d a ∧ GoodT d b
  | .set _ e => GoodE d e
  | .par _ as => GoodE d as
  | .setf _ c f e => d.fld c f ∧ GoodE d e
  | .augf _ _ c f e => d.fld c f ∧ GoodE d e
  | .aug _ _ e => GoodE d e
  | .app _ e => GoodE d e
  | .ext _ e => GoodE d e
  | .ins _ k e => GoodE d k ∧ GoodE d e
  | .seti _ k e => GoodE d k ∧ GoodE d e
  | .dput _ k e => GoodE d k ∧ GoodE d e
  | .dpti _ k e => GoodE d k ∧ GoodE d e
  | .dset _ e => GoodE d e
  | .pad _ _ n f _ _ => d.fn n f
  | .ife c a b => GoodE d c ∧ GoodT d a ∧ GoodT d b
  | .whl c b => GoodE d c ∧ GoodT d b
  | .for _ it b _ => GoodE d it ∧ GoodT d b
  | .ret e => GoodE d e
  | .set2 _ _ e => GoodE d e
  | .ffr _ e c => GoodE d e ∧ GoodE d c
  | .exp e => GoodE d e
  | .raise c ks as => d.rse c ks ∧ GoodE d as
  | .tri b hs => GoodT d b ∧ ∀ h ∈ hs, d.hnm h.t ∧ (∀ c ∈ h.yes, d.exm c h.t true) ∧ (∀ c ∈ h.no, d.exm c h.t false) ∧ GoodHS d h.st
  | _ => True
theorem swap_eq {ts vs : List Expr} {k k2 : Nat} {p p2 : Pos} {env : Env} (hk : env.scope.kind = .function) : swappedStores [.Tuple ts k p] (.Tuple vs k2 p2) env =
    (if (!(ts.length == 2 || ts.length == 3) || vs.length != ts.length || false) = true then pure none else if vs.any starX = true then pure none
      else if ((swN env.scope ts).length != ts.length || (swN env.scope ts).eraseDups.length != (swN env.scope ts).length) = true then pure none
      else if vs.all (foldedForSure 8) = true then pure none
      else if vs.all (constantsAlone 8) = true then (do unsupported "assign.tuple-of-constant-expressions:order-of-the-stores"; pure (some (swN env.scope ts))) else pure (some (swN env.scope ts))) := by
  have hb : env.blockKind = .function := by unfold Env.blockKind; rw [hk]; rfl
  unfold swappedStores
  rw [hb]
  rfl
theorem swap_no {ts vs : List Expr} {k k2 : Nat} {p p2 : Pos} {env : Env} (hk : env.scope.kind = .function) (h : swNo env.scope ts vs = true) : swappedStores [.Tuple ts k p] (.Tuple vs k2 p2) env = pure none := by
  rw [swap_eq hk]
  unfold swNo at h
  split
  · rfl
  · next h1 =>
    split
    · rfl
    · next h2 =>
      split
      · rfl
      · next h3 =>
        split
        · rfl
        · next h4 => simp_all
theorem swap_yes {ts vs : List Expr} {k k2 : Nat} {p p2 : Pos} {env : Env} (hk : env.scope.kind = .function) (h : swYes env.scope ts vs = true) : swappedStores [.Tuple ts k p] (.Tuple vs k2 p2) env = pure (some (swN env.scope ts)) := by
  rw [swap_eq hk]
  unfold swYes at h
  simp only [Bool.and_eq_true, Bool.not_eq_true'] at h
  obtain ⟨⟨⟨⟨⟨⟨h1, h2⟩, h3⟩, h4⟩, h5⟩, h6⟩, h7⟩ := h
  rw [if_neg (by rw [h1]; simpa using h2), if_neg (by rw [h3]; decide), if_neg (by simpa using ⟨beq_iff_eq.mp h4, beq_iff_eq.mp h5⟩), if_neg (by rw [h6]; decide), if_neg (by rw [h7]; decide)]
/-! ### the reading of a statement -/
section
variable (K : PySem.W.Frag) (q : Bs) (W : L2.WX)
def FlD (F : Fx) (g : G) (σ : L2.St) (H : Hp) (D : Ends) : Flow → Prop
  | .nxt => D.nx σ H
  | .brk => D.bk σ H
  | .cnt => D.ct σ H
  | .ret v => ∀ x (Hs : Hp), (∀ a o, F.H0 a = some o → Hs a = none → isTb o) → EVR F g Hs H x v → D.rt x H
def PoS (F : Fx) (W : L2.WX) (g : G) (H : Hp) (r : R State Flow) (D : Ends) : Prop := match r with
  | .ok fl s' => ∀ g' σ' H', RS F g' s' σ' H' → Stp F g H g' H' → FlD F g' σ' H' D fl
  | .exc e s' => ∀ g' σ' H' C d, RS F g' s' σ' H' → Stp F g H g' H' → ExR F g' H' C d e → W C d σ' H'
  | .bad => False
def tS (c : T) : TS := fun D σ H => ∃ (p : Pv) (g : G) (s : State), RS (FX K q p) g s σ H ∧ PoS (FX K q p) W g H (ex c s) D
end
section
variable {F : Fx} {W : L2.WX} {g g' : G} {s s' : State} {σ σ' : L2.St} {H H' : Hp}
theorem noTb {H : Hp} : ∀ (a : Addr) (o : HO), H a = some o → H a = none → isTb o := fun a o h n => by rw [h] at n; cases n
theorem PoS.shift {r : R State Flow} {D : Ends} (t : Stp F g H g' H') (h : PoS F W g H r D) : PoS F W g' H' r D := by
  cases r with
  | bad => exact h
  | exc e s2 => exact fun g2 σ2 H2 C d R2 t2 => h g2 σ2 H2 C d R2 (t.trans t2)
  | ok fl s2 => exact fun g2 σ2 H2 R2 t2 => h g2 σ2 H2 R2 (t.trans t2)
/-- an expression ahead of the rest -/
theorem PoS.bindE {α : Type} {r : R State α} {f : α → State → R State Flow} {D : Ends} (h : PoS F W g H (r.bind f) D) : Post F W g σ H r fun a g1 s1 H1 => PoS F W g1 H1 (f a s1) D := by
  cases r with
  | bad => exact h
  | exc e s1 => exact fun g1 H1 C d R1 t1 => h g1 σ H1 C d R1 t1.stp
  | ok a s1 => exact fun g1 H1 R1 t1 => PoS.shift t1.stp h
theorem PoS.now {fl : Flow} {D : Ends} (R : RS F g s σ H) (h : PoS F W g H (.ok fl s) D) : FlD F g σ H D fl := h g σ H R .refl
theorem RS.h0all (R : RS F g s σ H) : ∀ a, H a = none → F.H0 a = none := fun a h => R.h0 h
end
section
variable {q : Bs} {X : Cx} {W : L2.WX} {sc : Scope} {N : List Str}
theorem snd_nilB : PSs X [] (tS X.K q W .nil) := PSs.imp pss_nil fun D σ H ⟨p, g, s, R, k⟩ => by unfold ex at k; exact PoS.now R k
theorem snd_consB {a b : T} {st : Stmt} {sts : List Stmt} (ha : PS X st (tS X.K q W a)) (hb : PSs X sts (tS X.K q W b)) : PSs X (st :: sts) (tS X.K q W (.cons a b)) := by
  refine PSs.imp (pss_cons ha hb) fun D σ H ⟨p, g, s, R, k⟩ => ⟨p, g, s, R, ?_⟩
  unfold ex at k
  cases e : ex a s with
  | bad => rw [e] at k; exact k
  | exc x s1 => rw [e] at k; exact k
  | ok fl s1 =>
    rw [e] at k
    intro g1 σ1 H1 R1 t1
    cases fl with
    | nxt => exact ⟨p, g1, s1, R1, PoS.shift t1 k⟩
    | brk => exact k g1 σ1 H1 R1 t1
    | cnt => exact k g1 σ1 H1 R1 t1
    | ret v => exact k g1 σ1 H1 R1 t1
theorem snd_kill {ks : List Nat} {b : T} {sts : List Stmt} (hb : PSs X sts (tS X.K q W b)) : PSs X sts (tS X.K q W (.cons (.kill ks) b)) := by
  refine PSs.imp hb fun D σ H ⟨p, g, s, R, k⟩ => ⟨p, g, _, R.kill ks, ?_⟩
  unfold ex at k
  rw [show ex (.kill ks) s = .ok .nxt (wipeS ks s) by simp only [ex]] at k
  exact k
theorem snd_ret {e : E} {v : Expr} {pos : Pos} (h : PE X v (tE X.K q W e)) : PS X (.Return (some v) pos) (tS X.K q W (.ret e)) := by
  refine PS.imp (ps_ret h) fun D σ H ⟨p, g, s, R, k⟩ => ⟨p, g, s, R, ?_⟩
  unfold ex at k
  refine Post.mono (PoS.bindE k) fun a g1 s1 H1 _ R1 t1 k v hv => ?_
  cases a <;> first | exact k.elim | exact PoS.now R1 k v _ noTb (hv.back R.h0all)
theorem EVR.back' {F : Fx} {g : G} {H H' Hs : Hp} (b : ∀ a, H a = none → Hs a = none) {v : V} {e : EV} (h : EVR F g H H' v e) : EVR F g Hs H' v e := h.back b
theorem snd_retv (C : CO q X W sc N) {i : Nat} {x : Str} {p1 pos : Pos} (h : vis N sc i x = true) : PS X (.Return (some (.Name x p1)) pos) (tS X.K q W (.retv i)) := by
  obtain ⟨h1, h2, h3, h4⟩ := C.vis h
  refine PS.imp (ps_ret (pe_var h1 h2 h3 h4)) fun D σ H ⟨p, g, s, R, k⟩ => ?_
  unfold ex at k
  split at k
  · next y e =>
    obtain ⟨a, o1, o2, o3⟩ := R.ow i y e
    obtain ⟨v, e1, r, R'⟩ := R.unown e
    rw [o2] at e1; cases e1
    refine ⟨_, o2, k (g.drop i) σ H R' stE_drop.stp _ _ noTb ⟨a, rfl, (R.own i a o1).1, ?_, o3.anti fun b z => z.elim drop_pp fun z => by rw [z]; exact .inr ⟨i, o1⟩⟩⟩
    rintro (z | ⟨j, z⟩)
    · exact (R.own i a o1).2.1 z
    · obtain ⟨n, z⟩ := drop_own z
      exact n (R.inj j i a z o1)
  · next y e =>
    obtain ⟨v, e1, r⟩ := R.sl i y e
    exact ⟨v, e1, PoS.now R k v _ noTb r⟩
  · next j e =>
    obtain ⟨a, e1, e2⟩ := R.ob i j e
    exact ⟨_, e2, PoS.now R k _ _ noTb ⟨a, e1, rfl⟩⟩
  · exact k.elim
theorem snd_retn {pos : Pos} : PS X (.Return none pos) (tS X.K q W .retn) := PS.imp ps_retN fun D σ H ⟨p, g, s, R, k⟩ => by unfold ex at k; exact PoS.now R k _ _ noTb .non
theorem snd_exp {e : E} {v : Expr} {pos : Pos} (hn : notComp v = true) (h : PE X v (tE X.K q W e)) : PS X (.Expr v pos) (tS X.K q W (.exp e)) := by
  refine PS.imp (ps_expr h (swaps' hn)) fun D σ H ⟨p, g, s, R, k⟩ => ⟨p, g, s, R, ?_⟩
  unfold ex at k
  exact Post.mono (PoS.bindE k) fun a g1 s1 H1 _ R1 t1 k v hv => PoS.now R1 k
theorem snd_pass {pos : Pos} : PS X (.Pass pos) (tS X.K q W .pass) := PS.imp ps_pass fun D σ H ⟨p, g, s, R, k⟩ => by unfold ex at k; exact PoS.now R k
theorem snd_cont {pos : Pos} : PS X (.Continue pos) (tS X.K q W .cont) := PS.imp ps_continue fun D σ H ⟨p, g, s, R, k⟩ => by unfold ex at k; exact PoS.now R k
theorem snd_brk {pos : Pos} : PS X (.Break pos) (tS X.K q W .brk) := PS.imp ps_break fun D σ H ⟨p, g, s, R, k⟩ => by unfold ex at k; exact PoS.now R k
theorem snd_ife {c : E} {a b : T} {t : Expr} {s1 s2 : List Stmt} {pos : Pos} (hc : PT X t (tT X.K q W c)) (ha : PSs X s1 (tS X.K q W a)) (hb : PSs X s2 (tS X.K q W b)) : PS X (.If t s1 s2 pos) (tS X.K q W (.ife c a b)) := by
  refine PS.imp (ps_if hc ha hb) fun D σ H ⟨p, g, s, R, k⟩ => ⟨p, g, s, R, ?_⟩
  unfold ex at k
  refine Post.mono (PoS.bindE k) fun d g1 s1 H1 _ R1 t1 k => ?_
  cases d with
  | true => exact L2.iteT ⟨p, g1, s1, R1, k⟩
  | false => exact L2.iteF ⟨p, g1, s1, R1, k⟩
theorem snd_whl (C : CO q X W sc N) {c : E} {b : T} {t : Expr} {s1 : List Stmt} {pos : Pos} (hc : PT X t (tT X.K q W c)) (hb : PSs X s1 (tS X.K q W b)) : PS X (.While t s1 [] pos) (tS X.K q W (.whl c b)) := by
  refine PS.imp (ps_while C.po hc hb) fun D σ H ⟨p, g, s, R, k⟩ => ?_
  unfold ex at k
  refine ⟨fun m σ H => ∃ g s, RS (FX X.K q p) g s σ H ∧ PoS (FX X.K q p) W g H (whileN (evT c) (fun s => ex b s) m s) D, ⟨FUEL, g, s, R, k⟩, ?_⟩
  rintro m σ H ⟨g, s, R, k⟩
  cases m with
  | zero => exact k.elim
  | succ m =>
    unfold whileN at k
    refine ⟨p, g, s, R, Post.mono (PoS.bindE k) fun d g1 s1 H1 _ R1 t1 k => ?_⟩
    cases d with
    | false => exact L2.iteF (PoS.now R1 k)
    | true =>
      refine L2.iteT ⟨fun σ H => ∃ g s, RS (FX X.K q p) g s σ H ∧ PoS (FX X.K q p) W g H (whileN (evT c) (fun s => ex b s) m s) D, fun σ' H' h => ⟨m, Nat.lt_succ_self _, h⟩, p, g1, s1, R1, ?_⟩
      rw [if_pos rfl] at k
      cases e : ex b s1 with
      | bad => rw [e] at k; exact k
      | exc x s2 => rw [e] at k; exact k
      | ok fl s2 =>
        rw [e] at k
        intro g2 σ2 H2 R2 t2
        cases fl with
        | nxt => exact ⟨g2, s2, R2, PoS.shift t2 k⟩
        | cnt => exact ⟨g2, s2, R2, PoS.shift t2 k⟩
        | brk => exact k g2 σ2 H2 R2 t2
        | ret v => exact k g2 σ2 H2 R2 t2
/-- a turn of a for -/
def turnF (t : Tg) (b : T) (ks : List Nat) (x : D) (s : State) : R State Flow := (asg t (.sh x) s).bind fun _ s2 => (ex b s2).bind fun f s3 => (match f with
      | .nxt => .ok .nxt (wipeS ks s3)
      | .cnt => .ok .nxt (wipeS ks s3)
      | .brk => .ok .brk s3
      | .ret v => .ok (.ret v) s3)
theorem snd_for (C : CO q X W sc N) {t : Tg} {it : E} {b : T} {ks : List Nat} {tg e : Expr} {s1 : List Stmt} {pos : Pos} (hs : notSet e = true) (hi : PI X tg e (tI X.K q W it)) (hg : PG X tg (gT X.K t)) (hb : PSs X s1 (tS X.K q W b)) : PS X (.For tg e s1 [] pos) (tS X.K q W (.for t it b ks)) := by
  refine PS.imp (ps_for C.po C.calm hi hg hb (folded' hs)) fun D σ H ⟨p, g, s, R, k⟩ => ⟨p, g, s, R, ?_⟩
  unfold ex at k
  refine Post.mono (PoS.bindE k) fun xs g1 s1 H1 _ R1 t1 k J hJ => ?_
  have k : PoS (FX X.K q p) W g1 H1 (forL (turnF t b ks) xs s1) D := k
  refine ⟨fun i m σ' Hc => m = xs.length - i ∧ i ≤ xs.length ∧ ∃ g2 s2, RS (FX X.K q p) g2 s2 σ' Hc ∧ Stp (FX X.K q p) g1 H1 g2 Hc ∧ PoS (FX X.K q p) W g2 Hc (forL (turnF t b ks) (xs.drop i) s2) D, ⟨xs.length, by simp, Nat.zero_le _, g1, s1, R1, .refl, k⟩, ?_⟩
  rintro i m σ' Hc ⟨rfl, hi, g2, s2, R2, t2, k⟩
  have kj := R1.kp t2
  obtain ⟨j1, j2⟩ := hJ i _ Hc kj
  by_cases hlt : i < xs.length
  · rw [List.drop_eq_getElem_cons hlt] at k
    obtain ⟨go, yl⟩ := j1 xs[i] (List.getElem?_eq_getElem hlt)
    refine .inr ⟨go, fun σ' Hc => ∃ g2 s2, RS (FX X.K q p) g2 s2 σ' Hc ∧ Stp (FX X.K q p) g1 H1 g2 Hc ∧ PoS (FX X.K q p) W g2 Hc (forL (turnF t b ks) (xs.drop (i + 1)) s2) D, fun σ' H' h => ⟨xs.length - (i + 1), by omega, rfl, hlt, h⟩, fun v H' y => ?_⟩
    obtain ⟨gr, rv⟩ := ItY.to (F := FX X.K q p) (F' := FX X.K q p) (g := g1) (g2 := g2) rfl kj R2.rd2 (yl v H' y)
    have R3 := R2.grow gr.same
    have t3 : Stp (FX X.K q p) g2 Hc g2 H' := (gr_stE gr).stp
    unfold forL turnF at k
    cases ea : asg t (.sh xs[i]) s2 with
    | bad => rw [ea] at k; exact k.elim
    | exc y s6 =>
      cases t with
      | one i => cases ea
      | many is =>
        unfold asg at ea
        dsimp only at ea
        split at ea <;> first | (cases ea; done) | skip
        all_goals (split at ea <;> cases ea)
    | ok u s6 =>
      rw [ea] at k
      refine asg_sh R3 rv ea fun g6 σ6 R6 u6 w6 => ⟨p, g6, s6, R6, ?_⟩
      have t6 : Stp (FX X.K q p) g2 Hc g6 H' := t3.trans u6.stp
      have k : PoS (FX X.K q p) W g2 Hc (MI.R.bind (σ := State) (β := MI.Flow) (MI.R.bind (σ := State) (β := MI.Flow) (ex b s6) fun f s3 => (match f with
        | .nxt => .ok .nxt (wipeS ks s3)
        | .cnt => .ok .nxt (wipeS ks s3)
        | .brk => .ok .brk s3
        | .ret v => .ok (.ret v) s3)) fun k s1 => (match k with
        | .nxt => forL (turnF t b ks) (xs.drop (i + 1)) s1
        | .cnt => forL (turnF t b ks) (xs.drop (i + 1)) s1
        | .brk => .ok .nxt s1
        | .ret v => .ok (.ret v) s1)) D := k
      have k := k.shift t6
      cases e : ex b s6 with
      | bad => rw [e] at k; exact k
      | exc x s7 => rw [e] at k; exact k
      | ok fl s7 =>
        rw [e] at k
        intro g7 σ7 H7 R7 t7
        cases fl with
        | nxt => exact ⟨g7, wipeS ks s7, R7.kill ks, t2.trans (t6.trans t7), PoS.shift t7 k⟩
        | cnt => exact ⟨g7, wipeS ks s7, R7.kill ks, t2.trans (t6.trans t7), PoS.shift t7 k⟩
        | brk => exact k g7 σ7 H7 R7 t7
        | ret v => exact k g7 σ7 H7 R7 t7
  · have : i = xs.length := by omega
    subst this
    refine .inl ⟨j2 (Nat.le_refl _), ?_⟩
    rw [List.drop_length] at k
    exact PoS.now R2 k
end
end MI

namespace MI
open PySem L2

/-! ### stores -/
section
variable {F : Fx} {g g1 : G} {s s1 : State} {σ : L2.St} {H H1 : Hp} {W : L2.WX}
def G.put (g : G) (i : Nat) (a : Addr) : G := ⟨fun j => if j = i then some a else g.own j, g.m⟩
theorem put_own {i j : Nat} {a b : Addr} (h : (g.put i a).own j = some b) : (j = i ∧ b = a) ∨ (j ≠ i ∧ g.own j = some b) := by
  have h' : (if j = i then some a else g.own j) = some b := h
  split at h'
  · next e => cases h'; exact .inl ⟨e, rfl⟩
  · next e => exact .inr ⟨e, h'⟩
theorem put_pp {i : Nat} {a b : Addr} (h : PP F (g.put i a) b) : b = a ∨ PP F g b := by
  rcases h with h | ⟨j, h⟩
  · exact .inr (.inl h)
  · rcases put_own h with ⟨_, e⟩ | ⟨_, e⟩
    · exact .inl e
    · exact .inr (.inr ⟨j, e⟩)
/-- a fresh list goes to a slot that owns it from now on -/
theorem RS.setO (R : RS F g s σ H) (t : StE g H g1 H1) (R1 : RS F g1 s1 σ H1) (sub : Sub s s1) {i : Nat} {a : Addr} {x : D} (ha : H a = none) (hn : ¬ PP F g1 a) (ho : Own F.K H1 (fun b => PP F g1 b ∨ b = a) a x) :
    RS F (g1.put i a) ⟨s1.r.set i (.v x true), s1.S⟩ (σ.set i (some (.ref a))) H1 ∧ Stp F g H (g1.put i a) H1 := by
  -- what was there ahead does not reach a
  have k : Kp (PP F g) g.m H (PP F (g1.put i a)) H1 := ⟨R.ld, R.ins, fun b o h _ n nt => t.keep b o h n nt, fun b o h n z => (put_pp z).elim (fun z => by rw [z, ha] at h; cases h) fun z => n (t.pp z)⟩
  have lda : ∃ o, H1 a = some o ∧ isLD o := by
    cases x <;> first | exact ho.elim | (obtain ⟨xs, h1, _⟩ := ho; exact ⟨_, h1, trivial⟩)
  have np0 : ¬ F.P0 a := fun z => hn (.inl z)
  have keepL : ∀ {b : Addr} {o : HO}, isLD o → H b = some o → H1 b = some o := fun {b o} l h => t.keep b o h (notIns R.ins h (ld_ni l)) (ld_nt l)
  have old : ∀ (j : Nat) (y : D) (b : Bool), s1.r[j]? = some (.v y b) → ∃ c, s.r[j]? = some (.v y c) ∧ (b = true → c = true) := fun j y b e => by
    rcases sub j _ e with q | q | ⟨z, q1, q2⟩
    · cases q
    · exact ⟨b, q, id⟩
    · cases q1; exact ⟨true, q2, fun _ => rfl⟩
  refine ⟨⟨by simp [R1.len], fun j y e => ?_, fun j y e => ?_, fun j n e => ?_, fun j ks e => ?_, fun j l b h1 h2 => ?_, fun j b e => ?_, R1.p0, R1.k0, R1.d0, R1.tb, R1.i0, R1.pre, R1.st.any⟩, fun b o h _ n nt => t.keep b o h n nt, t.tb, t.dom, k.np, t.pre⟩
  · rcases get_set e with ⟨rfl, e1, hl⟩ | ⟨n, e1⟩
    · cases e1
    · obtain ⟨v, h1, _⟩ := R1.sl j y e1
      obtain ⟨c, h2, _⟩ := old j y _ e1
      refine ⟨v, by rw [List.getElem?_set_ne n]; exact h1, ?_⟩
      cases c with
      | false =>
        obtain ⟨v', h3, h4⟩ := R.sl j y h2
        rw [h1] at h3; cases h3
        exact h4.mono k
      | true =>
        obtain ⟨b, h3, h4, h5⟩ := R.ow j y h2
        rw [h1] at h4; cases h4
        refine own_rp (h5.mono k fun o l z => keepL l z) fun z => ?_
        rcases put_pp z with z | z
        · obtain ⟨_, _, o, h6, _⟩ := R.own j b h3
          rw [z, ha] at h6; cases h6
        · have := R1.sl j y e1
          obtain ⟨v', h7, h8⟩ := this
          rw [h1] at h7; cases h7
          cases y <;> first | exact h5.elim | skip
          · cases h8 with | lst _ n _ => exact n z
          · cases h8 with | dct _ n _ _ => exact n z
          · cases h8 with | dci _ n _ _ => exact n z
  · rcases get_set e with ⟨rfl, e1, hl⟩ | ⟨n, e1⟩
    · cases e1
      refine ⟨a, if_pos rfl, List.getElem?_set_self (by rw [← R1.len]; exact hl), ?_⟩
      exact ho.anti fun b z => (put_pp z).symm
    · obtain ⟨b, h1, h2, _⟩ := R1.ow j y e1
      obtain ⟨c, h3, hc⟩ := old j y _ e1
      cases hc rfl
      obtain ⟨b', h4, h5, h6⟩ := R.ow j y h3
      rw [h2] at h5; cases h5
      exact ⟨b, (if_neg (Ne.symm n)).trans h1, by rw [List.getElem?_set_ne n]; exact h2, h6.mono k fun o l z => keepL l z⟩
  · rcases get_set e with ⟨rfl, e1, hl⟩ | ⟨n', e1⟩
    · cases e1
    · obtain ⟨b, h1, h2⟩ := R1.ob j n e1
      exact ⟨b, h1, by rw [List.getElem?_set_ne n']; exact h2⟩
  · rcases get_set e with ⟨rfl, e1, hl⟩ | ⟨n', e1⟩
    · cases e1
    · obtain ⟨v, h1, h2⟩ := R1.dc j ks e1
      exact ⟨v, by rw [List.getElem?_set_ne n']; exact h1, h2⟩
  · rcases put_own h1 with ⟨e1, q1⟩ | ⟨e1, q1⟩ <;> rcases put_own h2 with ⟨e2, q2⟩ | ⟨e2, q2⟩
    · rw [e1, e2]
    · subst q1; exact absurd (.inr ⟨l, q2⟩) hn
    · subst q2; exact absurd (.inr ⟨j, q1⟩) hn
    · exact R1.inj j l b q1 q2
  · rcases put_own e with ⟨e1, q1⟩ | ⟨e1, q1⟩
    · subst q1; exact ⟨R.h0 ha, np0, lda⟩
    · exact R1.own j b q1
theorem RS.setB (R : RS F g s σ H) {i j : Nat} {a : Addr} (h : g.m[j]? = some a) : RS F (g.drop i) ⟨s.r.set i (.o j), s.S⟩ (σ.set i (some (.ref a))) H := by
  have k := kp_drop R i
  refine R.re rfl rfl (by simp [R.len]) (fun _ _ h => (drop_own h).2) (fun l y e => ?_) (fun l y e => ?_) (fun l n e => ?_) (fun j ks e => by rcases get_set e with ⟨rfl, q, _⟩ | ⟨n, q⟩ <;> first | (cases q; done) | (obtain ⟨v, h1, h2⟩ := R.dc j ks q; exact ⟨v, by rw [List.getElem?_set_ne n]; exact h1, h2⟩))
  · rcases get_set e with ⟨rfl, e1, hl⟩ | ⟨n, e1⟩
    · cases e1
    · obtain ⟨u, h1, h2⟩ := R.sl l y e1
      exact ⟨u, by rw [List.getElem?_set_ne n]; exact h1, h2.mono k⟩
  · rcases get_set e with ⟨rfl, e1, hl⟩ | ⟨n, e1⟩
    · cases e1
    · obtain ⟨b, h1, h2, h3⟩ := R.ow l y e1
      exact ⟨b, (if_neg (Ne.symm n)).trans h1, by rw [List.getElem?_set_ne n]; exact h2, h3.mono k fun _ _ z => z⟩
  · rcases get_set e with ⟨rfl, e1, hl⟩ | ⟨n', e1⟩
    · cases e1
      exact ⟨a, h, List.getElem?_set_self (by rw [← R.len]; exact hl)⟩
    · obtain ⟨b, h1, h2⟩ := R.ob l n e1
      exact ⟨b, h1, by rw [List.getElem?_set_ne n']; exact h2⟩
/-- a value goes to a target -/
theorem asg_any (R : RS F g s σ H) (t : StE g H g1 H1) (R1 : RS F g1 s1 σ H1) (sub : Sub s s1) {tg : Tg} {v : V} {r : EV} {s2 : State} (hv : EVR F g1 H H1 v r) (e : asg tg r s1 = .ok () s2) {Q : L2.St → Hp → Prop}
    (k : ∀ g2 σ2, RS F g2 s2 σ2 H1 → Stp F g H g2 H1 → Q σ2 H1) : gT F.K tg v σ H1 Q := by
  cases tg with
  | one i =>
    cases r with
    | sh x => cases e; exact k _ _ (R1.setS (i := i) (Rp.mono (kp_drop R1 i) hv)) (t.trans stE_drop).stp
    | fr x =>
      cases e
      obtain ⟨a, rfl, h1, h2, h3⟩ := hv
      obtain ⟨z1, z2⟩ := RS.setO R t R1 sub (i := i) h1 h2 h3
      exact k _ _ z1 z2
    | bo x => cases e
    | ft x y => cases e
    | ob j =>
      cases e
      obtain ⟨a, h1, rfl⟩ := hv
      exact k _ _ (R1.setB h1) (t.trans stE_drop).stp
  | many is =>
    have fin : ∀ {xs : List D} {us : List V}, RpA F.K H1 (PP F g1) us xs → (if xs.length = is.length then (MI.R.ok () ⟨MI.setMany is xs s1.r, s1.S⟩ : MI.R State Unit) else MI.R.bad) = MI.R.ok () s2 → us.length = is.length ∧ Q (setV is us σ) H1 := fun {xs us} r e => by
      split at e
      · next hl =>
        cases e
        have hu : us.length = is.length := r.length.trans hl
        obtain ⟨g', R', t'⟩ := R1.setMany r hu
        exact ⟨hu, k g' _ R' (t.trans t').stp⟩
      · cases e
    unfold asg at e
    dsimp only at e
    cases ed : r.dat with
    | none => rw [ed] at e; cases e
    | some x =>
      rw [ed] at e
      have hw := hv.vw ed
      cases x <;> first | (cases e; done) | skip
      · rename_i cs
        cases hw.str
        dsimp only at e
        split at e
        · next hl =>
          obtain ⟨l1, l2⟩ := ba hl
          cases e
          have hu : (chars cs).length = is.length := by unfold chars; rw [List.length_map]; exact dec l2
          obtain ⟨g', R', t'⟩ := R1.setMany (rp_chars cs) hu
          exact .inr ⟨_, rfl, by simpa using l1, by simpa using dec l2, hu, k g' _ R' (t.trans t').stp⟩
        · cases e
      · obtain ⟨a, us, rfl, h1, r⟩ := hw.tup
        obtain ⟨z1, z2⟩ := fin r e
        exact .inl (.inl ⟨a, us, rfl, h1, z1, z1, z2⟩)
      · obtain ⟨a, us, rfl, h1, r⟩ := hw.lst
        obtain ⟨z1, z2⟩ := fin r e
        exact .inl (.inr ⟨a, us, rfl, .of h1, z1, z1, z2⟩)
end
section
variable {q : Bs} {X : Cx} {W : L2.WX} {sc : Scope} {N : List Str}
theorem asg_bad {t : Tg} {r : EV} {s : State} (h : ∀ s2, asg t r s ≠ .ok () s2) : asg t r s = .bad := by
  cases e : asg t r s with
  | bad => rfl
  | ok u s2 => exact absurd e (h s2)
  | exc x s2 =>
    cases t with
    | one i => cases r <;> cases e
    | many is =>
      unfold asg at e
      dsimp only at e
      split at e <;> first | (cases e; done) | skip
      all_goals (split at e <;> cases e)
theorem PoS.bindE0 {α : Type} {F : Fx} {W : L2.WX} {g : G} {σ : L2.St} {H : Hp} {r : R State α} {f : α → State → R State Flow} {D : Ends} (h : PoS F W g H (r.bind f) D) : Post F W g σ H r fun a _ s1 _ => PoS F W g H (f a s1) D := by
  cases r with
  | bad => exact h
  | exc e s1 => exact fun g1 H1 C d R1 t1 => h g1 σ H1 C d R1 t1.stp
  | ok a s1 => exact fun g1 H1 R1 t1 => h
/-- target = value, by the reading -/
theorem set_reads {K : PySem.W.Frag} {t : Tg} {e : E} (T : Tidy e) {D : Ends} {σ : L2.St} {H : Hp} (h : tS K q W (.set t e) D σ H) : tAsg (tE K q W e) (gT K t) D σ H := by
  obtain ⟨p, g, s, R, k⟩ := h
  refine ⟨p, g, s, R, ?_⟩
  unfold ex at k
  refine Post.mono (PoS.bindE0 k) fun a g1 s1 H1 ee R1 t1 k v hv => ?_
  have sub : Sub s s1 := by have := (ev_sub e).e T s; rw [ee] at this; exact this
  cases ea : asg t a s1 with
  | bad => rw [ea] at k; exact k.elim
  | exc x s2 => rw [asg_bad (fun s2 z => by rw [ea] at z; cases z)] at ea; cases ea
  | ok u s2 =>
    rw [ea] at k
    exact asg_any (F := FX K q p) R t1 R1 sub hv ea fun g2 σ2 R2 t2 => k g2 σ2 H1 R2 t2
end
end MI

namespace MI
open PySem L2

section
variable {F : Fx} {g : G} {s : State} {σ : L2.St} {H : Hp}
/-- what slot i owns is rewritten -/
theorem RS.rewO (R : RS F g s σ H) {i : Nat} {x y : D} {u : HO} {a : Addr} (e : s.r[i]? = some (.v x true)) (ha : g.own i = some a) (lu : isLD u) (hn : Kp (PP F g) g.m H (PP F g) (upd H a u) → Own F.K (upd H a u) (PP F g) a y) :
    RS F g ⟨s.r.set i (.v y true), s.S⟩ σ (upd H a u) ∧ Stp F g H g (upd H a u) := by
  obtain ⟨a', e1, e2, e3⟩ := R.ow i _ e
  rw [ha] at e1; cases e1
  obtain ⟨f0, f1, o, f2, f3⟩ := R.own i a ha
  have pa : PP F g a := .inr ⟨i, ha⟩
  have kk : ∀ (b : Addr) (o : HO), H b = some o → b ≠ a → upd H a u b = some o := fun b o h n => by rw [upd_ne n]; exact h
  have k : Kp (PP F g) g.m H (PP F g) (upd H a u) := ⟨R.ld, R.ins, fun b o h n _ _ => kk b o h (fun z => n (z ▸ pa)), fun _ _ _ n => n⟩
  have nins : ∀ {b : Addr} {o : HO}, H b = some o → isIns o → b ≠ a := fun {b o} h n z => by
    rw [z, f2] at h; cases h
    exact ld_ni f3 n
  have t : Stp F g H g (upd H a u) := by
    refine ⟨fun b o h n _ _ => kk b o h (fun z => n (z ▸ pa)), fun c n t => tab_upd f2 (.inl f3) t, fun b o h => ?_, fun _ _ _ n => n, [], by simp, by simp⟩
    by_cases z : b = a
    · exact ⟨_, by rw [z]; exact upd_same⟩
    · exact ⟨o, kk b o h z⟩
  refine ⟨⟨by simp [R.len], fun j y e => ?_, fun j y e => ?_, fun j n e => ?_, fun j ks e => ?_, R.inj, fun j b e => ?_, fun b e => ?_, fun b o h n nt => ?_, fun b o h => ?_, fun p hp => tab_upd f2 (.inl f3) (R.tb p hp), R.i0, R.pre, R.st.nd, R.st.len, fun j o e => ?_⟩, t⟩
  · rcases get_set e with ⟨rfl, q, _⟩ | ⟨n, q⟩
    · cases q
    · obtain ⟨v, h1, h2⟩ := R.sl j y q
      exact ⟨v, h1, h2.mono k⟩
  · rcases get_set e with ⟨rfl, q, _⟩ | ⟨n, q⟩
    · cases q
      exact ⟨a, ha, e2, hn k⟩
    · obtain ⟨b, h1, h2, h3⟩ := R.ow j y q
      refine ⟨b, h1, h2, h3.mono k fun o l z => kk b o z fun w => n ?_⟩
      subst w
      exact R.inj i j b ha h1
  · rcases get_set e with ⟨rfl, q, _⟩ | ⟨n', q⟩
    · cases q
    · exact R.ob j n q
  · rcases get_set e with ⟨rfl, q, _⟩ | ⟨n', q⟩
    · cases q
    · obtain ⟨v, h1, h2⟩ := R.dc j ks q
      exact ⟨v, h1, h2.mono k⟩
  · obtain ⟨h1, h2, o, h3, h4⟩ := R.own j b e
    by_cases z : b = a
    · exact ⟨h1, h2, u, by rw [z]; exact upd_same, lu⟩
    · exact ⟨h1, h2, o, kk b o h3 z, h4⟩
  · obtain ⟨o, h3, h4⟩ := R.p0 b e
    exact ⟨o, kk b o h3 fun z => f1 (z ▸ e), h4⟩
  · exact kk b o (R.k0 b o h n nt) fun z => by rw [z, f0] at h; cases h
  · by_cases z : b = a
    · exact ⟨_, by rw [z]; exact upd_same⟩
    · obtain ⟨o1, e1⟩ := R.d0 b o h
      exact ⟨o1, kk b o1 e1 z⟩
  · obtain ⟨b, dx, ws, e1, e2, r⟩ := R.st.at_ j o e
    exact ⟨b, dx, ws, e1, kk b _ e2 (nins e2 trivial), r.mono k⟩
/-- the list that slot i owns is rewritten -/
theorem RS.rew (R : RS F g s σ H) {i : Nat} {xs ys : List D} {vs : List V} {a : Addr} (e : s.r[i]? = some (.v (.lst xs) true)) (ha : g.own i = some a) (r : RpA F.K H (PP F g) vs ys) :
    RS F g ⟨s.r.set i (.v (.lst ys) true), s.S⟩ σ (upd H a (.lst vs)) ∧ Stp F g H g (upd H a (.lst vs)) :=
  R.rewO e ha trivial fun k => ⟨vs, upd_same, r.mono k⟩
theorem lstAt_of {i : Nat} (h : lstAt i s = true) : ∃ xs b, s.r[i]? = some (.v (.lst xs) b) := by
  unfold lstAt at h
  split at h
  · exact ⟨_, _, by assumption⟩
  · cases h
theorem wrL_of {i : Nat} {f : List D → Option (List D)} {W : L2.WX} {g' : G} {H' : Hp} {Dn : Ends} (R : RS F g s σ H) (k : PoS F W g' H' (wrL i f s) Dn) :
    ∃ xs vs ys a, s.r[i]? = some (.v (.lst xs) true) ∧ f xs = some ys ∧ g.own i = some a ∧ σ[i]? = some (some (.ref a)) ∧ H a = some (.lst vs) ∧ RpA F.K H (PP F g) vs xs ∧ PoS F W g' H' (.ok .nxt ⟨s.r.set i (.v (.lst ys) true), s.S⟩) Dn := by
  unfold wrL at k
  split at k
  · next xs e =>
    split at k
    · next ys e2 =>
      obtain ⟨a, h1, h2, vs, h3, h4⟩ := R.ow i _ e
      exact ⟨xs, vs, ys, a, e, e2, h1, h2, h3, h4, k⟩
    · exact k.elim
  · exact k.elim
end
section
variable {q : Bs} {X : Cx} {W : L2.WX} {sc : Scope} {N : List Str}
theorem PS.ofOk {st : Stmt} {t : TS} (h : X.Ok → PS X st t) : PS X st t := ⟨fun pins s σ H D I k => (h I.ok).run pins s σ H D I k⟩
theorem chk_lc {e : E} {elt : Expr} {gens : List Comprehension} {scope : Scope} {pos : Pos} (h : chkE q N sc e (.ListComp elt gens scope pos) = true) : ∃ vs t it c el, e = .com vs t it c el := by
  cases e <;> first | exact ⟨_, _, _, _, _, rfl⟩ | exact no h | (rename_i u _; cases u <;> exact no h) | (unfold chkE at h; exact no (ba h).1)
theorem lc_now {y : Str} {py : Pos} {v : Expr} (h : lcNow sc y py v = true) : ∃ elt gens scope pos, v = .ListComp elt gens scope pos ∧ sc.names.lookup y = some .local ∧ (py.line == pos.line) = true ∧ (!(scope.names.any fun (n, k) => n == y && (k == .local || k == .cell))) = true := by
  cases v <;> first | exact no h | skip
  rename_i elt gens scope pos
  obtain ⟨k4, k6⟩ := ba (show (decide (sc.names.lookup y = some .local) && (py.line == pos.line) && !(scope.names.any fun (n, k) => n == y && (k == .local || k == .cell))) = true from h)
  obtain ⟨k4, k5⟩ := ba k4
  exact ⟨elt, gens, scope, pos, rfl, dec k4, k5, k6⟩
theorem sw_lc {env : Env} {y : Str} {py : Pos} {l : Nat} {elt : Expr} {gens : List Comprehension} {scope : Scope} {pos : Pos} (hb : env.blockKind = .function) : swapsWith (.ListComp elt gens scope pos) (some (.Name y py)) l env =
    pure (decide (env.scope.names.lookup y = some .local) && (py.line == pos.line) && !(scope.names.any fun (n, k) => n == y && (k == .local || k == .cell))) := by
  unfold swapsWith
  dsimp only
  rw [hb]
  show pure (_ && _ && _ && _) = _
  congr 1
  have : (env.kindOf y == some NameKind.local) = decide (env.scope.names.lookup y = some .local) := by
    unfold Env.kindOf
    by_cases z : env.scope.names.lookup y = some .local
    · rw [z]; decide
    · rw [decide_eq_false z, beq_eq_false_iff_ne]; exact z
  rw [this]
  rfl
theorem lc_late {env : Env} {y : Str} {py : Pos} {l : Nat} {v : Expr} (hb : env.blockKind = .function) (h : lcLate env.scope y py v = true) : swapsWith v (some (.Name y py)) l env = pure false := by
  cases v <;> first | rfl | exact no h | skip
  rw [sw_lc hb]
  congr 1
  exact (Bool.not_eq_true' _).mp h
theorem snd_set (C : CO q X W sc N) (hf : ∀ x, X.fn x = true) {t : Tg} {e : E} {st : Stmt} (G : GoodE (gdX X.prog X.w X.K X.mg X.base q) e) (h : chkS q N sc (.set t e) st = true) : PS X st (tS X.K q W (.set t e)) := by
  refine PS.ofOk fun ok => ?_
  have hb : X.env.blockKind = .function := by unfold Env.blockKind; rw [ok.kind]; rfl
  unfold chkS at h
  split at h
  · rename_i y py v pos
    obtain ⟨h, k4⟩ := ba h
    obtain ⟨h, k3⟩ := ba h
    obtain ⟨k1, k2⟩ := ba h
    have T := tdy_ok k2
    cases t with
    | many is => exact no k1
    | one i =>
      obtain ⟨l1, l2, l3⟩ := C.loc (d := true) (fun _ => hf) (show MI.loc true N sc i y = true from k1)
      rcases (Bool.or_eq_true _ _).mp k4 with k4 | k4
      · obtain ⟨elt, gens, scope, vpos, rfl, z1, z2, z3⟩ := lc_now k4
        obtain ⟨vs, t', it, c, el, rfl⟩ := chk_lc k3
        have yl : X.env.scope.names.lookup y = some .local := by rw [C.hsc]; exact z1
        obtain ⟨_, _, _, _, _, _, e1, _, r⟩ := snd_comE C (sndAll q it) (sndAll q c) (sndAll q el) G k3
        refine PS.imp (r (i := i) (py := py) (spos := pos) l1 yl ?_) fun D σ H k => set_reads T k
        rw [sw_lc hb, decide_eq_true yl, z2, z3]
        rfl
      · exact PS.imp (ps_set (by rw [C.hN]; exact C.nd) l1 l2 ((sndAll q e).e C G k3).1 (lc_late hb (by rw [C.hsc]; exact k4)) l3) fun D σ H k => set_reads T k
  · rename_i es k p v pos
    obtain ⟨h, k5⟩ := ba h
    obtain ⟨h, k3⟩ := ba h
    obtain ⟨k1, k2⟩ := ba h
    refine PS.imp (ps_asg ((sndAll q e).e C G k3).1 (snd_tg C (d := true) (fun _ => hf) k1) (by unfold swapsWithSole; cases v <;> rfl) ?_) fun D σ H k => set_reads (tdy_ok k2) k
    unfold swappedStores
    cases v <;> first | rfl | exact no k5
  · exact no h
theorem ex_par (is : List Nat) (as : E) (s : State) : ex (.par is as) s = ex (.set (.many is) (.tup as)) s := by
  unfold ex
  simp only [ev]
  cases evA as s with
  | bad => rfl
  | exc e s1 => rfl
  | ok vs s1 =>
    unfold R.bind
    dsimp only
    cases dats vs with
    | none => rfl
    | some xs =>
      show (if _ then _ else _) = MI.R.bind (asg (.many is) (.sh (.tup xs)) s1) _
      unfold asg
      dsimp only [EV.dat]
      by_cases z : xs.length = is.length
      · rw [if_pos z, if_pos z]; rfl
      · rw [if_neg z, if_neg z]; rfl
theorem swYes_ok {es vs : List Expr} (h : swYes sc es vs = true) : vs.length = es.length ∧ (swN sc es).length = es.length := by
  unfold swYes at h
  obtain ⟨h, h7⟩ := ba h
  obtain ⟨h, h6⟩ := ba h
  obtain ⟨h, h5⟩ := ba h
  obtain ⟨h, h4⟩ := ba h
  obtain ⟨h, h3⟩ := ba h
  obtain ⟨h1, h2⟩ := ba h
  exact ⟨beq_iff_eq.mp h2, beq_iff_eq.mp h4⟩
theorem ns_cons {d : Bool} {i : Nat} {is : List Nat} {e : Expr} {es : List Expr} (h : chkNs d N sc (i :: is) (e :: es) = true) : ∃ x p, e = .Name x p ∧ loc d N sc i x = true ∧ chkNs d N sc is es = true := by
  cases e <;> first | exact no h | exact ⟨_, _, rfl, ba h⟩
theorem len_two {α : Type} {xs : List α} (h : xs.length = 2) : ∃ a b, xs = [a, b] := by
  match xs, h with
  | [a, b], _ => exact ⟨a, b, rfl⟩
theorem len_three {α : Type} {xs : List α} (h : xs.length = 3) : ∃ a b c, xs = [a, b, c] := by
  match xs, h with
  | [a, b, c], _ => exact ⟨a, b, c, rfl⟩
theorem par_two {i j : Nat} {es vs : List Expr} (h : swYes sc es vs = true) (k : chkNs true N sc [i, j] es = true) : ∃ x y px py a b, es = [.Name x px, .Name y py] ∧ vs = [a, b] ∧ loc true N sc i x = true ∧ loc true N sc j y = true ∧ sc.names.lookup x = some .local ∧ sc.names.lookup y = some .local ∧ swN sc es = [x, y] := by
  obtain ⟨h2, h4⟩ := swYes_ok h
  clear h
  have l := chkNs_len k
  match es, l, k, h4, h2 with
  | [ex, ey], _, k, h4, h2 =>
    obtain ⟨x, px, rfl, k1, k⟩ := ns_cons k
    obtain ⟨y, py, rfl, k2, _⟩ := ns_cons k
    have hv : vs.length = 2 := by simpa using h2
    match vs, hv with
    | [a, b], _ =>
      refine ⟨x, y, px, py, a, b, rfl, rfl, k1, k2, ?_⟩
      have h4 : (swN sc [.Name x px, .Name y py]).length = 2 := by simpa using h4
      unfold swN at h4 ⊢
      simp only [List.filterMap_cons, List.filterMap_nil] at h4 ⊢
      by_cases z1 : (sc.names.lookup x == some NameKind.local && px.line == ((List.head? [Expr.Name x px, Expr.Name y py]).map (·.pos.line)).getD 0) = true <;> by_cases z2 : (sc.names.lookup y == some NameKind.local && py.line == ((List.head? [Expr.Name x px, Expr.Name y py]).map (·.pos.line)).getD 0) = true <;> simp only [z1, z2, if_true, Bool.false_eq_true, if_false] at h4 ⊢ <;> first | (simp at h4; done) | skip
      exact ⟨beq_iff_eq.mp (ba z1).1, beq_iff_eq.mp (ba z2).1, by first | rfl | trivial⟩
theorem par_three {i j l : Nat} {es vs : List Expr} (h : swYes sc es vs = true) (k : chkNs true N sc [i, j, l] es = true) : ∃ x y z px py pz a b c, es = [.Name x px, .Name y py, .Name z pz] ∧ vs = [a, b, c] ∧ loc true N sc i x = true ∧ loc true N sc j y = true ∧ loc true N sc l z = true ∧ sc.names.lookup x = some .local ∧ sc.names.lookup y = some .local ∧ sc.names.lookup z = some .local ∧ swN sc es = [x, y, z] := by
  obtain ⟨h2, h4⟩ := swYes_ok h
  clear h
  have le := chkNs_len k
  match es, le, k, h4, h2 with
  | [ex, ey, ez], _, k, h4, h2 =>
    obtain ⟨x, px, rfl, k1, k⟩ := ns_cons k
    obtain ⟨y, py, rfl, k2, k⟩ := ns_cons k
    obtain ⟨z, pz, rfl, k3, _⟩ := ns_cons k
    have hv : vs.length = 3 := by simpa using h2
    match vs, hv with
    | [a, b, c], _ =>
      refine ⟨x, y, z, px, py, pz, a, b, c, rfl, rfl, k1, k2, k3, ?_⟩
      have h4 : (swN sc [.Name x px, .Name y py, .Name z pz]).length = 3 := by simpa using h4
      unfold swN at h4 ⊢
      simp only [List.filterMap_cons, List.filterMap_nil] at h4 ⊢
      by_cases z1 : (sc.names.lookup x == some NameKind.local && px.line == ((List.head? [Expr.Name x px, Expr.Name y py, Expr.Name z pz]).map (·.pos.line)).getD 0) = true <;> by_cases z2 : (sc.names.lookup y == some NameKind.local && py.line == ((List.head? [Expr.Name x px, Expr.Name y py, Expr.Name z pz]).map (·.pos.line)).getD 0) = true <;> by_cases z3 : (sc.names.lookup z == some NameKind.local && pz.line == ((List.head? [Expr.Name x px, Expr.Name y py, Expr.Name z pz]).map (·.pos.line)).getD 0) = true <;> simp only [z1, z2, z3, if_true, Bool.false_eq_true, if_false] at h4 ⊢ <;> first | (simp at h4; done) | skip
      exact ⟨beq_iff_eq.mp (ba z1).1, beq_iff_eq.mp (ba z2).1, beq_iff_eq.mp (ba z3).1, by first | rfl | trivial⟩
theorem snd_par (C : CO q X W sc N) (hf : ∀ x, X.fn x = true) {is : List Nat} {as : E} {st : Stmt} (G : GoodE (gdX X.prog X.w X.K X.mg X.base q) as) (h : chkS q N sc (.par is as) st = true) : PS X st (tS X.K q W (.par is as)) := by
  refine PS.ofOk fun ok => ?_
  unfold chkS at h
  split at h
  rotate_left
  · exact no h
  rename_i es k p vs kk pp pos
  obtain ⟨h, k6⟩ := ba h
  obtain ⟨h, k5⟩ := ba h
  obtain ⟨h, k4⟩ := ba h
  obtain ⟨h, k3⟩ := ba h
  obtain ⟨k1, k2⟩ := ba h
  have hA := ((sndAll q as).a C G k4).1
  obtain ⟨c1, c2⟩ := ba (show (chkNs true N sc is es && decide (0 < is.length)) = true from k1)
  have rd : ∀ {D : Ends} {σ : L2.St} {H : Hp}, tS X.K q W (.par is as) D σ H → tA X.K q W as σ H fun us H1 => us.length = is.length ∧ D.nx (setV is us σ) H1 := fun {D σ H} ⟨p, g, s, R, k⟩ => by
    refine ⟨p, g, s, R, ?_⟩
    unfold ex at k
    refine Post.mono (PoS.bindE0 k) fun vs g1 s1 H1 _ R1 t1 k us hus => ?_
    cases e : dats vs with
    | none => rw [e] at k; exact k.elim
    | some xs =>
      rw [e] at k
      dsimp only at k
      by_cases z : xs.length = is.length
      · rw [if_pos z] at k
        have r := hus.dats e
        have hl : us.length = is.length := r.length.trans z
        obtain ⟨g', R', t'⟩ := R1.setMany r hl
        exact ⟨hl, k g' _ H1 R' (t1.trans t').stp⟩
      · rw [if_neg z] at k; exact k.elim
  rcases (Bool.or_eq_true _ _).mp k6 with k6 | k6
  · refine PS.imp (ps_asg (snd_tup k4 (dec k5) hA).1 (snd_tg C (d := true) (fun _ => hf) (t := .many is) k1) (by rfl) (swap_no ok.kind (by rw [C.hsc]; exact k6))) fun D σ H k => set_reads (e := .tup as) (by unfold Tidy; exact tdy_ok k2) ?_
    obtain ⟨p, g, s, R, k⟩ := k
    exact ⟨p, g, s, R, by rw [← ex_par]; exact k⟩
  · have k6' := k6
    unfold swYes at k6
    obtain ⟨k6, _⟩ := ba k6
    obtain ⟨k6, _⟩ := ba k6
    obtain ⟨k6, _⟩ := ba k6
    obtain ⟨k6, _⟩ := ba k6
    obtain ⟨k6, _⟩ := ba k6
    obtain ⟨k6, _⟩ := ba k6
    have hl := chkNs_len c1
    have hn : is.length = 2 ∨ is.length = 3 := by rw [← hl]; simpa using k6
    have nd : is.Nodup := dec k3
    rcases hn with hn | hn
    · obtain ⟨i, j, rfl⟩ := len_two hn
      · obtain ⟨x, y, px, py, a, b, rfl, rfl, l1, l2, z1, z2, e⟩ := par_two k6' c1
        have sw := swap_yes (env := X.env) (k := k) (k2 := kk) (p := p) (p2 := pp) ok.kind (by rw [C.hsc]; exact k6')
        rw [C.hsc, e] at sw
        rw [← C.hsc] at z1 z2
        refine PS.imp (ps_par C.calm (by rw [C.hN]; exact C.nd) (C.loc (d := true) (fun _ => hf) l1).1 (C.loc (d := true) (fun _ => hf) l2).1 (by simp at nd; exact nd) z1 z2 hA sw) fun D σ H k => ?_
        obtain ⟨p, g, s, R, k⟩ := rd k
        refine ⟨p, g, s, R, Post.mono k fun vs g1 s1 H1 _ R1 t1 k us hus => ?_⟩
        obtain ⟨hl, k⟩ := k us hus
        match us, hl with
        | [u, v], _ => exact ⟨u, v, rfl, k⟩
    · obtain ⟨i, j, l, rfl⟩ := len_three hn
      · obtain ⟨x, y, z, px, py, pz, a, b, c, rfl, rfl, l1, l2, l3, z1, z2, z3, e⟩ := par_three k6' c1
        have sw := swap_yes (env := X.env) (k := k) (k2 := kk) (p := p) (p2 := pp) ok.kind (by rw [C.hsc]; exact k6')
        rw [C.hsc, e] at sw
        rw [← C.hsc] at z1 z2 z3
        have nd : (i ≠ j ∧ i ≠ l) ∧ j ≠ l := by simpa [List.nodup_cons] using nd
        refine PS.imp (ps_par3 C.calm (by rw [C.hN]; exact C.nd) (C.loc (d := true) (fun _ => hf) l1).1 (C.loc (d := true) (fun _ => hf) l2).1 (C.loc (d := true) (fun _ => hf) l3).1 nd.1.1 nd.1.2 nd.2 z1 z2 z3 hA sw) fun D σ H k => ?_
        obtain ⟨p, g, s, R, k⟩ := rd k
        refine ⟨p, g, s, R, Post.mono k fun vs g1 s1 H1 _ R1 t1 k us hus => ?_⟩
        obtain ⟨hl, k⟩ := k us hus
        match us, hl with
        | [u, v, w], _ => exact ⟨u, v, w, rfl, k⟩
end
end MI

namespace MI
open PySem L2

/-! ### pairs whose first part is fresh; the first item that fits, told back as one's own -/
mutual
theorem Rp.nolx' {K : PySem.W.Frag} {H : Hp} {P P' : Addr → Prop} : ∀ {v : V} {x : D}, Rp K H P v x → x.nolx = true → Rp K H P' v x
  | _, _, .non, _ => .non
  | _, _, .bl b, _ => .bl b
  | _, _, .int i, _ => .int i
  | _, _, .str s, _ => .str s
  | _, _, .tup h hs, n => .tup h (RpA.nolist hs (by simpa [D.nolx, D.nol] using n))
  | _, _, .lst _ _ _, n => by simp [D.nolx, D.nol] at n
  | _, _, .scr _ _, n => by simp [D.nolx, D.nol] at n
  | _, _, .dct _ _ _ _, n => by simp [D.nolx, D.nol] at n
  | _, _, .dci _ _ _ _, n => by simp [D.nolx, D.nol] at n
  | _, _, .exn0 h, _ => .exn0 h
  | _, _, .exnd h1 h2 h3 h4 h5, _ => .exnd h1 h2 h3 h4 (RpA.nolist h5 h4)
  | _, _, .fnc nm, n => .fnc nm
end
theorem flat_nolx {x : D} (h : x.nolx = true) : flatL x = false := by
  cases x <;> first | rfl | (simp [D.nolx, D.nol] at h)
section
variable {F : Fx} {g g1 : G} {s s1 : State} {σ : L2.St} {H H1 : Hp} {W : L2.WX}
/-- a pair goes to two names -/
theorem asg_two (R : RS F g s σ H) (t : StE g H g1 H1) (R1 : RS F g1 s1 σ H1) (sub : Sub s s1) {i j : Nat} {v : V} {x y : D} (hv : FtR F g1 H H1 v x y) {Q : L2.St → Hp → Prop}
    (k : ∀ g2 σ2, RS F g2 ⟨(s1.r.set i (.v x (flatL x))).set j (.v y false), s1.S⟩ σ2 H1 → Stp F g H g2 H1 → Q σ2 H1) : gT F.K (.many [i, j]) v σ H1 Q := by
  obtain ⟨u, v1, v2, rfl, sq, n, r2, h⟩ := hv
  refine .inl (.inl ⟨u, [v1, v2], rfl, sq, rfl, rfl, ?_⟩)
  show Q ((σ.set i (some v1)).set j (some v2)) H1
  rcases h with ⟨n1, r1⟩ | ⟨f1, a, rfl, h1, h2, h3⟩
  · rw [flat_nolx n1] at k
    have R2 := R1.setS (i := i) (Rp.nolx' (P' := PP F (g1.drop i)) r1 n1)
    have R3 := R2.setS (i := j) (Rp.nolx' (P' := PP F ((g1.drop i).drop j)) r2 n)
    exact k _ _ R3 ((t.trans stE_drop).trans stE_drop).stp
  · rw [f1] at k
    obtain ⟨z1, z2⟩ := RS.setO R t R1 sub (i := i) h1 h2 h3
    have R3 := z1.setS (i := j) (Rp.nolx' (P' := PP F ((g1.put i a).drop j)) r2 n)
    exact k _ _ R3 (z2.trans stE_drop.stp)
end
section
variable {q : Bs} {X : Cx} {W : L2.WX} {sc : Scope} {N : List Str}
theorem set2_reads {K : PySem.W.Frag} {i j : Nat} {e : E} (T : Tidy e) {D : Ends} {σ : L2.St} {H : Hp} (h : tS K q W (.set2 i j e) D σ H) : tAsg (tE K q W e) (gT K (.many [i, j])) D σ H := by
  obtain ⟨p, g, s, R, k⟩ := h
  refine ⟨p, g, s, R, ?_⟩
  unfold ex at k
  refine Post.mono (PoS.bindE0 k) fun a g1 s1 H1 ee R1 t1 k v hv => ?_
  have sub : Sub s s1 := by have := (ev_sub e).e T s; rw [ee] at this; exact this
  cases a <;> first | exact k.elim | skip
  rename_i x y
  by_cases ij : i = j
  · have k : PoS (FX K q p) W g H (if i = j then MI.R.bad else MI.R.ok .nxt ⟨(s1.r.set i (.v x (flatL x))).set j (.v y false), s1.S⟩) D := k
    rw [if_pos ij] at k; exact k.elim
  · have k : PoS (FX K q p) W g H (if i = j then MI.R.bad else MI.R.ok .nxt ⟨(s1.r.set i (.v x (flatL x))).set j (.v y false), s1.S⟩) D := k
    rw [if_neg ij] at k
    exact asg_two (F := FX K q p) R t1 R1 sub hv fun g2 σ2 R2 t2 => k g2 σ2 H1 R2 t2
theorem snd_ret2 (C : CO q X W sc N) {i j kk : Nat} {x y : Str} {p1 p2 p3 pos : Pos} (hx : vis N sc i x = true) (hy : vis N sc j y = true) : PS X (.Return (some (.Tuple [.Name x p1, .Name y p2] kk p3)) pos) (tS X.K q W (.ret2 i j)) := by
  obtain ⟨h1, h2, h3, h4⟩ := C.vis hx
  obtain ⟨l1, l2, l3, l4⟩ := C.vis hy
  refine PS.imp (ps_ret (pe_tup (pa_cons (pe_var h1 h2 h3 h4) (pa_cons (pe_var l1 l2 l3 l4) pa_nil (starEach_cons rfl)) (starEach_cons rfl)))) fun D σ H ⟨p, g, s, R, k⟩ => ?_
  unfold ex at k
  split at k
  · next a b e1 e2 =>
    split at k
    · next z =>
      obtain ⟨z1, z2⟩ := ba z
      obtain ⟨c, o1, o2, o3⟩ := R.ow i a e1
      obtain ⟨v, q1, r, R'⟩ := R.unown e1
      obtain ⟨u, q2, r2⟩ := R.sl j b e2
      rw [o2] at q1; cases q1
      refine ⟨_, o2, _, q2, (by show (2 : Nat) ≤ sizeLine; decide), fun d hd => ?_⟩
      have kg := kp_grow R (same_upd (o := .tup [V.ref c, u]) hd)
      refine k (g.drop i) σ _ (R'.alloc hd) (stE_drop.alloc hd).stp _ _ noTb ⟨d, _, _, rfl, .of upd_same, z2, Rp.nolx' (r2.mono kg) z2, .inr ⟨z1, c, rfl, (R.own i c o1).1, ?_, (o3.mono kg fun o _ z => same_upd hd c o z).anti fun b z => z.elim drop_pp fun z => by rw [z]; exact .inr ⟨i, o1⟩⟩⟩
      rintro (z | ⟨l, z⟩)
      · exact (R.own i c o1).2.1 z
      · obtain ⟨n, z⟩ := drop_own z
        exact n (R.inj l i c z o1)
    · exact k.elim
  · next a b e1 e2 =>
    split at k
    · next z =>
      obtain ⟨z1, z2⟩ := ba z
      obtain ⟨v, q1, r1⟩ := R.sl i a e1
      obtain ⟨u, q2, r2⟩ := R.sl j b e2
      refine ⟨_, q1, _, q2, (by show (2 : Nat) ≤ sizeLine; decide), fun d hd => ?_⟩
      have kg := kp_grow R (same_upd (o := .tup [v, u]) hd)
      exact k g σ _ (R.alloc hd) (StE.refl.alloc hd).stp _ _ noTb ⟨d, _, _, rfl, .of upd_same, z2, r2.mono kg, .inl ⟨z1, r1.mono kg⟩⟩
    · exact k.elim
  · exact k.elim
end
/-! ### without the lists -/
section
variable {K : PySem.W.Frag} {q : Bs} {p : Pv} {g g1 : G} {s s1 : State} {σ : L2.St} {H H1 : Hp}
/-- all lists are others' -/
abbrev hideP (g : G) (H : Hp) : Pv := ⟨fun a => ∃ o, H a = some o ∧ isLD o, g.m, H⟩
theorem hide_get {r : List Slot} {i : Nat} {z : Slot} (h : (hideR r)[i]? = some z) : z = .u ∨ ∃ x b, r[i]? = some (.v x b) ∧ x.nol = true ∧ z = .v x false := by
  unfold hideR at h
  rw [List.getElem?_map, Option.map_eq_some_iff] at h
  obtain ⟨y, e, h⟩ := h
  cases y with
  | u => exact .inl h.symm
  | o j => exact .inl h.symm
  | d ks => exact .inl h.symm
  | v x b =>
    dsimp only at h
    split at h
    · next n => exact .inr ⟨x, b, e, n, h.symm⟩
    · exact .inl h.symm
theorem RS.hide (R : RS (FX K q p) g s σ H) : RS (FX K q (hideP g H)) (g0 g.m) ⟨hideR s.r, s.S⟩ σ H := by
  refine ⟨by show (hideR s.r).length = _; unfold hideR; rw [List.length_map]; exact R.len, fun i x e => ?_, fun i x e => ?_, fun i j e => ?_, fun i ks e => ?_, fun i j a h => (by cases h), fun i a h => (by cases h), fun a h => h, fun b o h _ _ => h, fun b o h => ⟨o, h⟩, R.tb, R.ins, ⟨[], by simp [g0], by simp⟩, R.st.any⟩
  · rcases hide_get e with z | ⟨y, b, e1, n, z⟩
    · cases z
    · cases z
      cases b with
      | false =>
        obtain ⟨v, h1, h2⟩ := R.sl i x e1
        exact ⟨v, h1, h2.nolist n⟩
      | true =>
        obtain ⟨a, _, _, h⟩ := R.ow i x e1
        cases x <;> first | exact h.elim | (simp [D.nol] at n)
  · rcases hide_get e with z | ⟨y, b, e1, n, z⟩ <;> cases z
  · rcases hide_get e with z | ⟨y, b, e1, n, z⟩ <;> cases z
  · rcases hide_get e with z | ⟨y, b, e1, n, z⟩ <;> cases z
theorem RS.unhide (R : RS (FX K q p) g s σ H) (R1 : RS (FX K q (hideP g H)) g1 s1 σ H1) (t : StE (g0 g.m) H g1 H1) :
    RS (FX K q p) ⟨g.own, g1.m⟩ ⟨s.r, s1.S⟩ σ H1 ∧ StE g H ⟨g.own, g1.m⟩ H1 := by
  have t2 : StE g H ⟨g.own, g1.m⟩ H1 := ⟨t.keep, t.tb, t.dom, fun _ _ h => h, t.pre⟩
  have kl : ∀ {a : Addr} {o : HO}, isLD o → H a = some o → H1 a = some o := fun {a o} l e => t2.keep a o e (notIns R.ins e (ld_ni l)) (ld_nt l)
  refine ⟨⟨R.len, fun i x h => ?_, fun i x h => ?_, fun i j h => ?_, fun i ks e => let ⟨v, e1, h⟩ := R.dc i ks e; ⟨v, e1, h.mono (R.kpE t2)⟩, R.inj, fun i a h => ?_, fun a h => ?_, fun b o h n z => ?_, fun b o h => ?_, fun p hp => t.tb _ _ (R.tb p hp), R.i0, ?_, R1.st.any⟩, t2⟩
  · obtain ⟨v, h1, h2⟩ := R.sl i x h
    exact ⟨v, h1, h2.mono (R.kpE t2)⟩
  · obtain ⟨a, h1, h2, h3⟩ := R.ow i x h
    exact ⟨a, h1, h2, h3.mono (R.kpE t2) fun o l q => kl l q⟩
  · obtain ⟨a, h1, h2⟩ := R.ob i j h
    obtain ⟨r, e1, _⟩ := t.pre
    refine ⟨a, ?_, h2⟩
    have hj : j < g.m.length := (List.getElem?_eq_some_iff.mp h1).1
    show g1.m[j]? = some a
    rw [e1]
    show (g.m ++ r)[j]? = some a
    rw [List.getElem?_append_left hj]
    exact h1
  · obtain ⟨h1, h2, o, e, l⟩ := R.own i a h
    exact ⟨h1, h2, o, kl l e, l⟩
  · obtain ⟨o, e, l⟩ := R.p0 a h
    exact ⟨o, kl l e, l⟩
  · refine t2.keep b o (R.k0 b o h n z) (fun q => ?_) z
    obtain ⟨r, e1, n1⟩ := R.pre
    rw [e1] at q
    rcases List.mem_append.mp q with q | q
    · exact n q
    · rw [n1 b q] at h; cases h
  · obtain ⟨o1, e1⟩ := R.d0 b o h
    exact t.dom b o1 e1
  · obtain ⟨r, e1, n1⟩ := R.pre
    obtain ⟨r2, e2, n2⟩ := t.pre
    refine ⟨r ++ r2, ?_, fun a ha => ?_⟩
    · show g1.m = _
      rw [e2]
      show g.m ++ r2 = _
      rw [e1, List.append_assoc]
    · rcases List.mem_append.mp ha with z | z
      · exact n1 a z
      · exact R.h0 (n2 a z)
/-- a list that is told without the lists is a new one -/
theorem new_list (R : RS (FX K q p) g s σ H) (R1 : RS (FX K q (hideP g H)) g1 s1 σ H1) (t : StE (g0 g.m) H g1 H1) {a : Addr} {vs : List V} (e : H1 a = some (.lst vs)) (n : ¬ PP (FX K q (hideP g H)) g1 a) : ∀ o, (FX K q p).H0 a = some o → isTb o := by
  intro o h
  by_cases z : isTb o
  · exact z
  · exfalso
    have nm : a ∉ g1.m := fun w => by
      obtain ⟨u, e1, i⟩ := R1.ins a w
      rw [e] at e1; cases e1; exact i
    have ng : a ∉ g.m := fun w => by
      obtain ⟨r, e1, _⟩ := t.pre
      exact nm (by rw [e1]; exact List.mem_append_left _ w)
    have n0 : a ∉ (FX K q p).m0 := fun w => by
      obtain ⟨r, e1, _⟩ := R.pre
      exact ng (by rw [e1]; exact List.mem_append_left _ w)
    have h1 := R.k0 a o h n0 z
    by_cases l : isLD o
    · exact n (.inl ⟨o, h1, l⟩)
    · have h2 := t.keep a o h1 ng z
      rw [e] at h2; cases h2
      exact l trivial
end
section
variable {q : Bs} {X : Cx} {W : L2.WX} {sc : Scope} {N : List Str}
def tPk (K : PySem.W.Frag) (q : Bs) (W : L2.WX) (i : Nat) (c : E) : TS := fun D σ H => tT K q W c σ H fun b H1 => if b = true then (∃ v, σ[i]? = some (some v) ∧ D.rt v H1) else D.nx σ H1
theorem pss_pick (C : CO q X W sc N) {i : Nat} {c : E} {t : Expr} {x : Str} {p1 p2 p3 : Pos} (hc : PT X t (tT X.K q W c)) (hx : vis N sc i x = true) : PSs X [.If t [.Return (some (.Name x p1)) p2] [] p3] (tPk X.K q W i c) := by
  obtain ⟨h1, h2, h3, h4⟩ := C.vis hx
  exact PSs.imp (pss_cons (ps_if hc (pss_cons (ps_ret (pe_var h1 h2 h3 h4)) pss_nil) pss_nil) pss_nil) fun D σ H h => h
theorem snd_ffr (C : CO q X W sc N) {i : Nat} {e c : E} {tg ee t : Expr} {x : Str} {p1 p2 p3 pos : Pos} (hs : notSet ee = true) (he : PE X ee (tE X.K q W e)) (hg : PG X tg (gT X.K (.one i))) (hc : PT X t (tT X.K q W c)) (hx : vis N sc i x = true) :
    PS X (.For tg ee [.If t [.Return (some (.Name x p1)) p2] [] p3] [] pos) (tS X.K q W (.ffr i e c)) := by
  refine PS.imp (ps_for C.po C.calm (snd_it he) hg (pss_pick C hc hx) (folded' hs)) fun D σ H ⟨p, g, s, R, k⟩ => ?_
  unfold ex at k
  cases ee : evI (.it e) ⟨hideR s.r, s.S⟩ with
  | bad => rw [ee] at k; exact k.elim
  | exc y s1 => rw [ee] at k; exact k.elim
  | ok xs s1 =>
    rw [ee] at k
    dsimp only at k
    by_cases fx : xs.all flatL = true
    · rw [if_pos fx] at k
      refine ⟨hideP g H, g0 g.m, ⟨hideR s.r, s.S⟩, R.hide, ?_⟩
      rw [ee]
      intro g1 H1 R1' t1 J hJ
      obtain ⟨Rb, tb⟩ := R.unhide R1' t1
      have k := PoS.shift (F := FX X.K q p) tb.stp k
      have pin : ∀ a, PP (FX X.K q p) ⟨g.own, g1.m⟩ a → PP (FX X.K q (hideP g H)) g1 a := fun a h => .inl (R.ld a h)
      refine ⟨fun j m σ' Hc => m = xs.length - j ∧ j ≤ xs.length ∧ ∃ g2 s2, RS (FX X.K q p) g2 s2 σ' Hc ∧ Stp (FX X.K q p) ⟨g.own, g1.m⟩ H1 g2 Hc ∧ PoS (FX X.K q p) W g2 Hc (pickL i (evT c) (xs.drop j) s2) D, ⟨xs.length, by simp, Nat.zero_le _, _, _, Rb, .refl, k⟩, ?_⟩
      rintro j m σ' Hc ⟨rfl, hi, g2, s2, R2, t2, k⟩
      have kj : Kp (PP (FX X.K q (hideP g H)) g1) g1.m H1 (PP (FX X.K q p) g2) Hc := ⟨R1'.ld, R1'.ins, fun b o h n m z => t2.keep b o h (fun w => n (pin b w)) m z, fun b o h n => t2.np b o h fun w => n (pin b w)⟩
      obtain ⟨j1, j2⟩ := hJ j _ Hc kj
      by_cases hlt : j < xs.length
      · rw [List.drop_eq_getElem_cons hlt] at k
        obtain ⟨go, yl⟩ := j1 xs[j] (List.getElem?_eq_getElem hlt)
        refine .inr ⟨go, fun σ' Hc => ∃ g2 s2, RS (FX X.K q p) g2 s2 σ' Hc ∧ Stp (FX X.K q p) ⟨g.own, g1.m⟩ H1 g2 Hc ∧ PoS (FX X.K q p) W g2 Hc (pickL i (evT c) (xs.drop (j + 1)) s2) D, fun σ' H' h => ⟨xs.length - (j + 1), by omega, rfl, hlt, h⟩, fun v H' y => ?_⟩
        have fl : flatL xs[j] = true := List.all_eq_true.mp fx _ (List.getElem_mem hlt)
        have iy := yl v H' y
        obtain ⟨gr, rv⟩ := ItY.to (F := FX X.K q (hideP g H)) (F' := FX X.K q p) (g := g1) (g2 := g2) rfl kj R2.rd2 iy
        have R3 := R2.grow gr.same
        have t3 : Stp (FX X.K q p) g2 Hc g2 H' := (gr_stE gr).stp
        obtain ⟨ds, ed⟩ : ∃ ds, xs[j] = .lst ds := by
          cases q : xs[j] <;> first | (rw [q] at fl; cases fl; done) | exact ⟨_, rfl⟩
        rw [ed] at rv k iy fl
        obtain ⟨a, vs, rfl, ea, na, ra⟩ : ∃ a vs, v = .ref a ∧ H1 a = some (.lst vs) ∧ ¬ PP (FX X.K q (hideP g H)) g1 a ∧ RpA X.K H1 (PP (FX X.K q (hideP g H)) g1) vs ds := by
          rcases iy with ⟨_, r⟩ | ⟨_, _, _, _, _, w, _⟩
          · cases r with | lst h1 h2 h3 => exact ⟨_, _, rfl, h1, h2, h3⟩
          · cases w
        have nw := new_list R R1' t1 ea na
        have R4 := R3.setS (i := i) (Rp.mono (kp_drop R3 i) rv)
        have t4 : Stp (FX X.K q p) g2 Hc (g2.drop i) H' := t3.trans stE_drop.stp
        unfold pickL at k
        have k := PoS.shift (F := FX X.K q p) t4 k
        show tPk X.K q W i c _ _ _
        refine ⟨p, _, _, R4, Post.mono (PoS.bindE k) fun b g5 s5 H5 _ R5 t5 k => ?_⟩
        have t6 : Stp (FX X.K q p) ⟨g.own, g1.m⟩ H1 g5 H5 := t2.trans (t4.trans t5.stp)
        cases b with
        | false =>
          refine L2.iteF ?_
          have k : PoS (FX X.K q p) W g5 H5 (pickL i (evT c) (xs.drop (j + 1)) ⟨s5.r.set i .u, s5.S⟩) D := k
          have := R5.kill [i]
          exact ⟨g5, _, this, t6, k⟩
        | true =>
          refine L2.iteT ?_
          have k : PoS (FX X.K q p) W g5 H5 (if i < s5.r.length then .ok (.ret (.fr (.lst ds))) s5 else .bad) D := k
          by_cases li : i < s5.r.length
          rotate_left
          · rw [if_neg li] at k; exact k.elim
          rw [if_pos li] at k
          have lt : i < σ'.length := by
            have := R5.len
            rw [List.length_set] at this
            omega
          refine ⟨.ref a, List.getElem?_set_self lt, PoS.now R5 k _ (fun b => if b = a then none else (FX X.K q p).H0 b) (fun b o h n => ?_) ⟨a, rfl, if_pos rfl, ?_, ?_⟩⟩
          · split at n
            · next z => rw [z] at h; exact nw o h
            · rw [h] at n; cases n
          · exact t6.np a _ ea fun w => na (pin a w)
          · have ka : H5 a = some (.lst vs) := t6.keep a _ ea (fun w => na (pin a w)) (fun w => by
              obtain ⟨u, e1, z⟩ := R1'.ins a w
              rw [ea] at e1; cases e1; exact z) (fun z => z)
            refine ⟨vs, ka, ?_⟩
            have k5 : Kp (PP (FX X.K q (hideP g H)) g1) g1.m H1 (PP (FX X.K q p) g5) H5 := ⟨R1'.ld, R1'.ins, fun b o h n m z => t6.keep b o h (fun w => n (pin b w)) m z, fun b o h n => t6.np b o h fun w => n (pin b w)⟩
            exact RpA.nolist (ra.mono k5) fl
      · have : j = xs.length := by omega
        subst this
        refine .inl ⟨j2 (Nat.le_refl _), ?_⟩
        rw [List.drop_length] at k
        exact PoS.now R2 k
    · rw [if_neg fx] at k; exact k.elim
end
end MI

namespace MI
open PySem PySem.Spec PyProof.Rows L2 MQ
section
variable {F : Fx} {g g1 : G} {s s1 : State} {σ : L2.St} {H H1 : Hp}
/-- a dict that is asked for its keys goes to a name -/
theorem RS.setD (R : RS F g s σ H) {i : Nat} {v : V} {ks : List (List D)} (h : DcR F H v ks) : RS F (g.drop i) ⟨s.r.set i (.d ks), s.S⟩ (σ.set i (some v)) H := by
  have k := kp_drop R i
  refine R.re rfl rfl (by simp [R.len]) (fun _ _ h => (drop_own h).2) (fun l y e => ?_) (fun l y e => ?_) (fun l n e => ?_) (fun l cs e => ?_)
  · rcases get_set e with ⟨rfl, e1, hl⟩ | ⟨n, e1⟩
    · cases e1
    · obtain ⟨u, h1, h2⟩ := R.sl l y e1
      exact ⟨u, by rw [List.getElem?_set_ne n]; exact h1, h2.mono k⟩
  · rcases get_set e with ⟨rfl, e1, hl⟩ | ⟨n, e1⟩
    · cases e1
    · obtain ⟨b, h1, h2, h3⟩ := R.ow l y e1
      exact ⟨b, (if_neg (Ne.symm n)).trans h1, by rw [List.getElem?_set_ne n]; exact h2, h3.mono k fun _ _ z => z⟩
  · rcases get_set e with ⟨rfl, e1, hl⟩ | ⟨n', e1⟩
    · cases e1
    · obtain ⟨b, h1, h2⟩ := R.ob l n e1
      exact ⟨b, h1, by rw [List.getElem?_set_ne n']; exact h2⟩
  · rcases get_set e with ⟨rfl, e1, hl⟩ | ⟨n', e1⟩
    · cases e1
      exact ⟨v, List.getElem?_set_self (by rw [← R.len]; exact hl), h⟩
    · obtain ⟨u, h1, h2⟩ := R.dc l cs e1
      exact ⟨u, by rw [List.getElem?_set_ne n']; exact h1, h2⟩
end
section
variable {q : Bs} {X : Cx} {W : L2.WX} {sc : Scope} {N : List Str}
theorem snd_dset (C : CO q X W sc N) (hf : ∀ x, X.fn x = true) {i : Nat} {e : E} {y x : Str} {py p1 p2 pos : Pos} {ea : Expr} (k1 : chkTg true N sc (.one i) (.Name y py) = true) (T : Tidy e) (g1 : glo sc x = true) (e1 : x = "dict") (m1 : x ∈ q.blts) (s1 : notStar ea = true)
    (ha : PE X ea (tE X.K q W e)) : PS X (.Assign [.Name y py] (.Call (.Name x p1) [ea] [] p2) pos) (tS X.K q W (.dset i e)) := by
  obtain ⟨l1, l2, l3⟩ := C.loc (d := true) (fun _ => hf) (show MI.loc true N sc i y = true from k1)
  have base := pe_dmk (p1 := p1) (pos1 := p2) C.calm (by have := C.u65; omega) (C.glo g1).1 (C.blt _ m1) e1 ha (starEach_cons s1)
  refine PS.imp (ps_set (by rw [C.hN]; exact C.nd) l1 l2 base (by rfl) l3) fun D σ H ⟨p, g, s, R, k⟩ => ⟨p, g, s, R, ?_⟩
  unfold ex at k
  refine Post.mono (PoS.bindE0 k) fun va g1 s1 H1 _ R1 t1 k v hv => ?_
  cases ed : va.dat with
  | none => rw [ed] at k; exact k.elim
  | some d =>
    rw [ed] at k
    dsimp only at k
    split at k
    rotate_left
    · exact k.elim
    rename_i ps hps
    obtain ⟨xs, rfl, h1, h2⟩ := dqA_of hps
    obtain ⟨b, us, rfl, h3, r1⟩ := (hv.vw ed).lst
    obtain ⟨L, l1, l2, l3, l4, l5⟩ := prs_of r1 h1
    subst l1
    refine ⟨b, L, rfl, .of h3, l2, nodupK_of l3 h2, fun a xs ha hx => ?_⟩
    have kg := same_upd (o := DcO X.prog X.w a xs) ha
    have R2 := (R1.alloc (o := DcO X.prog X.w a xs) ha).setD (i := i) (v := .ref a) (ks := ps.map (·.1)) ⟨a, xs, rfl, by
      show upd H1 a _ a = some (DcO q.pr q.w a xs)
      rw [C.pr, C.w]
      exact upd_same, ?_, fun y hy => ?_⟩
    · exact k _ _ _ R2 ((t1.alloc ha).trans stE_drop).stp
    · rw [l3]
      have := congrArg (List.map fun z : List L2.Key × Addr => z.1.map kD) hx
      rw [List.map_map, List.map_map] at this
      exact this.symm
    · have : (y.1, y.2.1) ∈ L.map fun t => (t.k, t.b) := by rw [← hx]; exact List.mem_map.mpr ⟨y, hy, rfl⟩
      obtain ⟨t, ht, e⟩ := List.mem_map.mp this
      have e1 : t.k = y.1 := congrArg Prod.fst e
      have e2 : t.b = y.2.1 := congrArg Prod.snd e
      rw [← e1, ← e2]
      exact (kp_grow R1 kg).sqT (l2 t ht).2
end
end MI

namespace MI
open PySem L2

section
variable {q : Bs} {X : Cx} {W : L2.WX} {sc : Scope} {N : List Str}
theorem fits_le {n : Nat} (h : fits n = true) : n ≤ sizeLine := by
  have : n ≤ SZ := of_decide_eq_true h
  exact this
theorem tyL {K : PySem.W.Frag} {H : Hp} {P : Addr → Prop} {v : V} {xs : List D} {F : Fx} {g : G} (h : Vw F.K H (PP F g) v (.lst xs)) : ∃ a, v = .ref a ∧ tyV F.K "list" v H := by
  obtain ⟨a, us, rfl, h1, _⟩ := h.lst
  exact ⟨a, rfl, .inl ⟨rfl, us, .of h1⟩⟩
/-- name.reverse() -/
theorem snd_rvl (C : CO q X W sc N) {i : Nat} {st : Stmt} (h : chkS q N sc (.rvl i) st = true) : PS X st (tS X.K q W (.rvl i)) := by
  unfold chkS at h
  split at h
  rotate_left
  · exact no h
  rename_i x p1 m ap cp pos
  obtain ⟨h, k3⟩ := ba h
  obtain ⟨k1, k2⟩ := ba h
  obtain ⟨h1, h2, h3, h4⟩ := C.vis k1
  cases dec k2
  refine PS.imp (ps_expr (pe_bm0 PySem.F.plainAttrs_list PySem.F.slot_list_reverse PySem.F.type_list_reverse mt_reverse (pe_var h1 h2 h3 h4) (by rfl) k3) (by rfl)) fun D σ H ⟨p, g, s, R, k⟩ => ?_
  unfold ex at k
  obtain ⟨xs1, vs, ys, a, f1, f2, f3, f4, f5, f6, k⟩ := wrL_of R k
  cases f2
  obtain ⟨R2, t2⟩ := R.rew f1 f3 f6.rev
  exact ⟨.ref a, f4, .inl ⟨rfl, vs, .of f5⟩, a, vs, rfl, rfl, f5, k g σ _ R2 t2⟩
/-- name.append(e) -/
theorem snd_app (C : CO q X W sc N) {i : Nat} {e : E} {st : Stmt} (G : GoodE (gdX X.prog X.w X.K X.mg X.base q) e) (h : chkS q N sc (.app i e) st = true) : PS X st (tS X.K q W (.app i e)) := by
  unfold chkS at h
  split at h
  rotate_left
  · exact no h
  rename_i x p1 m ap v cp pos
  obtain ⟨h, k5⟩ := ba h
  obtain ⟨h, k4⟩ := ba h
  obtain ⟨h, k3⟩ := ba h
  obtain ⟨k1, k2⟩ := ba h
  obtain ⟨h1, h2, h3, h4⟩ := C.vis k1
  cases dec k2
  have sE := starEach_cons (es := []) (env := X.env) k4
  refine PS.imp (ps_expr (pe_bm PySem.F.plainAttrs_list PySem.F.slot_list_append PySem.F.type_list_append mt_append (pe_var h1 h2 h3 h4) (pa_cons ((sndAll q e).e C G k5).1 pa_nil sE) (by rfl) (by rw [sE]; rfl) k3 sE (by rfl)) (by rfl)) fun D σ H ⟨p, g, s, R, k⟩ => ?_
  unfold ex at k
  split at k
  rotate_left
  · exact k.elim
  rename_i la
  obtain ⟨xs, b, ea⟩ := lstAt_of la
  obtain ⟨v, e1, hv⟩ := R.look ea
  obtain ⟨a0, _, ty⟩ := tyL (K := X.K) (P := fun _ => True) hv
  refine ⟨v, e1, ty, p, g, s, R, Post.mono (PoS.bindE0 k) fun r g1 s1 H1 _ R1 t1 k u hu => ?_⟩
  cases er : sto r with
  | none => rw [er] at k; exact k.elim
  | some y =>
    rw [er] at k
    obtain ⟨xs1, vs, ys, a, f1, f2, f3, f4, f5, f6, k⟩ := wrL_of R1 k
    rw [e1] at f4; cases f4
    obtain ⟨z1, rfl⟩ := gd_some f2
    obtain ⟨R2, t2⟩ := R1.rew f1 f3 (f6.app (.cons (hu.rp er) .nil))
    have hz := fits_le z1
    exact ⟨a, vs, u, rfl, rfl, f5, by rw [f6.length]; omega, k g1 σ _ R2 (t1.stp.trans t2)⟩
/-- name.extend(e) -/
theorem snd_ext (C : CO q X W sc N) {i : Nat} {e : E} {st : Stmt} (G : GoodE (gdX X.prog X.w X.K X.mg X.base q) e) (h : chkS q N sc (.ext i e) st = true) : PS X st (tS X.K q W (.ext i e)) := by
  unfold chkS at h
  split at h
  rotate_left
  · exact no h
  rename_i x p1 m ap v cp pos
  obtain ⟨h, k5⟩ := ba h
  obtain ⟨h, k4⟩ := ba h
  obtain ⟨h, k3⟩ := ba h
  obtain ⟨k1, k2⟩ := ba h
  obtain ⟨h1, h2, h3, h4⟩ := C.vis k1
  cases dec k2
  have sE := starEach_cons (es := []) (env := X.env) k4
  refine PS.imp (ps_expr (pe_bm PySem.F.plainAttrs_list PySem.F.slot_list_extend PySem.F.type_list_extend mt_extend (pe_var h1 h2 h3 h4) (pa_cons ((sndAll q e).e C G k5).1 pa_nil sE) (by rfl) (by rw [sE]; rfl) k3 sE (by rfl)) (by rfl)) fun D σ H ⟨p, g, s, R, k⟩ => ?_
  unfold ex at k
  split at k
  rotate_left
  · exact k.elim
  rename_i la
  obtain ⟨xs, b, ea⟩ := lstAt_of la
  obtain ⟨v, e1, hv⟩ := R.look ea
  obtain ⟨a0, _, ty⟩ := tyL (K := X.K) (P := fun _ => True) hv
  refine ⟨v, e1, ty, p, g, s, R, Post.mono (PoS.bindE0 k) fun r g1 s1 H1 _ R1 t1 k u hu => ?_⟩
  cases er : sto r with
  | none => rw [er] at k; exact k.elim
  | some y =>
    rw [er] at k
    cases y <;> first | exact k.elim | skip
    obtain ⟨xs1, vs, ys, a, f1, f2, f3, f4, f5, f6, k⟩ := wrL_of R1 k
    rw [e1] at f4; cases f4
    obtain ⟨z1, rfl⟩ := gd_some f2
    obtain ⟨b, us, rfl, h5, r⟩ : ∃ b us, u = .ref b ∧ H1 b = some (.lst us) ∧ RpA X.K H1 (PP (FX X.K q p) g1) us _ := by
      have := hu.rp er
      cases this with | lst z1 z2 z3 => exact ⟨_, _, rfl, z1, z3⟩
    obtain ⟨R2, t2⟩ := R1.rew f1 f3 (f6.app r)
    have hz := fits_le z1
    exact ⟨a, b, vs, us, rfl, rfl, f5, h5, by rw [f6.length, r.length]; exact hz, k g1 σ _ R2 (t1.stp.trans t2)⟩
/-- name.insert(k, e) -/
theorem snd_ins (C : CO q X W sc N) {i : Nat} {ke e : E} {st : Stmt} (G : GoodE (gdX X.prog X.w X.K X.mg X.base q) ke ∧ GoodE (gdX X.prog X.w X.K X.mg X.base q) e) (h : chkS q N sc (.ins i ke e) st = true) : PS X st (tS X.K q W (.ins i ke e)) := by
  unfold chkS at h
  split at h
  rotate_left
  · exact no h
  rename_i x p1 m ap u v cp pos
  obtain ⟨h, k7⟩ := ba h
  obtain ⟨h, k6⟩ := ba h
  obtain ⟨h, k5⟩ := ba h
  obtain ⟨h, k4⟩ := ba h
  obtain ⟨h, k3⟩ := ba h
  obtain ⟨k1, k2⟩ := ba h
  obtain ⟨h1, h2, h3, h4⟩ := C.vis k1
  cases dec k2
  have sE := starEach_cons (es := [v]) (env := X.env) k4
  have sE2 := starEach_cons (es := []) (env := X.env) k5
  refine PS.imp (ps_expr (pe_bm PySem.F.plainAttrs_list PySem.F.slot_list_insert PySem.F.type_list_insert mt_insert (pe_var h1 h2 h3 h4) (pa_cons ((sndAll q ke).e C G.1 k6).1 (pa_cons ((sndAll q e).e C G.2 k7).1 pa_nil sE2) sE) (by rfl) (by rw [sE, sE2]; rfl) k3 sE (by rw [sE2]; rfl)) (by rfl)) fun D σ H ⟨p, g, s, R, k⟩ => ?_
  unfold ex at k
  split at k
  rotate_left
  · exact k.elim
  rename_i la
  obtain ⟨xs, b, ea⟩ := lstAt_of la
  obtain ⟨v, e1, hv⟩ := R.look ea
  obtain ⟨a0, _, ty⟩ := tyL (K := X.K) (P := fun _ => True) hv
  refine ⟨v, e1, ty, p, g, s, R, Post.mono (PoS.bindE0 k) fun r g1 s1 H1 _ R1 t1 k u hu => ?_⟩
  cases ed : r.dat with
  | none => rw [ed] at k; exact k.elim
  | some n =>
    rw [ed] at k
    refine ⟨p, g1, s1, R1, Post.mono (PoS.bindE0 (k.shift t1.stp)) fun r2 g2 s2 H2 _ R2 t2 k w hw => ?_⟩
    obtain ⟨m, rfl⟩ : ∃ m, n = .int m := by cases n <;> first | exact ⟨_, rfl⟩ | exact k.elim
    cases er : sto r2 with
    | none => rw [er] at k; exact k.elim
    | some y =>
      rw [er] at k
      cases (hu.vw ed).int
      obtain ⟨xs1, vs, ys, a, f1, f2, f3, f4, f5, f6, k⟩ := wrL_of R2 k
      rw [e1] at f4; cases f4
      obtain ⟨z1, rfl⟩ := gd_some f2
      obtain ⟨z1, z2⟩ := ba z1
      obtain ⟨z3, z4⟩ := ba z1
      obtain ⟨R3, t3⟩ := R2.rew f1 f3 (f6.ins (hw.rp er) m.toNat)
      have hz := fits_le z2
      have z3 : 0 ≤ m := dec z3
      have z4 : m < 16777216 := dec z4
      refine ⟨a, vs, m, w, rfl, rfl, f5, by rw [f6.length]; omega, z3, by omega, ?_⟩
      rw [show vs.take m.toNat ++ [w] ++ vs.drop m.toNat = vs.take m.toNat ++ w :: vs.drop m.toNat by simp]
      exact k g2 σ _ R3 (t2.stp.trans t3)
/-- name[k] = e -/
theorem snd_seti (C : CO q X W sc N) {i : Nat} {ke e : E} {st : Stmt} (G : GoodE (gdX X.prog X.w X.K X.mg X.base q) ke ∧ GoodE (gdX X.prog X.w X.K X.mg X.base q) e) (h : chkS q N sc (.seti i ke e) st = true) : PS X st (tS X.K q W (.seti i ke e)) := by
  unfold chkS at h
  split at h
  rotate_left
  · exact no h
  rename_i x p1 u p2 v pos
  obtain ⟨h, k5⟩ := ba h
  obtain ⟨h, k4⟩ := ba h
  obtain ⟨h, k3⟩ := ba h
  obtain ⟨k1, k2⟩ := ba h
  obtain ⟨h1, h2, h3, h4⟩ := C.vis k1
  refine PS.imp (ps_asg ((sndAll q e).e C G.2 k5).1 (pg_sub (pe_var h1 h2 h3 h4) ((sndAll q ke).e C G.1 k4).1 set_list (by cases u <;> first | (intro _; rfl) | exact no k2)) (by unfold swapsWithSole; exact swaps' k3) (by rfl) (by rfl)) fun D σ H ⟨p, g, s, R, k⟩ => ⟨p, g, s, R, ?_⟩
  unfold ex at k
  refine Post.mono (PoS.bindE0 k) fun r g1 s1 H1 _ R1 t1 k w hw => ?_
  split at k
  rotate_left
  · exact k.elim
  rename_i la
  obtain ⟨xs, b, ea⟩ := lstAt_of la
  obtain ⟨vv, e1, hv⟩ := R1.look ea
  refine ⟨vv, e1, p, g1, s1, R1, Post.mono (PoS.bindE0 (k.shift t1.stp)) fun r2 g2 s2 H2 _ R2 t2 k u hu => ?_⟩
  cases ed : r2.dat with
  | none => rw [ed] at k; exact k.elim
  | some n =>
    rw [ed] at k
    obtain ⟨m, rfl⟩ : ∃ m, n = .int m := by cases n <;> first | exact ⟨_, rfl⟩ | exact k.elim
    cases er : sto r with
    | none => rw [er] at k; exact k.elim
    | some y =>
      rw [er] at k
      cases (hu.vw ed).int
      obtain ⟨xs1, vs, ys, a, f1, f2, f3, f4, f5, f6, k⟩ := wrL_of R2 k
      rw [e1] at f4; cases f4
      simp only [Option.map_eq_some_iff] at f2
      obtain ⟨j, hj, rfl⟩ := f2
      obtain ⟨R3, t3⟩ := R2.rew f1 f3 (f6.set j ((hw.rp er).mono (R1.kpE t2)))
      exact ⟨a, vs, m, j, rfl, rfl, f5, by rw [f6.length]; exact hj, k g2 σ _ R3 (t2.stp.trans t3)⟩
def augR (i : Nat) (o : Bop) (x y : D) (s2 : State) : R State Flow := match x, y, binop o x y with
  | .int _, .int _, some (.sh z) => .ok .nxt ⟨s2.r.set i (.v z false), s2.S⟩
  | _, _, _ => .bad
/-- name += e -/
theorem snd_aug (C : CO q X W sc N) (hf : ∀ x, X.fn x = true) {o : Bop} {i : Nat} {e : E} {st : Stmt} (G : GoodE (gdX X.prog X.w X.K X.mg X.base q) e) (h : chkS q N sc (.aug o i e) st = true) : PS X st (tS X.K q W (.aug o i e)) := by
  unfold chkS at h
  split at h
  rotate_left
  · exact no h
  rename_i x p1 op v pos
  obtain ⟨h, k4⟩ := ba h
  obtain ⟨h, k3⟩ := ba h
  obtain ⟨k1, k2⟩ := ba h
  obtain ⟨l1, l2, l3⟩ := C.loc (d := true) (fun _ => hf) k1
  cases dec k2
  have key : ∀ {f : Int → Int → Int}, PIp X (opOf o) (ipI f) → (∀ m n, binop o (.int m) (.int n) = some (.sh (.int (f m n)))) → PS X (.AugAssign (.Name x p1) (opOf o) v pos) (tS X.K q W (.aug o i e)) := fun {f} hp hb => by
    refine PS.imp (ps_aug (by rw [C.hN]; exact C.nd) l1 l2 ((sndAll q e).e C G k4).1 hp l3) fun D σ H ⟨p, g, s, R, k⟩ => ?_
    unfold ex at k
    simp only [ev] at k
    split at k
    rotate_left
    · exact k.elim
    rename_i x b ea
    obtain ⟨vv, e1, hv⟩ := R.look ea
    have k : PoS (FX X.K q p) W g H ((ev e s).dat fun y s2 => augR i o x y s2) D := k
    refine ⟨vv, e1, p, g, s, R, Post.mono (PoS.bindE0 k) fun r g1 s1 H1 _ R1 t1 k w hw => ?_⟩
    cases ed : r.dat with
    | none => rw [ed] at k; exact k.elim
    | some y =>
      rw [ed] at k
      have k : PoS (FX X.K q p) W g H (augR i o x y s1) D := k
      obtain ⟨m, rfl⟩ : ∃ m, x = .int m := by cases x <;> first | exact ⟨_, rfl⟩ | exact k.elim
      obtain ⟨n, rfl⟩ : ∃ m, y = .int m := by cases y <;> first | exact ⟨_, rfl⟩ | exact k.elim
      unfold augR at k
      rw [hb] at k
      cases hv.int
      cases (hw.vw ed).int
      exact ⟨m, n, rfl, rfl, k _ _ H1 (R1.setS (i := i) (.int _)) (t1.trans stE_drop).stp⟩
  cases o <;> first | exact no k3 | exact key ip_add (fun _ _ => rfl) | exact key ip_sub (fun _ _ => rfl)
end
end MI

namespace MI
open PySem L2

/-! ### attributes are stored -/
section
theorem fr_put {K : PySem.W.Frag} {fn : List Str} {H : Hp} {P : Addr → Prop} {f : Nat} {m : Str} {v : V} {y : D} (nd : fn.Nodup) (hm : fn[f]? = some m) (hy : y.nol = true) (r : Rp K H P v y) : ∀ {vs : List (Str × V)} {xs : List (Nat × D)}, FR K fn H P vs xs → FR K fn H P (L2.putF m v vs) (MI.putF f y xs)
  | _, _, .nil => .cons hm hy r .nil
  | _, _, .cons (f := f') (nm := nm) (v := v') (x := x) e n r' t => by
    unfold L2.putF MI.putF
    by_cases z : f' = f
    · subst z
      rw [hm] at e; cases e
      rw [if_pos rfl, if_pos rfl]
      exact .cons hm hy r t
    · have n' : nm ≠ m := fun w => by
        subst w
        exact z ((List.getElem?_inj (List.getElem?_eq_some_iff.mp e).1 nd).mp (e.trans hm.symm))
      rw [if_neg n', if_neg z]
      exact .cons e n r' (fr_put nd hm hy r t)
theorem fr_len {K : PySem.W.Frag} {fn : List Str} {H : Hp} {P : Addr → Prop} : ∀ {vs : List (Str × V)} {xs : List (Nat × D)}, FR K fn H P vs xs → vs.length = xs.length
  | _, _, .nil => rfl
  | _, _, .cons _ _ _ t => by rw [List.length_cons, List.length_cons, fr_len t]
variable {F : Fx} {g : G} {s : State} {σ : L2.St} {H : Hp}
theorem RS.setF (R : RS F g s σ H) {j f : Nat} {o : Inst} {a dx : Addr} {vs : List (Str × V)} {m : Str} {v : V} {y : D} (e : s.S[j]? = some o) (ha : g.m[j]? = some a) (hH : H a = some (.ins (F.cl o.cls) dx vs)) (fr : FR F.K F.fn H (PP F g) vs o.fs) (nd : F.fn.Nodup) (hm : F.fn[f]? = some m) (hy : y.nol = true) (r : Rp F.K H (PP F g) v y) :
    RS F g ⟨s.r, s.S.set j ⟨o.cls, MI.putF f y o.fs⟩⟩ σ (upd H a (.ins (F.cl o.cls) dx (L2.putF m v vs))) ∧ Stp F g H g (upd H a (.ins (F.cl o.cls) dx (L2.putF m v vs))) := by
  have am : a ∈ g.m := List.mem_of_getElem? ha
  have kk : ∀ (b : Addr) (u : HO), H b = some u → b ≠ a → upd H a (.ins (F.cl o.cls) dx (L2.putF m v vs)) b = some u := fun b u h n => by rw [upd_ne n]; exact h
  have k : Kp (PP F g) g.m H (PP F g) (upd H a (.ins (F.cl o.cls) dx (L2.putF m v vs))) := ⟨R.ld, R.ins, fun b u h _ n _ => kk b u h fun z => n (z ▸ am), fun _ _ _ n => n⟩
  have nl : ∀ {b : Addr} {u : HO}, H b = some u → isLD u → b ≠ a := fun {b u} h l z => by
    rw [z, hH] at h; cases h; exact l
  have t : Stp F g H g (upd H a (.ins (F.cl o.cls) dx (L2.putF m v vs))) := by
    refine ⟨fun b u h _ n _ => kk b u h fun z => n (z ▸ am), fun c n t => tab_upd hH (.inr trivial) t, fun b u h => ?_, fun _ _ _ n => n, [], by simp, by simp⟩
    by_cases z : b = a
    · exact ⟨_, by rw [z]; exact upd_same⟩
    · exact ⟨u, kk b u h z⟩
  refine ⟨⟨R.len, fun i x e => ?_, fun i x e => ?_, R.ob, fun i ks e => let ⟨v, e1, h⟩ := R.dc i ks e; ⟨v, e1, h.mono k⟩, R.inj, fun i b e => ?_, fun b e => ?_, fun b u h n nt => ?_, fun b u h => ?_, fun p hp => tab_upd hH (.inr trivial) (R.tb p hp), R.i0, R.pre, R.st.nd, by rw [List.length_set]; exact R.st.len, fun l u e' => ?_⟩, t⟩
  · obtain ⟨w, h1, h2⟩ := R.sl i x e
    exact ⟨w, h1, h2.mono k⟩
  · obtain ⟨b, h1, h2, h3⟩ := R.ow i x e
    exact ⟨b, h1, h2, h3.mono k fun u l z => kk b u z (nl z l)⟩
  · obtain ⟨h1, h2, u, h3, h4⟩ := R.own i b e
    exact ⟨h1, h2, u, kk b u h3 (nl h3 h4), h4⟩
  · obtain ⟨u, h3, h4⟩ := R.p0 b e
    exact ⟨u, kk b u h3 (nl h3 h4), h4⟩
  · have h1 := R.k0 b u h n nt
    refine kk b u h1 fun z => ?_
    obtain ⟨r, e1, n1⟩ := R.pre
    rw [z] at h n
    rw [e1] at am
    rcases List.mem_append.mp am with w | w
    · exact n w
    · rw [n1 a w] at h; cases h
  · by_cases z : b = a
    · exact ⟨_, by rw [z]; exact upd_same⟩
    · obtain ⟨o1, e1⟩ := R.d0 b u h
      exact ⟨o1, kk b o1 e1 z⟩
  · by_cases hl : l = j
    · subst hl
      have hj : l < s.S.length := (List.getElem?_eq_some_iff.mp e).1
      rw [List.getElem?_set_self hj] at e'
      cases e'
      exact ⟨a, dx, _, ha, upd_same, (fr_put nd hm hy r fr).mono k⟩
    · rw [List.getElem?_set_ne (Ne.symm hl)] at e'
      obtain ⟨b, dx', ws, h1, h2, h3⟩ := R.st.at_ l u e'
      refine ⟨b, dx', ws, h1, kk b _ h2 fun z => hl ?_, h3.mono k⟩
      subst z
      exact (List.getElem?_inj (List.getElem?_eq_some_iff.mp h1).1 R.st.nd).mp (h1.trans ha.symm)
theorem setA_of {i c f : Nat} {x : D} {W : L2.WX} {g' : G} {H' : Hp} {Dn : Ends} (R : RS F g s σ H) (k : PoS F W g' H' (setA i c f x s) Dn) :
    ∃ j o a dx vs, s.r[i]? = some (.o j) ∧ s.S[j]? = some o ∧ g.m[j]? = some a ∧ σ[i]? = some (some (.ref a)) ∧ H a = some (.ins (F.cl c) dx vs) ∧ FR F.K F.fn H (PP F g) vs o.fs ∧ o.cls = c ∧ o.fs.length < 900 ∧ x.nol = true ∧ PoS F W g' H' (.ok .nxt ⟨s.r, s.S.set j ⟨c, MI.putF f x o.fs⟩⟩) Dn := by
  unfold setA at k
  split at k
  · next j e =>
    split at k
    · next o eo =>
      split at k
      · next h =>
        obtain ⟨a, h1, h2⟩ := R.ob i j e
        obtain ⟨a', dx, vs, h3, h4, h5⟩ := R.st.at_ j o eo
        rw [h1] at h3; cases h3
        exact ⟨j, o, a, dx, vs, e, eo, h1, h2, by rw [← h.1.1]; exact h4, h5, h.1.1, h.1.2, h.2, k⟩
      · exact k.elim
    · exact k.elim
  · exact k.elim
end
section
variable {q : Bs} {X : Cx} {W : L2.WX} {sc : Scope} {N : List Str}
theorem snd_setf (C : CO q X W sc N) {i c f : Nat} {e : E} {st : Stmt} (G : (gdX X.prog X.w X.K X.mg X.base q).fld c f ∧ GoodE (gdX X.prog X.w X.K X.mg X.base q) e) (h : chkS q N sc (.setf i c f e) st = true) (snd : ∀ {ex : Expr}, chkE q N sc e ex = true → PE X ex (tE X.K q W e)) : PS X st (tS X.K q W (.setf i c f e)) := by
  unfold chkS at h
  split at h
  rotate_left
  · exact no h
  rename_i y yp m ap v pos
  obtain ⟨h, k5⟩ := ba h
  obtain ⟨h, k4⟩ := ba h
  obtain ⟨h, k3⟩ := ba h
  obtain ⟨k1, k2⟩ := ba h
  obtain ⟨v1, v2, v3, v4⟩ := C.vis k1
  have hg : FlK X.K q c f := G.1
  refine PS.imp (ps_fld (pe_var v1 v2 v3 v4) (snd k5) (swaps' k4)) fun D σ H ⟨p, g, s, R, k⟩ => ⟨p, g, s, R, ?_⟩
  unfold ex at k
  refine Post.mono (PoS.bindE0 k) fun r g1 s1 H1 _ R1 t1 k w hw => ?_
  cases er : sto r with
  | none => rw [er] at k; exact k.elim
  | some x =>
    rw [er] at k
    obtain ⟨j, o, a, dx, vs, e1, e2, e3, e4, e5, e6, e7, e8, e9, k⟩ := setA_of R1 k
    subst e7
    obtain ⟨R2, t2⟩ := R1.setF (f := f) (m := m) e2 e3 e5 e6 (dec k3) (dec k2) e9 (hw.rp er)
    exact ⟨_, e4, a, _, dx, vs, rfl, e5, hg.cl, hg.no m (dec k2), by rw [fr_len e6]; omega, k g1 σ _ R2 (t1.stp.trans t2)⟩
def fldR (i c f : Nat) (s : State) : R State EV := match s.r[i]? with
    | some (.o j) => (match s.S[j]? with
      | some o => if o.cls = c then orBad ((o.fs.lookup f).map .sh) s else .bad
      | none => .bad)
    | _ => .bad
theorem ev_fldR (i c f : Nat) (s : State) : ev (.fld i c f) s = fldR i c f s := by
  unfold fldR
  simp only [ev] <;> rfl
def augfR (o : Bop) (i c f : Nat) (x y : D) (s2 : State) : R State Flow := match x, y, binop o x y with
    | .int _, .int _, some (.sh z) => setA i c f z s2
    | _, _, _ => .bad
theorem snd_augf (C : CO q X W sc N) {o : Bop} {i c f : Nat} {e : E} {st : Stmt} (G : (gdX X.prog X.w X.K X.mg X.base q).fld c f ∧ GoodE (gdX X.prog X.w X.K X.mg X.base q) e) (h : chkS q N sc (.augf o i c f e) st = true) (snd : ∀ {ex : Expr}, chkE q N sc e ex = true → PE X ex (tE X.K q W e)) : PS X st (tS X.K q W (.augf o i c f e)) := by
  unfold chkS at h
  split at h
  rotate_left
  · exact no h
  rename_i y yp m ap op v pos
  obtain ⟨h, k6⟩ := ba h
  obtain ⟨h, k5⟩ := ba h
  obtain ⟨h, k4⟩ := ba h
  obtain ⟨h, k3⟩ := ba h
  obtain ⟨k1, k2⟩ := ba h
  obtain ⟨v1, v2, v3, v4⟩ := C.vis k1
  have hg : FlK X.K q c f := G.1
  cases dec k4
  have key : ∀ {fi : Int → Int → Int} {rd : V → V → Hp → VK → Prop}, InOp X (opOf o) rd → (∀ m n H Q, Q (V.int (fi m n)) H → rd (.int m) (.int n) H Q) → (∀ m n, binop o (.int m) (.int n) = some (.sh (.int (fi m n)))) → PS X (.AugAssign (.Attribute (.Name y yp) m ap) (opOf o) v pos) (tS X.K q W (.augf o i c f e)) := fun {fi rd} hp hq hb => by
    refine PS.imp (ps_fldaug (pe_var v1 v2 v3 v4) (snd k6) hp) fun D σ H ⟨p, g, s, R, k⟩ => ?_
    unfold ex at k
    have k : PoS (FX X.K q p) W g H ((ev (.fld i c f) s).dat fun x s1 => (ev e s1).dat fun y s2 => augfR o i c f x y s2) D := k
    rw [ev_fldR] at k
    unfold fldR at k
    split at k
    rotate_left
    · exact k.elim
    rename_i j ej
    split at k
    rotate_left
    · exact k.elim
    rename_i ob eo
    by_cases hc : ob.cls = c
    rotate_left
    · rw [if_neg hc] at k; exact k.elim
    rw [if_pos hc] at k
    obtain ⟨A, z1, z2⟩ := R.ob i j ej
    obtain ⟨A', dx, vs, w1, w2, w3⟩ := R.st.at_ j ob eo
    rw [z1] at w1; cases w1
    rw [hc] at w2
    cases el : ob.fs.lookup f with
    | none => rw [el] at k; exact k.elim
    | some d =>
      rw [el] at k
      have k : PoS (FX X.K q p) W g H ((ev e s).dat fun y s2 => augfR o i c f d y s2) D := k
      obtain ⟨u, e1, r⟩ := fr_get (dec k3) (dec k2) w3 el
      refine ⟨_, z2, A, _, dx, vs, u, rfl, w2, hg.cl, hg.no m (dec k2), e1, p, g, s, R, Post.mono (PoS.bindE0 k) fun r2 g1 s1 H1 _ R1 t1 k w hw => ?_⟩
      cases ed : r2.dat with
      | none => rw [ed] at k; exact k.elim
      | some y2 =>
        rw [ed] at k
        have k : PoS (FX X.K q p) W g H (augfR o i c f d y2 s1) D := k
        obtain ⟨m1, rfl⟩ : ∃ m, d = .int m := by cases d <;> first | exact ⟨_, rfl⟩ | exact k.elim
        obtain ⟨n1, rfl⟩ : ∃ m, y2 = .int m := by cases y2 <;> first | exact ⟨_, rfl⟩ | exact k.elim
        unfold augfR at k
        rw [hb] at k
        cases r
        cases (hw.vw ed).int
        obtain ⟨j', o', a, dx', vs', q1, q2, q3, q4, q5, q6, q7, q8, q9, k⟩ := setA_of R1 k
        rw [z2] at q4; cases q4
        subst q7
        obtain ⟨R2, t2⟩ := R1.setF (f := f) (m := m) q2 q3 q5 q6 (dec k3) (dec k2) q9 (.int (fi m1 n1))
        exact hq _ _ _ _ ⟨dx', vs', q5, by rw [fr_len q6]; omega, k g1 σ _ R2 (t1.stp.trans t2)⟩
  cases o <;> first | exact no k5 | exact key in_add (fun _ _ _ _ h => ⟨_, _, rfl, rfl, h⟩) (fun _ _ => rfl) | exact key in_sub (fun _ _ _ _ h => ⟨_, _, rfl, rfl, h⟩) (fun _ _ => rfl)
end
end MI

namespace MI
open PySem L2

/-! ### d[k] = e -/
section
variable {q : Bs} {X : Cx} {W : L2.WX} {sc : Scope} {N : List Str}
/-- a key that is made just there: a tuple of the heap -/
def tKy (K : PySem.W.Frag) (q : Bs) (W : L2.WX) (c : E) : TE := fun σ H Q => ∃ (p : Pv) (g : G) (s : State), RS (FX K q p) g s σ H ∧ Post (FX K q p) W g σ H (keyE ev evA evO c s) fun y g' _ H' => ∀ b H2 xs ds, Gr H' H2 → H2 b = some (.tup xs) → y = .tup ds → RpA K H2 (PP (FX K q p) g') xs ds → Q (.ref b) H2
theorem snd_key (C : CO q X W sc N) {c : E} {u : Expr} (G : GoodE (gdX X.prog X.w X.K X.mg X.base q) c) (h : chkE q N sc c u = true) : PE X u (tKy X.K q W c) := by
  have bad : (∀ s, keyE ev evA evO c s = .bad) → PE X u (tKy X.K q W c) := fun z => ⟨fun pins s σ H Q I ⟨p, g, st, R, k⟩ => by rw [z] at k; exact k.elim⟩
  cases c <;> first | exact bad (fun _ => rfl) | skip
  · rename_i as
    unfold chkE at h
    split at h <;> first | exact no h | skip
    obtain ⟨k0, k1⟩ := ba h
    have hA := ((sndAll q as).a C G k1).1
    refine PE.imp (pe_tup hA) fun σ H Q ⟨p, g, s, R, k⟩ => ⟨p, g, s, R, ?_⟩
    unfold keyE at k
    refine Post.mono (Post.bind k) fun xs g1 s1 H1 e R1 t1 k vs hvs => ⟨?_, fun b hb => ?_⟩
    · rw [hvs.length, evA_len as _ _ _ _ e k1]; exact small1000 (dec k0)
    obtain ⟨r, er, k⟩ := Post.orBad (k t1)
    simp only [Option.map_eq_some_iff] at er
    obtain ⟨ds, e1, rfl⟩ := er
    exact k g1 H1 R1 .refl .refl b _ vs ds (.inr ⟨b, _, hb, rfl⟩) upd_same rfl (((hvs.dats e1).mono (R1.rd2.kpa (o := .tup vs) hb)).anti fun _ => .inl)
  · rename_i a lo hi
    unfold chkE at h
    split at h <;> first | exact no h | skip
    rename_i ea es pos
    cases es <;> first | exact no h | skip
    rename_i l u st p2
    cases st <;> first | exact no h | skip
    obtain ⟨h, k3⟩ := ba (show (chkE q _ _ a ea && chkO q _ _ lo l && chkO q _ _ hi u) = true from h)
    obtain ⟨k1, k2⟩ := ba h
    refine PE.imp (pe_slice sl_tupA ((sndAll q a).e C G.1 k1).1 ((sndAll q lo).o C G.2.1 k2) ((sndAll q hi).o C G.2.2 k3)) fun σ H Q ⟨p, g, s, R, k⟩ => ⟨p, g, s, R, ?_⟩
    unfold keyE at k
    refine Post.mono (Post.dat k) fun va g1 s1 H1 _ R1 t1 k v hv => ?_
    obtain ⟨x, ex, k⟩ := k t1
    refine ⟨p, g1, s1, R1, Post.mono (Post.bind k) fun o1 g2 s2 H2 _ R2 t2 k => ?_⟩
    refine ⟨p, g2, s2, R2, Post.mono (Post.bind (k t2)) fun o2 g3 s3 H3 _ R3 t3 k => ?_⟩
    have hw := ((hv.mono R1 t2).mono R2 t3).vw ex
    have k := k t3
    cases x <;> first | exact k.elim | skip
    rename_i xs
    dsimp only at k
    split at k
    · next hlt =>
      obtain ⟨b, us, rfl, h1, r1⟩ := hw.tup
      have hc := cut_r o1 o2 r1
      refine ⟨b, us, rfl, h1, fun z => ?_, fun _ b hb => ?_⟩
      · exfalso
        have hl := hc.length
        unfold cutV at hl
        rw [z.1, z.2] at hl
        have := r1.length
        simp at hl
        omega
      · exact k g3 H3 R3 .refl .refl t3 (t2.trans t3) b _ _ _ (.inr ⟨b, _, hb, rfl⟩) upd_same rfl ((hc.mono (R3.rd2.kpa (o := .tup (cutV us o1 o2)) hb)).anti fun _ => .inl)
    · exact k.elim
theorem dctAt_of {i : Nat} {s : State} (h : dctAt i s = true) : ∃ ks xs b, s.r[i]? = some (.v (.dct ks xs) b) := by
  unfold dctAt at h
  split at h
  · exact ⟨_, _, _, by assumption⟩
  · cases h
theorem dciAt_of {i : Nat} {s : State} (h : dciAt i s = true) : ∃ ks xs b, s.r[i]? = some (.v (.dci ks xs) b) := by
  unfold dciAt at h
  split at h
  · exact ⟨_, _, _, by assumption⟩
  · cases h
theorem putI_ok {K : PySem.W.Frag} {H : Hp} {P : Addr → Prop} {n : Int} {v : V} {x : D} {kvs : List (L2.Key × V)} {ks : List Int} {ds : List D} (hv : Rp K H P v x) (e : kvs.map (·.1) = ks.map Sum.inl) (r : RpA K H P (kvs.map (·.2)) ds) :
    (putK kvs (.inl n) v).map (·.1) = (putI n x ks ds).1.map Sum.inl ∧ RpA K H P ((putK kvs (.inl n) v).map (·.2)) (putI n x ks ds).2 := by
  have hm : (kvs.any fun kv => decide (kv.1 = (Sum.inl n : L2.Key))) = decide (n ∈ ks) := by
    rw [Bool.eq_iff_iff, List.any_eq_true, decide_eq_true_iff]
    constructor
    · rintro ⟨p, hp, h⟩
      have h := of_decide_eq_true h
      have : p.1 ∈ ks.map Sum.inl := by rw [← e]; exact List.mem_map.mpr ⟨p, hp, rfl⟩
      rw [h] at this
      obtain ⟨m, h1, h2⟩ := List.mem_map.mp this
      cases h2
      exact h1
    · intro h
      have : (Sum.inl n : L2.Key) ∈ kvs.map (·.1) := by rw [e]; exact List.mem_map.mpr ⟨n, h, rfl⟩
      obtain ⟨p, h1, h2⟩ := List.mem_map.mp this
      exact ⟨p, h1, decide_eq_true h2⟩
  unfold putK putI
  rw [hm]
  by_cases z : n ∈ ks
  · rw [if_pos (decide_eq_true z), if_pos z]
    refine ⟨?_, ?_⟩
    · rw [List.map_map, ← e]
      apply List.map_congr_left
      intro p _
      show (if p.1 = Sum.inl n then (p.1, v) else p).1 = p.1
      split <;> rfl
    · clear z hm
      dsimp only
      have go : ∀ (kvs : List (L2.Key × V)) (ks : List Int) (ds : List D), kvs.map (·.1) = ks.map Sum.inl → RpA K H P (kvs.map (·.2)) ds → RpA K H P ((kvs.map fun kv => if kv.1 = (Sum.inl n : L2.Key) then (kv.1, v) else kv).map (·.2)) (List.zipWith (fun c y => if c = n then x else y) ks ds) := by
        intro kvs
        induction kvs with
        | nil =>
          intro ks ds e r
          cases r
          cases ks with
          | nil => exact .nil
          | cons k ks => cases e
        | cons p kvs ih =>
          intro ks ds e r
          cases ks with
          | nil => cases e
          | cons k ks =>
            rw [List.map_cons, List.map_cons] at e
            injection e with e1 e2
            cases r with
            | cons h hs =>
              simp only [List.map_cons, List.zipWith_cons_cons, e1]
              by_cases z : k = n
              · rw [if_pos (by rw [z]), if_pos z]
                exact .cons hv (ih ks _ e2 hs)
              · rw [if_neg (fun q => z (by injection q)), if_neg z]
                exact .cons h (ih ks _ e2 hs)
      exact go kvs ks ds e r
  · rw [if_neg (by rw [decide_eq_false z]; decide), if_neg z]
    refine ⟨by simp [e], ?_⟩
    simp only [List.map_append, List.map_cons, List.map_nil]
    exact r.app (.cons hv .nil)
theorem snd_dpti (C : CO q X W sc N) {i : Nat} {ke e : E} {st : Stmt} (G : GoodE (gdX X.prog X.w X.K X.mg X.base q) ke ∧ GoodE (gdX X.prog X.w X.K X.mg X.base q) e) (h : chkS q N sc (.dpti i ke e) st = true) : PS X st (tS X.K q W (.dpti i ke e)) := by
  unfold chkS at h
  split at h
  rotate_left
  · exact no h
  rename_i x p1 u p2 v pos
  obtain ⟨h, k5⟩ := ba h
  obtain ⟨h, k4⟩ := ba h
  obtain ⟨h, k3⟩ := ba h
  obtain ⟨k1, k2⟩ := ba h
  obtain ⟨h1, h2, h3, h4⟩ := C.vis k1
  refine PS.imp (ps_dput (by have := C.u65; omega) (pe_var h1 h2 h3 h4) ((sndAll q ke).e C G.1 k4).1 ((sndAll q e).e C G.2 k5).1 (swaps' k3)) fun D σ H ⟨p, g, s, R, k⟩ => ⟨p, g, s, R, ?_⟩
  unfold ex at k
  refine Post.mono (PoS.bindE0 k) fun r g1 s1 H1 _ R1 t1 k w hw => ?_
  split at k
  rotate_left
  · exact k.elim
  rename_i la
  obtain ⟨ks0, xs0, b0, ea⟩ := dciAt_of la
  obtain ⟨vv, e1, hv⟩ := R1.look ea
  refine ⟨vv, e1, p, g1, s1, R1, Post.mono (PoS.bindE0 (k.shift t1.stp)) fun r2 g2 s2 H2 _ R2 t2 k u hu => ?_⟩
  cases ed : r2.dat with
  | none => rw [ed] at k; exact k.elim
  | some n =>
    rw [ed] at k
    obtain ⟨m, rfl⟩ : ∃ m, n = .int m := by cases n <;> first | exact ⟨_, rfl⟩ | exact k.elim
    cases er : sto r with
    | none => rw [er] at k; exact k.elim
    | some y =>
      rw [er] at k
      cases (hu.vw ed).int
      dsimp only at k
      unfold wrI at k
      split at k
      rotate_left
      · exact k.elim
      rename_i ks xs1 es
      split at k
      rotate_left
      · exact k.elim
      rename_i hf
      have hw2 := (hw.rp er).mono (R1.kpE t2)
      obtain ⟨a, o1, o2, kvs, o3, o4, o5⟩ := R2.ow i _ es
      rw [e1] at o2; cases o2
      have hz : kvs.length < sizeLine := by
        have h1 := fits_le hf
        have h2 := congrArg List.length o4
        rw [List.length_map, List.length_map] at h2
        omega
      obtain ⟨q1, q2⟩ := putI_ok (n := m) hw2 o4 o5
      obtain ⟨R4, t4⟩ := R2.rewO (u := .dK (putK kvs (.inl m) w)) (y := .dci (putI m y ks xs1).1 (putI m y ks xs1).2) es o1 trivial fun kp => ⟨_, upd_same, q1, q2.mono kp⟩
      exact ⟨a, _, rfl, .k (k := .inl m) o3 hz, k g2 σ _ R4 (t2.stp.trans t4)⟩
theorem rpA_zip {K : PySem.W.Frag} {H : Hp} {P : Addr → Prop} {key : List L2.Key} {v : V} {x : D} (hv : Rp K H P v x) : ∀ {kvs : List (List L2.Key × V)} {ds : List D}, RpA K H P (kvs.map (·.2)) ds →
    RpA K H P ((kvs.map fun kv => if kv.1 = key then (kv.1, v) else kv).map (·.2)) (List.zipWith (fun c y => if D.eqv c (kT key) = true then x else y) (kvs.map fun p => kT p.1) ds)
  | [], _, .nil => .nil
  | p :: r, _, .cons h hs => by
    simp only [List.map_cons, List.zipWith_cons_cons, kT_eqv, decide_eq_true_eq]
    by_cases e : p.1 = key
    · rw [if_pos e, if_pos e]
      exact .cons hv (rpA_zip (key := key) hv hs)
    · rw [if_neg e, if_neg e]
      exact .cons h (rpA_zip (key := key) hv hs)
theorem putD_ok {K : PySem.W.Frag} {H : Hp} {P : Addr → Prop} {key : List L2.Key} {v : V} {x : D} {kvs : List (List L2.Key × V)} {ds : List D} (hv : Rp K H P v x) (r : RpA K H P (kvs.map (·.2)) ds) :
    (putD (kT key) x (kvs.map fun p => kT p.1) ds).1 = (putK kvs key v).map (fun p => kT p.1) ∧ RpA K H P ((putK kvs key v).map (·.2)) (putD (kT key) x (kvs.map fun p => kT p.1) ds).2 := by
  unfold putD putK
  have e : memD (kT key) (kvs.map fun p => kT p.1) = kvs.any fun kv => decide (kv.1 = key) := by
    rw [memD_kT, valV_any]
  rw [e]
  by_cases z : (kvs.any fun kv => decide (kv.1 = key)) = true
  · rw [if_pos z, if_pos z]
    refine ⟨?_, rpA_zip hv r⟩
    rw [List.map_map]
    apply List.map_congr_left
    intro p _
    show kT p.1 = kT (if p.1 = key then (p.1, v) else p).1
    split <;> rfl
  · rw [if_neg z, if_neg z]
    refine ⟨by simp, ?_⟩
    simp only [List.map_append, List.map_cons, List.map_nil]
    exact r.app (.cons hv .nil)
theorem snd_dput (C : CO q X W sc N) {i : Nat} {ke e : E} {st : Stmt} (G : GoodE (gdX X.prog X.w X.K X.mg X.base q) ke ∧ GoodE (gdX X.prog X.w X.K X.mg X.base q) e) (h : chkS q N sc (.dput i ke e) st = true) : PS X st (tS X.K q W (.dput i ke e)) := by
  unfold chkS at h
  split at h
  rotate_left
  · exact no h
  rename_i x p1 u p2 v pos
  obtain ⟨h, k5⟩ := ba h
  obtain ⟨h, k4⟩ := ba h
  obtain ⟨h, k3⟩ := ba h
  obtain ⟨k1, k2⟩ := ba h
  obtain ⟨h1, h2, h3, h4⟩ := C.vis k1
  refine PS.imp (ps_dput (by have := C.u65; omega) (pe_var h1 h2 h3 h4) (snd_key C G.1 k4) ((sndAll q e).e C G.2 k5).1 (swaps' k3)) fun D σ H ⟨p, g, s, R, k⟩ => ⟨p, g, s, R, ?_⟩
  unfold ex at k
  refine Post.mono (PoS.bindE0 k) fun r g1 s1 H1 _ R1 t1 k w hw => ?_
  split at k
  rotate_left
  · exact k.elim
  rename_i la
  obtain ⟨ks0, xs0, b0, ea⟩ := dctAt_of la
  obtain ⟨vv, e1, hv⟩ := R1.look ea
  refine ⟨vv, e1, p, g1, s1, R1, Post.mono (PoS.bindE0 (k.shift t1.stp)) fun y g2 s2 H2 _ R2 t2 k b H3 xs ds gr hb hy hr => ?_⟩
  cases er : sto r with
  | none => rw [er] at k; exact k.elim
  | some x =>
    rw [er] at k
    dsimp only at k
    unfold wrD at k
    split at k
    rotate_left
    · exact k.elim
    rename_i ks xs1 es
    split at k
    rotate_left
    · exact k.elim
    rename_i hk
    obtain ⟨hk1, hf⟩ := ba hk
    clear hk
    have R3 := R2.grow gr.same
    have hw2 : Rp X.K H3 (PP (FX X.K q p) g2) w x := ((hw.rp er).mono (R1.kpE t2)).mono (R2.rd2.kp gr.same)
    obtain ⟨a, o1, o2, kvs, o3, o4, o5⟩ := R3.ow i _ es
    rw [e1] at o2; cases o2
    subst hy o4
    obtain ⟨key, e3, e4⟩ := hr.keys (show ds.all keyPart = true from hk1)
    subst e3 e4
    have hz : kvs.length < sizeLine := by
      have := fits_le hf
      rw [List.length_map] at this
      omega
    obtain ⟨q1, q2⟩ := putD_ok (key := key) hw2 o5
    obtain ⟨R4, t4⟩ := R3.rewO (u := .dT (putK kvs key w)) (y := .dct (putD (kT key) x (kvs.map fun p => kT p.1) xs1).1 (putD (kT key) x (kvs.map fun p => kT p.1) xs1).2) es o1 trivial fun kp => ⟨_, upd_same, q1, q2.mono kp⟩
    exact ⟨a, _, rfl, .t o3 hb hz, k g2 σ _ R4 (((t2.grow gr.same).stp).trans t4)⟩
end
end MI

namespace MI
open PySem L2

/-! ### raise -/
theorem RpA.revs {K : PySem.W.Frag} {H : Hp} {P : Addr → Prop} {ws : List (Str × V)} {vs : List D} (h : RpA K H P (ws.map (·.2)) vs) : RpA K H P (ws.reverse.map (·.2)) vs.reverse := by
  rw [List.map_reverse]
  exact h.rev
theorem nols_app : ∀ {xs ys : List D}, D.nols xs = true → D.nols ys = true → D.nols (xs ++ ys) = true
  | [], ys, _, h => h
  | x :: xs, ys, h, k => by
    simp only [List.cons_append, D.nols, Bool.and_eq_true] at h ⊢
    exact ⟨h.1, nols_app h.2 k⟩
theorem nols_rev {xs : List D} (h : D.nols xs = true) : D.nols xs.reverse = true := by
  induction xs with
  | nil => exact h
  | cons x xs ih =>
    simp only [D.nols, Bool.and_eq_true] at h
    rw [List.reverse_cons]
    exact nols_app (ih h.2) (by simp [D.nols, h.1])
theorem zipL_fst {fl : List Str} {vs : List V} (h : vs.length = fl.length) : (fl.zip vs).map (·.1) = fl := by
  rw [List.map_fst_zip (by omega)]
theorem zipL_snd {fl : List Str} {vs : List V} (h : vs.length = fl.length) : (fl.zip vs).map (·.2) = vs := by
  rw [List.map_snd_zip (by omega)]
section
variable {q : Bs} {X : Cx} {W : L2.WX} {sc : Scope} {N : List Str}
theorem snd_raise (C : CO q X W sc N) {c : List Nat} {ks : List (List Nat)} {as : E} {x : Str} {p1 p2 pos : Pos} {ea : Expr} {es : List Expr} (h1 : glo sc x = true) (h2 : x = sS c) (h3 : chkA q N sc as (ea :: es) = true) (g : RsK X.prog X.w X.K X.mg X.base q c ks) (hA : PA X (ea :: es) (tA X.K q W as)) :
    PS X (.Raise (some (.Call (.Name x p1) (ea :: es) [] p2)) none pos) (tS X.K q W (.raise c ks as)) := by
  subst h2
  obtain ⟨gl, db⟩ := C.glo h1
  obtain ⟨st1, st2⟩ := ba (show (notStar ea && allStar es) = true from chkA_star h3)
  obtain ⟨fI, fd, ps, j, z1, z2, z3, z4, z5⟩ := g.ex
  refine PS.imp (ps_raise C.calm C.tk (pmk_x g.oex g.no g.hl z1 z2 z5 (C.room.mono z4) z3 (passes_call C.tk fun _ _ _ _ z => z.elim) gl g.hmg hA db (starEach_cons st1) (star_none st2))) fun D σ H ⟨p, g0, s, R, k⟩ => ⟨p, g0, s, R, ?_⟩
  unfold ex at k
  refine Post.mono (PoS.bindE k) fun xs g1 s1 H1 _ R1 t1 k vs hvs => ?_
  cases ed : dats xs with
  | none => rw [ed] at k; exact k.elim
  | some ds =>
    rw [ed] at k
    dsimp only at k
    split at k
    · next hc =>
      obtain ⟨l1, l2⟩ := ba hc
      have rr := hvs.dats ed
      have lv : vs.length = (ks.map sS).length := by rw [List.length_map, ← dec l1, rr.length]
      refine ⟨lv, fun dx hn => ?_⟩
      refine k g1 σ (upd H1 dx (.xd ((ks.map sS).zip vs).reverse)) _ _ (R1.alloc hn) ((StE.refl (g := g1)).alloc hn).stp ⟨rfl, .inr ⟨dx, _, rfl, upd_same, ?_, nols_rev l2, ?_⟩⟩
      · rw [List.map_reverse, zipL_fst lv, List.map_reverse]
      · refine RpA.revs ?_
        rw [zipL_snd lv]
        exact rr.mono (kp_grow R1 (same_upd hn))
    · exact k.elim
/-! ### try -/
structure CS (X : Cx) (sc : Scope) (N : List Str) : Prop where
  hsc : X.env.scope = sc
  hN : X.N = N
theorem CS.vis (C : CS X sc N) {i : Nat} {x : Str} (h : vis N sc i x = true) : X.N[i]? = some x ∧ Vis X.env.scope x ∧ (x == ("__debug__" : Str)) = false ∧ (x == ("__classdict__" : Str)) = false := by
  obtain ⟨h, h4⟩ := ba h
  obtain ⟨h, h3⟩ := ba h
  obtain ⟨h1, h2⟩ := ba h
  refine ⟨by rw [C.hN]; exact dec h1, ?_, by simpa using h3, by simpa using h4⟩
  unfold Vis
  rw [C.hsc]
  unfold visK at h2
  split at h2 <;> simp_all
theorem hot_var (C : CS X sc N) {i : Nat} {x : Str} {pos : Pos} (h : MI.vis N sc i x = true) : PE X (.Name x pos) (tE X.K q W (.var i)) := by
  obtain ⟨h1, h2, h3, h4⟩ := C.vis h
  refine PE.imp (pe_var h1 h2 h3 h4) fun σ H Q ⟨p, g, s, R, k⟩ => ?_
  unfold ev at k
  split at k
  · next y b e =>
    obtain ⟨v, e1, r, R'⟩ := R.unown e
    exact ⟨v, e1, k _ H R' stE_drop v r⟩
  · next j e =>
    obtain ⟨a, e1, e2⟩ := R.ob i j e
    exact ⟨_, e2, k g H R .refl _ ⟨a, e1, rfl⟩⟩
  · exact k.elim
structure HotP (q : Bs) (c : E) : Prop where
  e : ∀ {X : Cx} {W : L2.WX} {sc : Scope} {N : List Str} {ex : Expr}, CS X sc N → GoodE (gdX X.prog X.w X.K X.mg X.base q) c → hotE N sc c ex = true → PE X ex (tE X.K q W c)
  a : ∀ {X : Cx} {W : L2.WX} {sc : Scope} {N : List Str} {es : List Expr}, CS X sc N → GoodE (gdX X.prog X.w X.K X.mg X.base q) c → hotA N sc c es = true → PA X es (tA X.K q W c) ∧ ∀ s xs s', evA c s = .ok xs s' → xs.length = es.length
theorem hot_all (q : Bs) (c : E) : HotP q c := by
  induction c with
  | var i =>
    refine ⟨fun C G h => ?_, fun _ _ h => no h⟩
    unfold hotE at h
    split at h <;> first | exact no h | exact hot_var C h
  | kn =>
    refine ⟨fun C G h => ?_, fun _ _ h => no h⟩
    unfold hotE at h
    split at h <;> first | exact no h | exact PE.imp pe_non fun σ H Q ⟨p, g, s, R, k⟩ => k g H R .refl _ .non
  | kb b =>
    refine ⟨fun C G h => ?_, fun _ _ h => no h⟩
    unfold hotE at h
    split at h <;> first | exact no h | skip
    have e : _ = _ := eq_of_beq h
    subst e
    exact PE.imp pe_bl fun σ H Q ⟨p, g, s, R, k⟩ => k g H R .refl _ (.bl _)
  | ks x =>
    refine ⟨fun C G h => ?_, fun _ _ h => no h⟩
    unfold hotE at h
    split at h <;> first | exact no h | skip
    have e : _ = _ := dec h
    subst e
    exact PE.imp pe_str fun σ H Q ⟨p, g, s, R, k⟩ => k g H R .refl _ (.str _)
  | xf a f cs ia =>
    refine ⟨fun C G h => ?_, fun _ _ h => no h⟩
    cases a <;> first | (unfold hotE at h; exact no h) | skip
    rename_i i
    unfold hotE at h
    split at h <;> first | exact no h | skip
    obtain ⟨k1, k2⟩ := ba h
    cases dec k2
    exact PE.imp (pe_xfT (hot_var C k1)) fun σ H Q h => xf_reads G.1 h
  | tup as ia =>
    refine ⟨@fun X W sc N es0 C G h => ?_, fun _ _ h => no h⟩
    unfold hotE at h
    split at h <;> first | exact no h | skip
    obtain ⟨k1, k2⟩ := ba h
    obtain ⟨hA, hl⟩ := ia.a (W := W) C G k2
    refine PE.imp (pe_tup hA) fun σ H Q ⟨p, g, s, R, k⟩ => ⟨p, g, s, R, ?_⟩
    unfold ev at k
    refine Post.mono (Post.bind k) fun xs g1 s1 H1 e R1 t1 k vs hvs => ⟨?_, fun b hb => ?_⟩
    · rw [hvs.length, hl _ _ _ e]; exact small1000 (dec k1)
    obtain ⟨r, er, k⟩ := Post.orBad (k t1)
    simp only [Option.map_eq_some_iff] at er
    obtain ⟨ds, e1, rfl⟩ := er
    have rr := fun o => (hvs.dats e1).mono (R1.rd2.kpa (o := o) hb)
    exact k g1 _ (R1.alloc hb) (StE.refl.alloc hb) (StE.refl.alloc hb) _ (.tup (.of upd_same) ((rr _).anti fun _ => .inl))
  | nil =>
    refine ⟨fun _ _ h => no h, fun C G h => ?_⟩
    rename_i es
    unfold hotA at h
    have : es = [] := by simpa using h
    subst this
    exact ⟨snd_nilA.1, fun s xs s' h => by unfold evA at h; cases h; rfl⟩
  | cons a as ia ib =>
    refine ⟨fun _ _ h => no h, @fun X W sc N es0 C G h => ?_⟩
    unfold hotA at h
    split at h <;> first | exact no h | skip
    rename_i e es
    obtain ⟨k0, h⟩ := ba h
    obtain ⟨k1, k2⟩ := ba h
    obtain ⟨hA, hl⟩ := ib.a (W := W) C G.2 k2
    refine ⟨PA.imp (pa_cons (ia.e (W := W) C G.1 k1) hA (starEach_cons k0)) fun σ H Q ⟨p, g, s, R, k⟩ => ⟨p, g, s, R, ?_⟩, fun s xs s' h => ?_⟩
    · unfold evA at k
      refine Post.mono (Post.bind k) fun va g1 s1 H1 _ R1 t1 k v hv => ?_
      have k := k t1
      cases e : va.slot with
      | none => rw [e] at k; exact k.elim
      | some x =>
        rw [e] at k
        exact ⟨p, g1, s1, R1, Post.mono (Post.bind k) fun xs g2 s2 H2 _ R2 t2 k vs hvs => k t2 g2 H2 R2 .refl .refl t2 _ (.cons ((hv.arg e).mono R1 t2) hvs)⟩
    · unfold evA at h
      cases e1 : ev a s with
      | bad => rw [e1] at h; cases h
      | exc x s1 => rw [e1] at h; cases h
      | ok v s1 =>
        rw [e1] at h
        cases e2 : v.slot with
        | none => simp only [R.bind, e2] at h; cases h
        | some x =>
          cases e3 : evA as s1 with
          | bad => simp only [R.bind, e2, e3] at h; cases h
          | exc y s2 => simp only [R.bind, e2, e3] at h; cases h
          | ok ys s2 =>
            simp only [R.bind, e2, e3] at h
            cases h
            rw [List.length_cons, List.length_cons, hl _ _ _ e3]
  | _ => exact ⟨fun _ _ h => no h, fun _ _ h => no h⟩
def tHS (K : PySem.W.Frag) (q : Bs) (W : L2.WX) (c : HS) : TS := fun D σ H => ∃ (p : Pv) (g : G) (s : State), RS (FX K q p) g s σ H ∧ PoS (FX K q p) W g H (exHS c s) D
theorem snd_hs (C : CS X sc N) (nd : N.Nodup) (hf : ∀ x, X.fn x = true) {c : HS} {st : Stmt} (G : GoodHS (gdX X.prog X.w X.K X.mg X.base q) c) (h : hotS N sc c st = true) : PS X st (tHS X.K q W c) := by
  cases c with
  | set m e =>
    simp only [hotS] at h
    split at h <;> first | exact no h | skip
    rename_i y py v pos
    obtain ⟨k1, h⟩ := ba h
    obtain ⟨k2, h⟩ := ba h
    obtain ⟨k4, k3⟩ := ba h
    have l1 : X.N[m]? = some y ∧ L2.Loc X.env.scope y := by
      obtain ⟨z1, z2⟩ := ba k1
      refine ⟨by rw [C.hN]; exact dec z1, ?_⟩
      rw [if_pos rfl] at z2
      unfold L2.Loc
      rw [C.hsc]
      unfold locK at z2
      split at z2 <;> simp_all
    refine PS.imp (ps_set (by rw [C.hN]; exact nd) l1.1 l1.2 ((hot_all q e).e (W := W) C G k3) (swaps' k2) (.inl (hf y))) fun D σ H ⟨p, g, s, R, k⟩ => ?_
    refine set_reads (t := .one m) (tdy_ok k4) ⟨p, g, s, R, ?_⟩
    unfold ex
    unfold exHS at k
    exact k
  | ret e =>
    simp only [hotS] at h
    split at h <;> first | exact no h | skip
    refine PS.imp (ps_ret ((hot_all q e).e (W := W) C G h)) fun D σ H ⟨p, g, s, R, k⟩ => ⟨p, g, s, R, ?_⟩
    unfold exHS at k
    refine Post.mono (PoS.bindE k) fun a g1 s1 H1 _ R1 t1 k v hv => ?_
    cases a <;> first | exact k.elim | exact PoS.now R1 k v _ noTb (hv.back R.h0all)

def clauseOf (K : PySem.W.Frag) (q : Bs) (W : L2.WX) (h : Hd) : Clause := ⟨.ref (He.ga K (sS h.t)), h.v, fun _ _ _ => tHS K q W h.st⟩
/-- a def's frame -/
structure TC (X : Cx) : Prop where
  st : X.stack = X.env :: X.outer
  fr : X.env.frame = some X.env.locals
  ex : X.ex = []
theorem cl_ok (C : CO q X W sc N) (hf : ∀ x, X.fn x = true) : ∀ (hs : List Hd) (es : List ExceptHandler), (∀ h ∈ hs, X.mg (sS h.t) = some (.ref (He.ga X.K (sS h.t))) ∧ GoodHS (gdX X.prog X.w X.K X.mg X.base q) h.st) → chkH N sc hs es = true → ClOk X es (hs.map (clauseOf X.K q W))
  | [], es, _, h => by
    have : es = [] := by simpa [chkH] using h
    subst this
    exact .nil
  | k :: hs, es, hg, h => by
    simp only [chkH] at h
    split at h <;> first | exact absurd h Bool.false_ne_true | skip
    rename_i x np n st po es
    obtain ⟨k1, h⟩ := ba h
    obtain ⟨k2, h⟩ := ba h
    obtain ⟨k3, h⟩ := ba h
    obtain ⟨k4, k5⟩ := ba h
    obtain ⟨gl, db⟩ := C.glo k1
    cases dec k2
    obtain ⟨g1, g2⟩ := hg k List.mem_cons_self
    have nm : Names X (sS k.t) (clauseOf X.K q W k).c := ⟨gl, db, .inl g1⟩
    have su : ∀ (a : Addr) (cls : Value) (d : Option Addr) (pn : List (Addr × Obj)), PSs (X.suite a pn) [st] ((clauseOf X.K q W k).ts a cls d) := fun a cls d pn => pss_one (snd_hs (X := X.suite a pn) (W := W) ⟨C.hsc, C.hN⟩ C.nd hf g2 k4)
    have ih := cl_ok C hf hs es (fun h hh => hg h (List.mem_cons_of_mem _ hh)) k5
    have e0 : (clauseOf X.K q W k).i = k.v := rfl
    cases hv : k.v with
    | none =>
      cases n with
      | none => exact .one nm (e0.trans hv) su ih
      | some y => rw [hv] at k3; cases k3
    | some i =>
      cases n with
      | none => rw [hv] at k3; cases k3
      | some y =>
        rw [hv] at k3
        obtain ⟨z1, z2⟩ := ba k3
        exact .as nm (e0.trans hv) (by rw [C.hN]; exact dec z1) (by show X.env.scope.names.lookup y = some .local; rw [C.hsc]; exact dec z2) su ih
end
section
variable {F : Fx} {W : L2.WX} {g g1 : G} {s s1 : State} {σ σ1 : L2.St} {H H1 : Hp}
theorem RS.unb (R : RS F g s σ H) (i : Nat) : RS F (g.drop i) ⟨s.r.set i .u, s.S⟩ (σ.set i none) H := by
  have k := kp_drop R i
  refine R.re rfl rfl (by simp [R.len]) (fun _ _ h => (drop_own h).2) (fun l y e => ?_) (fun l y e => ?_) (fun l n e => ?_) (fun j ks e => by rcases get_set e with ⟨rfl, q, _⟩ | ⟨n, q⟩ <;> first | (cases q; done) | (obtain ⟨v, h1, h2⟩ := R.dc j ks q; exact ⟨v, by rw [List.getElem?_set_ne n]; exact h1, h2⟩))
  · rcases get_set e with ⟨rfl, e1, hl⟩ | ⟨n, e1⟩
    · cases e1
    · obtain ⟨u, h1, h2⟩ := R.sl l y e1
      exact ⟨u, by rw [List.getElem?_set_ne n]; exact h1, h2.mono k⟩
  · rcases get_set e with ⟨rfl, e1, hl⟩ | ⟨n, e1⟩
    · cases e1
    · obtain ⟨b, h1, h2, h3⟩ := R.ow l y e1
      exact ⟨b, (if_neg (Ne.symm n)).trans h1, by rw [List.getElem?_set_ne n]; exact h2, h3.mono k fun _ _ z => z⟩
  · rcases get_set e with ⟨rfl, e1, hl⟩ | ⟨n', e1⟩
    · cases e1
    · obtain ⟨b, h1, h2⟩ := R.ob l n e1
      exact ⟨b, h1, by rw [List.getElem?_set_ne n']; exact h2⟩
theorem rp_of_ex {C : Value} {d : Option Addr} {e : Exn} {a : Addr} (hn : H a = none) (x : ExR F g H C d e) (R : RS F g s σ H) : Rp F.K (upd H a (EXN C d a)) (PP F g) (.ref a) (.exn e.c e.ks e.vs) := by
  obtain ⟨rfl, ⟨e1, e2, rfl⟩ | ⟨dx, ws, rfl, w1, w2, w3, w4⟩⟩ := x
  · rw [e1, e2]
    exact .exn0 upd_same
  · exact .exnd upd_same (by rw [upd_ne (ne_of_none w1 hn)]; exact w1) w2 w3 (w4.mono (kp_grow R (same_upd hn)))
theorem wtry_ok {K : PySem.W.Frag} {q : Bs} {p : Pv} {D : Ends} {C : Value} {d : Option Addr} {e : Exn} (hF : F = FX K q p) (R : RS F g1 s1 σ1 H1) (t : Stp F g H g1 H1) (x : ExR F g1 H1 C d e) : ∀ hs : List Hd,
    (∀ h ∈ hs, (∀ c ∈ h.yes, PySem.W.exmOne K (.ref (He.ga K (sS c))) (.ref (He.ga K (sS h.t))) = some true) ∧ ∀ c ∈ h.no, PySem.W.exmOne K (.ref (He.ga K (sS c))) (.ref (He.ga K (sS h.t))) = some false) →
    PoS F W g H (hdl hs e s1) D → wTry K W D (hs.map (clauseOf K q W)) C d σ1 H1
  | [], _, k => k g1 σ1 H1 C d R t x
  | h :: hs, hg, k => by
    obtain ⟨y1, y2⟩ := hg h List.mem_cons_self
    have eC : C = .ref (He.ga K (sS e.c)) := by rw [x.1, hF]
    unfold hdl at k
    by_cases c1 : e.c ∈ h.yes
    · rw [if_pos c1] at k
      refine ⟨true, by rw [eC]; exact y1 _ c1, fun _ a hn => ?_, fun z => Bool.noConfusion z⟩
      have Ra : RS F g1 s1 σ1 (upd H1 a (EXN C d a)) := R.alloc hn
      have ta : Stp F g1 H1 g1 (upd H1 a (EXN C d a)) := ((StE.refl (g := g1)).alloc hn).stp
      have rp := rp_of_ex hn x R
      have go : ∀ (i : Option Nat), i = h.v → ∃ g2, RS F g2 (bindX i e s1) (onI i a σ1) (upd H1 a (EXN C d a)) ∧ Stp F g1 H1 g2 (upd H1 a (EXN C d a)) := by
        intro i hi
        cases i with
        | none => exact ⟨g1, Ra, ta⟩
        | some i => exact ⟨g1.drop i, Ra.setS (i := i) (rp.mono (kp_drop Ra i)), ta.trans stE_drop.stp⟩
      obtain ⟨g2, R2, t2⟩ := go h.v rfl
      subst hF
      refine ⟨p, g2, _, R2, ?_⟩
      cases er : exHS h.st (bindX h.v e s1) with
      | bad => rw [er] at k; exact k.elim
      | exc e2 s2 =>
        rw [er] at k
        exact fun g3 σ3 H3 C3 d3 R3 t3 x3 => k g3 σ3 H3 C3 d3 R3 ((t.trans t2).trans t3) x3
      | ok f s2 =>
        rw [er] at k
        intro g3 σ3 H3 R3 t3
        have fin : ∀ i : Option Nat, i = h.v → ∃ g4, RS (FX K q p) g4 (unbX i s2) (offI i σ3) H3 ∧ StE g3 H3 g4 H3 := by
          intro i hi
          cases i with
          | none => exact ⟨g3, R3, .refl⟩
          | some i => exact ⟨g3.drop i, R3.unb i, stE_drop⟩
        obtain ⟨g4, R4, t4⟩ := fin h.v rfl
        have k4 := k g4 _ H3 R4 (((t.trans t2).trans t3).trans t4.stp)
        cases f with
        | nxt => exact k4
        | brk => exact k4
        | cnt => exact k4
        | ret v => exact fun u Hs hn hu => k4 u Hs hn (EVR.mono R3 t4 hu)
    · rw [if_neg c1] at k
      by_cases c2 : e.c ∈ h.no
      · rw [if_pos c2] at k
        exact ⟨false, by rw [eC]; exact y2 _ c2, fun z => Bool.noConfusion z, fun _ => wtry_ok hF R t x hs (fun h hh => hg h (List.mem_cons_of_mem _ hh)) k⟩
      · rw [if_neg c2] at k
        exact k.elim
end
section
variable {q : Bs} {X : Cx} {W : L2.WX} {sc : Scope} {N : List Str}
theorem snd_tri (C : CO q X W sc N) (hf : ∀ x, X.fn x = true) (tc : TC X) {b : T} {hs : List Hd} {body : List Stmt} {h0 : ExceptHandler} {hds : List ExceptHandler} {pos : Pos} (G : GoodT (gdX X.prog X.w X.K X.mg X.base q) (.tri b hs)) (h : chkH N sc hs (h0 :: hds) = true)
    (hb : ∀ (W' : L2.WX) (pn : List (Addr × Obj)) (xe : Value → Shared → Prop), CO q (X.tr pn xe) W' sc N → TC (X.tr pn xe) → PSs (X.tr pn xe) body (tS X.K q W' b)) : PS X (.Try body (h0 :: hds) [] [] pos) (tS X.K q W (.tri b hs)) := by
  refine PS.imp (ps_try tc.st tc.fr (by rw [C.hN]; exact C.nd) tc.ex C.tk (fun W' pn xe tk po => hb W' pn xe ⟨C.hsc, C.hN, C.calm, C.nd, tk, po, C.room, C.k1, C.blt, C.pr, C.w, C.lam⟩ ⟨tc.st, tc.fr, tc.ex⟩) (cl_ok C hf hs _ (fun k hk => ⟨(G.2 k hk).1, (G.2 k hk).2.2.2⟩) h)) fun D σ H ⟨p, g, s, R, k⟩ => ⟨p, g, s, R, ?_⟩
  unfold ex at k
  cases e : ex b s with
  | bad => rw [e] at k; exact k
  | ok f s1 => rw [e] at k; exact k
  | exc x s1 =>
    rw [e] at k
    exact fun g1 σ1 H1 Cv d R1 t1 x1 => wtry_ok rfl R1 t1 x1 hs (fun h hh => ⟨(G.2 h hh).2.1, (G.2 h hh).2.2.1⟩) k
end
end MI

namespace MI
open PySem L2

section
variable {q : Bs} {X : Cx} {W : L2.WX} {sc : Scope} {N : List Str}
/-! ### a = a + f(k, names, b.pop()) -/
def tPadA (K : PySem.W.Frag) (j : Nat) : List Nat → TA
  | [] => tCons (tBM0 K "list" rPop (tVar j)) tNil
  | a :: as => tCons (tVar a) (tPadA K j as)
theorem pad_star {j : Nat} : ∀ {as : List Nat} {es : List Expr}, chkPad N sc j as es = true → allStar es = true
  | [], es, h => by
    unfold chkPad at h
    split at h
    · rfl
    · cases h
  | a :: as, es, h => by
    unfold chkPad at h
    split at h
    · obtain ⟨_, k2⟩ := ba h
      unfold allStar
      rw [pad_star k2]; rfl
    · cases h
theorem pa_pad (C : CO q X W sc N) {j : Nat} : ∀ {as : List Nat} {es : List Expr}, chkPad N sc j as es = true → PA X es (tPadA X.K j as)
  | [], es, h => by
    unfold chkPad at h
    split at h
    · rename_i y p1 m ap cp
      obtain ⟨h, k3⟩ := ba h
      obtain ⟨k1, k2⟩ := ba h
      obtain ⟨h1, h2, h3, h4⟩ := C.vis k1
      cases dec k2
      exact pa_cons (pe_bm0 PySem.F.plainAttrs_list PySem.F.slot_list_pop PySem.F.type_list_pop mt_pop (pe_var h1 h2 h3 h4) (by rfl) k3) pa_nil
    · cases h
  | a :: as, es, h => by
    unfold chkPad at h
    split at h
    · rename_i x p1 es
      obtain ⟨k1, k2⟩ := ba h
      obtain ⟨h1, h2, h3, h4⟩ := C.vis k1
      exact pa_cons (pe_var h1 h2 h3 h4) (pa_pad C k2)
    · cases h
theorem flat_mv {K : PySem.W.Frag} {H H' : Hp} {P P' : Addr → Prop} {v : V} {x : D} (h : Rp K H P v x) (f : flatD x = true) : Rp K H' P' v x := by
  cases h <;> first | (cases f; done) | constructor
theorem names_flat {r : List Slot} : ∀ {as : List Nat} {zs : List D}, namesD r as = some zs → ∀ z ∈ zs, flatD z = true
  | [], zs, h => by cases h; simp
  | a :: as, zs, h => by
    unfold namesD at h
    split at h
    · rename_i x xs e1 e2
      split at h
      · rename_i f
        cases h
        intro z hz
        rcases List.mem_cons.mp hz with rfl | hz
        · exact f
        · exact names_flat e2 z hz
      · cases h
    · cases h
theorem padA_of {K : PySem.W.Frag} {p : Pv} {g : G} {s : State} {σ : L2.St} {H : Hp} {j : Nat} {y : D} {l : Addr} {us : List V} {w : V} (R : RS (FX K q p) g s σ H) (ej : σ[j]? = some (some (.ref l))) (hH : H l = some (.lst us)) (hw : us[us.length - 1]? = some w)
    (ry : Rp K H (PP (FX K q p) g) w y) (fy : flatD y = true) : ∀ {as : List Nat} {zs : List D}, namesD s.r as = some zs → ∀ {Rq : List V → Hp → Prop},
    (∀ vs, ArgsR (FX K q p) g (upd H l (.lst us.dropLast)) vs ((zs.map fun z => Slot.v z false) ++ [.v y false]) → Rq vs (upd H l (.lst us.dropLast))) → tPadA K j as σ H Rq
  | [], zs, h, Rq, k => by
    cases h
    exact ⟨.ref l, ej, .inl ⟨rfl, us, .of hH⟩, l, us, w, rfl, rfl, hH, hw, k [w] (.cons (flat_mv ry fy) .nil)⟩
  | a :: as, zs, h, Rq, k => by
    have hf := names_flat h
    unfold namesD at h
    split at h
    · rename_i x xs e1 e2
      split at h
      · cases h
        obtain ⟨v, h1, h2⟩ := R.sl a x e1
        refine ⟨v, h1, padA_of R ej hH hw ry fy e2 fun vs hvs => k (v :: vs) ?_⟩
        exact .cons (flat_mv h2 (hf x List.mem_cons_self)) hvs
      · cases h
    · cases h
theorem callF_r {f : Fn} {args : List Slot} {s s1 : State} {v : EV} (h : callF f args s = .ok v s1) : s1.r = s.r := by
  unfold callF at h
  split at h <;> cases h
  rfl
theorem snd_pad (C : CO q X W sc N) (hf : ∀ x, X.fn x = true) {i j n : Nat} {f : Fn} {k as : List Nat} {st : Stmt} (G : GoodT (gdX X.prog X.w X.K X.mg X.base q) (.pad i j n f k as)) (h : chkS q N sc (.pad i j n f k as) st = true) : PS X st (tS X.K q W (.pad i j n f k as)) := by
  unfold chkS at h
  split at h
  rotate_left
  · exact no h
  rename_i x p1 x2 p2 gn p3 k' kk kp es p4 p5 pos
  obtain ⟨h, k6⟩ := ba h
  obtain ⟨h, k5⟩ := ba h
  obtain ⟨h, k4⟩ := ba h
  obtain ⟨h, k3⟩ := ba h
  obtain ⟨k1, k2⟩ := ba h
  obtain ⟨l1, l2, l3⟩ := C.loc (d := true) (fun _ => hf) k1
  obtain ⟨v1, v2, v3, v4⟩ := C.vis k2
  obtain ⟨y, e1, e2⟩ := (show ∃ x, q.fns[n]? = some x ∧ FnK X.prog X.w X.K X.mg X.base q x f from G)
  rw [dec k4] at e1
  cases e1
  cases dec k5
  obtain ⟨a, fd, ps, jj, m, kp', b, hj, okf⟩ := e2.ex
  obtain ⟨gl, db⟩ := C.glo k3
  refine PS.imp (ps_set (by rw [C.hN]; exact C.nd) l1 l2 (pe_op op_cat (pe_var v1 v2 v3 v4) (pe_callSD okf (C.room.mono hj) gl m kp' b .nil (fun σ => passAt C.tk σ) (pa_cons pe_str (pa_pad C k6)) db (starEach_cons rfl) (star_none (pad_star k6)))) (by rfl) l3) fun D σ H ⟨p, g, s, R, kx⟩ => ?_
  unfold ex padR at kx
  split at kx
  rotate_left
  · exact kx.elim
  rename_i xs ys zs ei ej en
  split at kx
  rotate_left
  · exact kx.elim
  rename_i y ey
  split at kx
  rotate_left
  · exact kx.elim
  rename_i cy
  obtain ⟨c1, fy⟩ := ba cy
  have c1 : i ≠ j := of_decide_eq_true c1
  obtain ⟨ai, gi, si, vi, hi, ri⟩ := R.ow i _ ei
  obtain ⟨aj, gj, sj, us, hj2, rj⟩ := R.ow j _ ej
  obtain ⟨w, hw, rw'⟩ := rj.get ey
  have hw : us[us.length - 1]? = some w := by rw [rj.length]; exact hw
  have rd : RpA X.K H (PP (FX X.K q p) g) us.dropLast ys.dropLast := by
    rw [List.dropLast_eq_take, List.dropLast_eq_take, rj.length]
    exact rj.take _
  obtain ⟨R2, t2⟩ := R.rew ej gj rd
  refine ⟨.ref ai, si, ?_⟩
  refine padA_of (q := q) R sj hj2 hw rw' fy en fun vs hvs => ?_
  show spF X.K q f ((V.str (sS k) :: vs) ++ []) _ _ _
  rw [List.append_nil]
  have kx := PoS.shift t2 kx
  refine spF_of R2 (ArgsR.cons (show ArgR (FX X.K q p) g (upd H aj (HO.lst us.dropLast)) (V.str (sS k)) (Slot.v (MI.D.str k) false) from Rp.str k) hvs) (Post.mono (PoS.bindE0 kx) fun r g1 s1 H1 ee R1 t1 kz => (⟨callF_r ee, kz⟩ : s1.r = _ ∧ PoS (FX X.K q p) W g _ (padE i xs r s1) D)) fun r g' s' H' R' t' z v ev => ?_
  obtain ⟨er, kz⟩ := z
  unfold padE at kz
  split at kz
  rotate_left
  · exact kz.elim
  rename_i ws ew
  split at kz
  rotate_left
  · exact kz.elim
  rename_i fz
  have es : s'.r[i]? = some (.v (.lst xs) true) := by
    rw [er]
    show (s.r.set j _)[i]? = _
    rw [List.getElem?_set_ne (fun z => c1 z.symm)]
    exact ei
  obtain ⟨ai', gi', si', vi', hi', ri'⟩ := R'.ow i _ es
  rw [si] at si'
  cases si'
  obtain ⟨bw, us2, rfl, h5, r5⟩ := (ev.vw ew).lst
  have hz := fits_le fz
  refine ⟨ai, bw, vi', us2, rfl, rfl, hi', h5, by rw [ri'.length, r5.length]; exact hz, fun pp hp => ?_⟩
  refine asg_any (F := FX X.K q p) (tg := .one i) (r := .fr (.lst (xs ++ ws))) R2 (t'.alloc hp) (R'.alloc hp) (Sub.of_r er) ⟨pp, rfl, t'.free hp, R'.rd2.np hp, _, upd_same, (ri'.app r5).mono (R'.rd2.kpa hp)⟩ (by rfl) fun g2 σ2 R3 t3 => ?_
  exact kz g2 σ2 _ R3 t3
end
end MI

namespace MI
open PySem L2

/-! ### quiet statements: no list is changed -/
structure Stq (F : Fx) (g : G) (H : Hp) (g' : G) (H' : Hp) : Prop where
  keep : ∀ (b : Addr) (o : HO), H b = some o → b ∉ g.m → ¬ isTb o → H' b = some o
  tb : ∀ (a : Addr) (n : Str), TbS H a n → TbS H' a n
  dom : ∀ (b : Addr) (o : HO), H b = some o → ∃ o', H' b = some o'
  np : ∀ (b : Addr) (o : HO), H b = some o → ¬ PP F g b → ¬ PP F g' b
  pre : ∃ r, g'.m = g.m ++ r ∧ ∀ a ∈ r, H a = none
section
variable {F : Fx} {g g' g2 : G} {s s' : State} {σ σ' : L2.St} {H H' H2 : Hp} {W : L2.WX}
theorem Stq.stp (t : Stq F g H g' H') : Stp F g H g' H' := ⟨fun b o h _ m z => t.keep b o h m z, t.tb, t.dom, t.np, t.pre⟩
theorem StE.stq (t : StE g H g' H') : Stq F g H g' H' := ⟨t.keep, t.tb, t.dom, fun b o _ n h => n (t.pp h), t.pre⟩
theorem Stq.refl : Stq F g H g H := StE.refl.stq
theorem Stq.trans (a : Stq F g H g' H') (b : Stq F g' H' g2 H2) : Stq F g H g2 H2 where
  keep := fun c o h n z => b.keep c o (a.keep c o h n z) (mem_of_pre a.pre h n) z
  tb := fun c q h => b.tb c q (a.tb c q h)
  dom := fun c o h => let ⟨_, e⟩ := a.dom c o h; b.dom c _ e
  np := fun c o h p => let ⟨_, e⟩ := a.dom c o h; b.np c _ e (a.np c o h p)
  pre := pre_trans a.dom a.pre b.pre
def PoQ (F : Fx) (W : L2.WX) (g : G) (H : Hp) (r : R State Flow) (D : Ends) : Prop := match r with
  | .ok fl s' => fl = .nxt ∧ ∀ g' σ' H', RS F g' s' σ' H' → Stq F g H g' H' → D.nx σ' H'
  | .exc e s' => ∀ g' σ' H' C d, RS F g' s' σ' H' → Stq F g H g' H' → ExR F g' H' C d e → W C d σ' H'
  | .bad => False
theorem PoQ.shift {r : R State Flow} {D : Ends} (t : Stq F g H g' H') (h : PoQ F W g H r D) : PoQ F W g' H' r D := by
  cases r with
  | bad => exact h
  | exc e s2 => exact fun g2 σ2 H2 C d R2 t2 => h g2 σ2 H2 C d R2 (t.trans t2)
  | ok fl s2 => exact ⟨h.1, fun g2 σ2 H2 R2 t2 => h.2 g2 σ2 H2 R2 (t.trans t2)⟩
theorem PoQ.bindE {α : Type} {r : R State α} {f : α → State → R State Flow} {D : Ends} (h : PoQ F W g H (r.bind f) D) : Post F W g σ H r fun a g1 s1 H1 => PoQ F W g1 H1 (f a s1) D := by
  cases r with
  | bad => exact h
  | exc e s1 => exact fun g1 H1 C d R1 t1 => h g1 σ H1 C d R1 t1.stq
  | ok a s1 => exact fun g1 H1 R1 t1 => PoQ.shift t1.stq h
theorem PoQ.bindE0 {α : Type} {r : R State α} {f : α → State → R State Flow} {D : Ends} (h : PoQ F W g H (r.bind f) D) : Post F W g σ H r fun a _ s1 _ => PoQ F W g H (f a s1) D := by
  cases r with
  | bad => exact h
  | exc e s1 => exact fun g1 H1 C d R1 t1 => h g1 σ H1 C d R1 t1.stq
  | ok a s1 => exact fun g1 H1 R1 t1 => h
theorem PoQ.now {D : Ends} (R : RS F g s σ H) (h : PoQ F W g H (.ok .nxt s) D) : D.nx σ H := h.2 g σ H R .refl
end
section
variable (K : PySem.W.Frag) (q : Bs) (W : L2.WX)
def tQ (c : T) : TS := fun D σ H => ∃ (p : Pv) (g : G) (s : State), RS (FX K q p) g s σ H ∧ PoQ (FX K q p) W g H (ex c s) D
end
section
variable {q : Bs} {X : Cx} {W : L2.WX} {sc : Scope} {N : List Str}
theorem qt_nilB : PSs X [] (tQ X.K q W .nil) := PSs.imp pss_nil fun D σ H ⟨p, g, s, R, k⟩ => by unfold ex at k; exact PoQ.now R k
theorem qt_consB {a b : T} {st : Stmt} {sts : List Stmt} (ha : PS X st (tQ X.K q W a)) (hb : PSs X sts (tQ X.K q W b)) : PSs X (st :: sts) (tQ X.K q W (.cons a b)) := by
  refine PSs.imp (pss_cons ha hb) fun D σ H ⟨p, g, s, R, k⟩ => ⟨p, g, s, R, ?_⟩
  unfold ex at k
  cases e : ex a s with
  | bad => rw [e] at k; exact k
  | exc x s1 => rw [e] at k; exact k
  | ok fl s1 =>
    rw [e] at k
    cases fl with
    | nxt => exact ⟨rfl, fun g1 σ1 H1 R1 t1 => ⟨p, g1, s1, R1, PoQ.shift t1 k⟩⟩
    | brk => exact absurd k.1 (by simp)
    | cnt => exact absurd k.1 (by simp)
    | ret v => exact absurd k.1 (by simp)
theorem qt_ife {c : E} {a b : T} {t : Expr} {s1 s2 : List Stmt} {pos : Pos} (hc : PT X t (tT X.K q W c)) (ha : PSs X s1 (tQ X.K q W a)) (hb : PSs X s2 (tQ X.K q W b)) : PS X (.If t s1 s2 pos) (tQ X.K q W (.ife c a b)) := by
  refine PS.imp (ps_if hc ha hb) fun D σ H ⟨p, g, s, R, k⟩ => ⟨p, g, s, R, ?_⟩
  unfold ex at k
  refine Post.mono (PoQ.bindE k) fun d g1 s1 H1 _ R1 t1 k => ?_
  cases d with
  | true => exact L2.iteT ⟨p, g1, s1, R1, k⟩
  | false => exact L2.iteF ⟨p, g1, s1, R1, k⟩
theorem asg_anyQ {F : Fx} {g g1 : G} {s s1 : State} {σ : L2.St} {H H1 : Hp} (R : RS F g s σ H) (t : StE g H g1 H1) (R1 : RS F g1 s1 σ H1) (sub : Sub s s1) {i : Nat} {v : V} {r : EV} {s2 : State} (hv : EVR F g1 H H1 v r) (e : asg (.one i) r s1 = .ok () s2) {Q : L2.St → Hp → Prop}
    (k : ∀ g2 σ2, RS F g2 s2 σ2 H1 → Stq F g H g2 H1 → Q σ2 H1) : gT F.K (.one i) v σ H1 Q := by
  cases r with
  | sh x => cases e; exact k _ _ (R1.setS (i := i) (Rp.mono (kp_drop R1 i) hv)) (t.trans stE_drop).stq
  | fr x =>
    cases e
    obtain ⟨a, rfl, h1, h2, h3⟩ := hv
    obtain ⟨z1, z2⟩ := RS.setO R t R1 sub (i := i) h1 h2 h3
    exact k _ _ z1 ⟨t.keep, z2.tb, z2.dom, z2.np, z2.pre⟩
  | bo x => cases e
  | ft x y => cases e
  | ob j =>
    cases e
    obtain ⟨a, h1, rfl⟩ := hv
    exact k _ _ (R1.setB h1) (t.trans stE_drop).stq
theorem set_readsQ {K : PySem.W.Frag} {i : Nat} {e : E} (T : Tidy e) {D : Ends} {σ : L2.St} {H : Hp} (h : tQ K q W (.set (.one i) e) D σ H) : tAsg (tE K q W e) (gT K (.one i)) D σ H := by
  obtain ⟨p, g, s, R, k⟩ := h
  refine ⟨p, g, s, R, ?_⟩
  unfold ex at k
  refine Post.mono (PoQ.bindE0 k) fun a g1 s1 H1 ee R1 t1 k v hv => ?_
  have sub : Sub s s1 := by have := (ev_sub e).e T s; rw [ee] at this; exact this
  cases ea : asg (.one i) a s1 with
  | bad => rw [ea] at k; exact k.elim
  | exc x s2 => rw [asg_bad (fun s2 z => by rw [ea] at z; cases z)] at ea; cases ea
  | ok u s2 =>
    rw [ea] at k
    exact asg_anyQ (F := FX K q p) R t1 R1 sub hv ea fun g2 σ2 R2 t2 => k.2 g2 σ2 H1 R2 t2
theorem qt_set (C : CO q X W sc N) (hf : ∀ x, X.fn x = true) {i : Nat} {e : E} {st : Stmt} (G : GoodE (gdX X.prog X.w X.K X.mg X.base q) e) (h : chkS q N sc (.set (.one i) e) st = true) : PS X st (tQ X.K q W (.set (.one i) e)) := by
  refine PS.ofOk fun ok => ?_
  have hb : X.env.blockKind = .function := by unfold Env.blockKind; rw [ok.kind]; rfl
  unfold chkS at h
  split at h
  · rename_i y py v pos
    obtain ⟨h, k4⟩ := ba h
    obtain ⟨h, k3⟩ := ba h
    obtain ⟨k1, k2⟩ := ba h
    have T := tdy_ok k2
    obtain ⟨l1, l2, l3⟩ := C.loc (d := true) (fun _ => hf) (show MI.loc true N sc i y = true from k1)
    rcases (Bool.or_eq_true _ _).mp k4 with k4 | k4
    · obtain ⟨elt, gens, scope, vpos, rfl, z1, z2, z3⟩ := lc_now k4
      obtain ⟨vs, t', it, c, el, rfl⟩ := chk_lc k3
      have yl : X.env.scope.names.lookup y = some .local := by rw [C.hsc]; exact z1
      obtain ⟨_, _, _, _, _, _, e1, _, r⟩ := snd_comE C (sndAll q it) (sndAll q c) (sndAll q el) G k3
      refine PS.imp (r (i := i) (py := py) (spos := pos) l1 yl ?_) fun D σ H k => set_readsQ T k
      rw [sw_lc hb, decide_eq_true yl, z2, z3]
      rfl
    · exact PS.imp (ps_set (by rw [C.hN]; exact C.nd) l1 l2 ((sndAll q e).e C G k3).1 (lc_late hb (by rw [C.hsc]; exact k4)) l3) fun D σ H k => set_readsQ T k
  · exact no (ba (ba (ba h).1).1).1
  · exact no h
theorem qt_all (C : CO q X W sc N) (hf : ∀ x, X.fn x = true) (c : T) : quiet c = true → GoodT (gdX X.prog X.w X.K X.mg X.base q) c → (∀ st, chkS q N sc c st = true → PS X st (tQ X.K q W c)) ∧ (∀ sts, chkB q N sc c sts = true → PSs X sts (tQ X.K q W c)) := by
  induction c with
  | nil => exact fun _ _ => ⟨fun _ h => no h, fun sts h => by
      cases sts with
      | nil => exact qt_nilB
      | cons _ _ => exact no h⟩
  | cons a b ia ib =>
    intro hq G
    obtain ⟨q1, hq⟩ := ba (show (!isKill a && (quiet a && quiet b)) = true from hq)
    obtain ⟨q2, q3⟩ := ba hq
    refine ⟨fun _ h => no h, fun sts h => ?_⟩
    unfold chkB at h
    rw [if_neg (by simpa using q1)] at h
    cases sts with
    | nil => exact no h
    | cons st sts =>
      obtain ⟨k1, k2⟩ := ba h
      exact qt_consB ((ia q2 G.1).1 st k1) ((ib q3 G.2).2 sts k2)
  | set t e =>
    intro hq G
    cases t with
    | many is => exact no hq
    | one i => exact ⟨fun st h => qt_set C hf G h, fun _ h => no h⟩
  | ife c a b ia ib =>
    intro hq G
    obtain ⟨q2, q3⟩ := ba (show (quiet a && quiet b) = true from hq)
    refine ⟨fun st h => ?_, fun _ h => no h⟩
    unfold chkS at h
    split at h <;> first | exact no h | skip
    obtain ⟨h, k3⟩ := ba h
    obtain ⟨k1, k2⟩ := ba h
    exact qt_ife ((sndAll q c).e C G.1 k1).2 ((ia q2 G.2.1).2 _ k2) ((ib q3 G.2.2).2 _ k3)
  | _ => exact fun hq => no hq
/-- a for over one's own list, whose suite is quiet -/
theorem qt_for (C : CO q X W sc N) {t : Tg} {it : E} {b : T} {ks : List Nat} {tg e : Expr} {s1 : List Stmt} {pos : Pos} (hs : notSet e = true) (hi : PI X tg e (tIc X.K q W it)) (hg : PG X tg (gT X.K t)) (hqb : PSs X s1 (tQ X.K q W b)) (hqn : ∀ s fl s', ex b s = .ok fl s' → fl = .nxt) : PS X (.For tg e s1 [] pos) (tS X.K q W (.for t it b ks)) := by
  refine PS.imp (ps_for C.po C.calm hi hg hqb (folded' hs)) fun D σ H ⟨p, g, s, R, k⟩ => ⟨p, g, s, R, ?_⟩
  unfold ex at k
  refine Post.mono (PoS.bindE k) fun xs g1 s1 H1 _ R1 t1 k J hJ => ?_
  have k : PoS (FX X.K q p) W g1 H1 (forL (turnF t b ks) xs s1) D := k
  refine ⟨fun i m σ' Hc => m = xs.length - i ∧ i ≤ xs.length ∧ ∃ g2 s2, RS (FX X.K q p) g2 s2 σ' Hc ∧ Stq (FX X.K q p) g1 H1 g2 Hc ∧ PoS (FX X.K q p) W g2 Hc (forL (turnF t b ks) (xs.drop i) s2) D, ⟨xs.length, by simp, Nat.zero_le _, g1, s1, R1, .refl, k⟩, ?_⟩
  rintro i m σ' Hc ⟨rfl, hi, g2, s2, R2, t2, k⟩
  have kj := R1.kp t2.stp
  obtain ⟨j1, j2⟩ := hJ i _ Hc kj t2.keep
  by_cases hlt : i < xs.length
  · rw [List.drop_eq_getElem_cons hlt] at k
    obtain ⟨go, yl⟩ := j1 xs[i] (List.getElem?_eq_getElem hlt)
    refine .inr ⟨go, fun σ' Hc => ∃ g2 s2, RS (FX X.K q p) g2 s2 σ' Hc ∧ Stq (FX X.K q p) g1 H1 g2 Hc ∧ PoS (FX X.K q p) W g2 Hc (forL (turnF t b ks) (xs.drop (i + 1)) s2) D, fun σ' H' h => ⟨xs.length - (i + 1), by omega, rfl, hlt, h⟩, fun v H' y => ?_⟩
    obtain ⟨gr, rv⟩ := ItY.to (F := FX X.K q p) (F' := FX X.K q p) (g := g1) (g2 := g2) rfl kj R2.rd2 (yl v H' y)
    have R3 := R2.grow gr.same
    have t3 : Stq (FX X.K q p) g2 Hc g2 H' := (gr_stE gr).stq
    unfold forL turnF at k
    cases ea : asg t (.sh xs[i]) s2 with
    | bad => rw [ea] at k; exact k.elim
    | exc y s6 => rw [asg_bad (fun s2 z => by rw [ea] at z; cases z)] at ea; cases ea
    | ok u s6 =>
      rw [ea] at k
      refine asg_sh R3 rv ea fun g6 σ6 R6 u6 w6 => ⟨p, g6, s6, R6, ?_⟩
      have t6 : Stq (FX X.K q p) g2 Hc g6 H' := t3.trans u6.stq
      have k : PoS (FX X.K q p) W g2 Hc (MI.R.bind (σ := State) (β := MI.Flow) (MI.R.bind (σ := State) (β := MI.Flow) (ex b s6) fun f s3 => (match f with
        | .nxt => .ok .nxt (wipeS ks s3)
        | .cnt => .ok .nxt (wipeS ks s3)
        | .brk => .ok .brk s3
        | .ret v => .ok (.ret v) s3)) fun k s1 => (match k with
        | .nxt => forL (turnF t b ks) (xs.drop (i + 1)) s1
        | .cnt => forL (turnF t b ks) (xs.drop (i + 1)) s1
        | .brk => .ok .nxt s1
        | .ret v => .ok (.ret v) s1)) D := k
      have k := k.shift t6.stp
      cases e : ex b s6 with
      | bad => rw [e] at k; exact k
      | exc x s7 => rw [e] at k; exact fun g7 σ7 H7 C d R7 t7 => k g7 σ7 H7 C d R7 t7.stp
      | ok fl s7 =>
        obtain rfl := hqn _ _ _ e
        rw [e] at k
        exact ⟨rfl, fun g7 σ7 H7 R7 t7 => ⟨g7, wipeS ks s7, R7.kill ks, t2.trans (t6.trans t7), PoS.shift t7.stp k⟩⟩
  · have : i = xs.length := by omega
    subst this
    refine .inl ⟨j2 (Nat.le_refl _), ?_⟩
    rw [List.drop_length] at k
    exact PoS.now R2 k
theorem quiet_nxt : ∀ {c : T} {s : State} {fl : Flow} {s' : State}, quiet c = true → ex c s = .ok fl s' → fl = .nxt := by
  intro c
  induction c with
  | nil => intro s fl s' _ h; unfold ex at h; cases h; rfl
  | cons a b ia ib =>
    intro s fl s' hq h
    obtain ⟨_, hq⟩ := ba (show (!isKill a && (quiet a && quiet b)) = true from hq)
    obtain ⟨q2, q3⟩ := ba hq
    unfold ex at h
    cases e : ex a s with
    | bad => rw [e] at h; cases h
    | exc x s1 => rw [e] at h; cases h
    | ok f s1 =>
      obtain rfl := ia q2 e
      rw [e] at h
      exact ib q3 h
  | set t e =>
    intro s fl s' hq h
    unfold ex at h
    cases e1 : ev e s with
    | bad => rw [e1] at h; cases h
    | exc x s1 => rw [e1] at h; cases h
    | ok v s1 =>
      rw [e1] at h
      cases e2 : asg t v s1 with
      | bad => simp only [R.bind, e2] at h; cases h
      | exc x s2 => simp only [R.bind, e2] at h; cases h
      | ok u s2 => simp only [R.bind, e2] at h; cases h; rfl
  | ife c a b ia ib =>
    intro s fl s' hq h
    obtain ⟨q2, q3⟩ := ba (show (quiet a && quiet b) = true from hq)
    unfold ex at h
    cases e1 : evT c s with
    | bad => rw [e1] at h; cases h
    | exc x s1 => rw [e1] at h; cases h
    | ok k s1 =>
      rw [e1] at h
      simp only [R.bind] at h
      split at h
      · exact ia q2 h
      · exact ib q3 h
  | _ => intro s fl s' hq; exact no hq
end
end MI

namespace MI
open PySem L2

structure SndT (q : Bs) (c : T) : Prop where
  s : ∀ {X : Cx} {W : L2.WX} {sc : Scope} {N : List Str} {st : Stmt}, CO q X W sc N → (∀ x, X.fn x = true) → TC X → GoodT (gdX X.prog X.w X.K X.mg X.base q) c → chkS q N sc c st = true → PS X st (tS X.K q W c)
  b : ∀ {X : Cx} {W : L2.WX} {sc : Scope} {N : List Str} {sts : List Stmt}, CO q X W sc N → (∀ x, X.fn x = true) → TC X → GoodT (gdX X.prog X.w X.K X.mg X.base q) c → chkB q N sc c sts = true → PSs X sts (tS X.K q W c)
theorem kill_eq {a : T} (h : isKill a = true) : ∃ ks, a = .kill ks := by
  cases a <;> first | exact ⟨_, rfl⟩ | exact no h
theorem sndT (q : Bs) (c : T) : SndT q c := by
  induction c with
  | nil =>
    refine ⟨fun _ _ _ _ h => no h, fun C hf tc G h => ?_⟩
    rename_i sts
    cases sts with
    | nil => exact snd_nilB
    | cons _ _ => exact no h
  | cons a b ia ib =>
    refine ⟨fun _ _ _ _ h => no h, fun C hf tc G h => ?_⟩
    rename_i sts
    unfold chkB at h
    by_cases z : isKill a = true
    · rw [if_pos z] at h
      obtain ⟨ks, rfl⟩ := kill_eq z
      exact snd_kill (ib.b C hf tc G.2 h)
    · rw [if_neg z] at h
      cases sts with
      | nil => exact no h
      | cons st sts =>
        obtain ⟨k1, k2⟩ := ba h
        exact snd_consB (ia.s C hf tc G.1 k1) (ib.b C hf tc G.2 k2)
  | set t e => exact ⟨fun C hf tc G h => snd_set C hf G h, fun _ _ _ _ h => no h⟩
  | par is as => exact ⟨fun C hf tc G h => snd_par C hf G h, fun _ _ _ _ h => no h⟩
  | setf i c f e => exact ⟨fun C hf tc G h => snd_setf C G h fun k => ((sndAll q e).e C G.2 k).1, fun _ _ _ _ h => no h⟩
  | augf o i c f e => exact ⟨fun C hf tc G h => snd_augf C G h fun k => ((sndAll q e).e C G.2 k).1, fun _ _ _ _ h => no h⟩
  | aug o i e => exact ⟨fun C hf tc G h => snd_aug C hf G h, fun _ _ _ _ h => no h⟩
  | rvl i => exact ⟨fun C hf tc G h => snd_rvl C h, fun _ _ _ _ h => no h⟩
  | app i e => exact ⟨fun C hf tc G h => snd_app C G h, fun _ _ _ _ h => no h⟩
  | ext i e => exact ⟨fun C hf tc G h => snd_ext C G h, fun _ _ _ _ h => no h⟩
  | ins i k e => exact ⟨fun C hf tc G h => snd_ins C G h, fun _ _ _ _ h => no h⟩
  | dput i k e => exact ⟨fun C hf tc G h => snd_dput C G h, fun _ _ _ _ h => no h⟩
  | dpti i k e => exact ⟨fun C hf tc G h => snd_dpti C G h, fun _ _ _ _ h => no h⟩
  | dset i e =>
    refine ⟨fun C hf tc G h => ?_, fun _ _ _ _ h => no h⟩
    unfold chkS at h
    split at h <;> first | exact no h | skip
    obtain ⟨h, k7⟩ := ba h
    obtain ⟨h, k6⟩ := ba h
    obtain ⟨h, k5⟩ := ba h
    obtain ⟨h, k4⟩ := ba h
    obtain ⟨h, k3⟩ := ba h
    obtain ⟨k1, k2⟩ := ba h
    exact snd_dset C hf k1 (tdy_ok k2) k3 (dec k4) (dec k5) k6 ((sndAll q e).e C G k7).1
  | pad i j n f k as => exact ⟨fun C hf tc G h => snd_pad C hf G h, fun _ _ _ _ h => no h⟩
  | seti i k e => exact ⟨fun C hf tc G h => snd_seti C G h, fun _ _ _ _ h => no h⟩
  | ife c a b ia ib =>
    refine ⟨fun C hf tc G h => ?_, fun _ _ _ _ h => no h⟩
    unfold chkS at h
    split at h <;> first | exact no h | skip
    obtain ⟨h, k3⟩ := ba h
    obtain ⟨k1, k2⟩ := ba h
    exact snd_ife ((sndAll q c).e C G.1 k1).2 (ia.b C hf tc G.2.1 k2) (ib.b C hf tc G.2.2 k3)
  | whl c b ib =>
    refine ⟨fun C hf tc G h => ?_, fun _ _ _ _ h => no h⟩
    unfold chkS at h
    split at h <;> first | exact no h | skip
    obtain ⟨k1, k2⟩ := ba h
    exact snd_whl C ((sndAll q c).e C G.1 k1).2 (ib.b C hf tc G.2 k2)
  | «for» t it b ks ib =>
    refine ⟨fun C hf tc G h => ?_, fun _ _ _ _ h => no h⟩
    unfold chkS at h
    split at h <;> first | exact no h | skip
    rename_i tg e s1 pos
    obtain ⟨h, k4⟩ := ba h
    obtain ⟨h, k3⟩ := ba h
    obtain ⟨k1, k2⟩ := ba h
    obtain ⟨k5, k6⟩ := ba k2
    have zz : isZip it = true → ∃ elts kk tpos, tg = .Tuple elts kk tpos := fun z => by
      cases t with
      | one i => simp [z] at k6
      | many is =>
        cases tg <;> first | (cases k1; done) | exact ⟨_, _, _, rfl⟩
    split at k3
    · obtain ⟨k7, k8⟩ := ba k3
      exact qt_for C k5 (snd_itb C k7) (snd_tg C (d := true) (fun _ => hf) k1) ((qt_all C hf b k8 G.2).2 _ k4) fun s fl s' h => quiet_nxt k8 h
    · exact snd_for C k5 ((sndAll q it).i C G.1 zz k3) (snd_tg C (d := true) (fun _ => hf) k1) (ib.b C hf tc G.2 k4)
  | ret e =>
    refine ⟨fun C hf tc G h => ?_, fun _ _ _ _ h => no h⟩
    unfold chkS at h
    split at h <;> first | exact no h | skip
    exact snd_ret ((sndAll q e).e C G h).1
  | retv i =>
    refine ⟨fun C hf tc G h => ?_, fun _ _ _ _ h => no h⟩
    unfold chkS at h
    split at h <;> first | exact no h | skip
    exact snd_retv C h
  | retn =>
    refine ⟨fun C hf tc G h => ?_, fun _ _ _ _ h => no h⟩
    unfold chkS at h
    split at h <;> first | exact no h | skip
    exact snd_retn
  | exp e =>
    refine ⟨fun C hf tc G h => ?_, fun _ _ _ _ h => no h⟩
    unfold chkS at h
    split at h <;> first | exact no h | skip
    obtain ⟨k1, k2⟩ := ba h
    exact snd_exp k1 ((sndAll q e).e C G k2).1
  | pass =>
    refine ⟨fun C hf tc G h => ?_, fun _ _ _ _ h => no h⟩
    unfold chkS at h
    split at h <;> first | exact no h | skip
    exact snd_pass
  | cont =>
    refine ⟨fun C hf tc G h => ?_, fun _ _ _ _ h => no h⟩
    unfold chkS at h
    split at h <;> first | exact no h | skip
    exact snd_cont
  | brk =>
    refine ⟨fun C hf tc G h => ?_, fun _ _ _ _ h => no h⟩
    unfold chkS at h
    split at h <;> first | exact no h | skip
    exact snd_brk
  | ret2 i j =>
    refine ⟨fun C hf tc G h => ?_, fun _ _ _ _ h => no h⟩
    unfold chkS at h
    split at h <;> first | exact no h | skip
    obtain ⟨k1, k2⟩ := ba h
    exact snd_ret2 C k1 k2
  | set2 i j e =>
    refine ⟨fun C hf tc G h => ?_, fun _ _ _ _ h => no h⟩
    unfold chkS at h
    split at h <;> first | exact no h | skip
    rename_i es k p v pos
    obtain ⟨h, k5⟩ := ba h
    obtain ⟨h, k3⟩ := ba h
    obtain ⟨k1, k2⟩ := ba h
    refine PS.imp (ps_asg ((sndAll q e).e C G k3).1 (snd_tg C (d := true) (fun _ => hf) k1) (by unfold swapsWithSole; cases v <;> rfl) ?_) fun D σ H k => set2_reads (tdy_ok k2) k
    unfold swappedStores
    cases v <;> first | rfl | exact no k5
  | ffr i e c =>
    refine ⟨fun C hf tc G h => ?_, fun _ _ _ _ h => no h⟩
    unfold chkS at h
    split at h <;> first | exact no h | skip
    obtain ⟨k1, h⟩ := ba h
    obtain ⟨k2, h⟩ := ba h
    obtain ⟨k3, h⟩ := ba h
    obtain ⟨k4, k5⟩ := ba h
    exact snd_ffr C k2 ((sndAll q e).e C G.1 k3).1 (snd_tg C (d := true) (fun _ => hf) k1) ((sndAll q c).e C G.2 k4).2 k5
  | never => exact ⟨fun C hf tc G h => PS.imp ps_never fun D σ H ⟨p, g, s, R, k⟩ => by unfold ex at k; exact k, fun _ _ _ _ h => no h⟩
  | raise c ks as =>
    refine ⟨fun C hf tc G h => ?_, fun _ _ _ _ h => no h⟩
    unfold chkS at h
    split at h <;> first | exact no h | skip
    obtain ⟨k1, h⟩ := ba h
    obtain ⟨k2, k3⟩ := ba h
    exact snd_raise C k1 (dec k2) k3 G.1 ((sndAll q as).a C G.2 k3).1
  | tri b hs ib =>
    refine ⟨fun C hf tc G h => ?_, fun _ _ _ _ h => no h⟩
    unfold chkS at h
    split at h <;> first | exact no h | skip
    obtain ⟨k1, k2⟩ := ba h
    exact snd_tri C hf tc G k2 fun W' pn xe C' tc' => ib.b C' hf tc' G.1 k1
  | kill ks => exact ⟨fun _ _ _ _ h => no h, fun _ _ _ _ h => no h⟩
end MI

namespace MI
open PySem L2

section
variable {K : PySem.W.Frag} {q : Bs} {F : Fx} {m : List Addr} {H : Hp}
theorem args_get : ∀ {vs : List V} {args : List Slot} {i : Nat} {z : Slot}, ArgsR F (g0 m) H vs args → args[i]? = some z → ∃ v, vs[i]? = some v ∧ ArgR F (g0 m) H v z
  | _, _, _, _, .nil, e => by simp at e
  | _, _, 0, _, .cons h _, e => by simp at e; subst e; exact ⟨_, rfl, h⟩
  | _, _, i + 1, _, .cons _ t, e => by
    obtain ⟨v, h1, h2⟩ := args_get (i := i) t (by simpa using e)
    exact ⟨v, by simpa using h1, h2⟩
theorem stR_ins {cl : Nat → Addr} {fn : List Str} {P : Addr → Prop} {S : Store} (h : StR K cl fn P m S H) : ∀ a ∈ m, ∃ o, H a = some o ∧ isIns o := fun a ha => by
  obtain ⟨j, hj, e⟩ := List.getElem_of_mem ha
  have hl : j < S.length := by rw [← h.len]; exact hj
  obtain ⟨b, dx, vs, e1, e2, _⟩ := h.at_ j S[j] (List.getElem?_eq_getElem hl)
  rw [List.getElem?_eq_getElem hj] at e1
  have : m[j] = b := Option.some.inj e1
  rw [← e, this]
  exact ⟨_, e2, trivial⟩
/-- at a def's entry -/
theorem RS.entry {p : Pv} {S : Store} {vs : List V} {args : List Slot} {n : Nat} (hP : ∀ a, p.P0 a → ∃ o, p.H0 a = some o ∧ isLD o) (tb : ∀ z ∈ q.tb, TbS p.H0 z.1 z.2) (st : StR K q.cl q.flds p.P0 p.m0 S p.H0) (ha : ArgsR (FX K q p) (g0 p.m0) p.H0 vs args) :
    RS (FX K q p) (g0 p.m0) ⟨args ++ List.replicate n .u, S⟩ (vs.map some ++ List.replicate n none) p.H0 := by
  have cut : ∀ {i : Nat} {z : Slot}, (args ++ List.replicate n .u)[i]? = some z → z ≠ .u → ∃ v, (vs.map some ++ List.replicate n none)[i]? = some (some v) ∧ ArgR (FX K q p) (g0 p.m0) p.H0 v z := fun {i z} e hz => by
    by_cases hi : i < args.length
    · rw [List.getElem?_append_left hi] at e
      obtain ⟨v, h1, h2⟩ := args_get ha e
      refine ⟨v, ?_, h2⟩
      rw [List.getElem?_append_left (by rw [List.length_map, ha.length]; exact hi), List.getElem?_map, h1]
      rfl
    · rw [List.getElem?_append_right (by omega)] at e
      have := List.mem_replicate.mp (List.mem_of_getElem? e)
      exact absurd this.2 hz
  refine ⟨by simp [ha.length], fun i x e => cut e (by simp), fun i x e => ?_, fun i j e => ?_, fun i ks e => (by obtain ⟨v, _, h⟩ := cut e (by simp); exact h.elim), fun i j a h => (nomatch h), fun i a h => (nomatch h), hP, fun b o h _ _ => h, fun b o h => ⟨o, h⟩, tb, stR_ins st, ⟨[], by simp, by simp⟩, ?_⟩
  · obtain ⟨v, _, h⟩ := cut e (by simp)
    exact h.elim
  · obtain ⟨v, h1, a, h2, rfl⟩ := cut e (by simp)
    exact ⟨a, h2, h1⟩
  · rw [pp0]; exact st
theorem EVR.out {g : G} {Hs H' : Hp} {v : V} {e : EV} (h : EVR F g Hs H' v e) : EVR F (g0 g.m) Hs H' v e := by
  have w : ∀ a, PP F (g0 g.m) a → PP F g a := fun a z => by rw [pp0] at z; exact .inl z
  cases e with
  | sh x => exact Rp.anti w h
  | fr x =>
    obtain ⟨a, e, z, n, o⟩ := h
    exact ⟨a, e, z, fun q => n (w a q), o.anti fun b z => z.imp (w b) id⟩
  | bo x =>
    rcases h with h | ⟨a, e, o⟩
    · exact .inl (Rp.anti w h)
    · exact .inr ⟨a, e, o.anti w⟩
  | ob j => exact h
  | ft x y =>
    obtain ⟨t, v1, v2, e, sq, m, r, k⟩ := h
    exact ⟨t, v1, v2, e, sq, m, Rp.anti w r, k.imp (fun z => ⟨z.1, Rp.anti w z.2⟩) fun ⟨z, a, e, y, n, o⟩ => ⟨z, a, e, y, fun q => n (w a q), o.anti fun b z => z.imp (w b) id⟩⟩
theorem spF_len {np n : Nat} {c : T} {vs : List V} {Q : VK} {E : XK} (h : spF K q (runDef np n c) vs H Q E) : vs.length = np := by
  obtain ⟨P0, m, S, args, _, _, _, ha, h⟩ := h
  rw [ha.length]
  unfold runDef at h
  by_cases z : args.length = np
  · exact z
  · rw [if_neg z] at h; exact h.elim
end
section
variable {P : Program} {w : World} {K : PySem.W.Frag} {mg : Str → Option Value} {base : Heap} {x qual : Str} {params : Arguments} {body : List Stmt} {scope : Scope} {f : Addr} {fd : FuncData} {q : Bs}
/-- tables stay tables: behind a def's end -/
theorem pss_tb {X : Cx} {sts : List Stmt} {ts : TS} (h : PSs X sts ts) : PSs X sts (fun D σ H => ts { D with rt := fun v H' => (∀ b ps, X.H_0 b = some (.tbl ps) → ∃ more, H' b = some (.tbl more)) → D.rt v H' } σ H) :=
  ⟨fun pins s σ H D I hh => thn (h.run pins s σ H _ I hh) fun f s1 q => by
    cases f with
    | ret u =>
      obtain ⟨v, σ', H', I', r, k⟩ := q
      exact ⟨v, σ', H', I', r, k fun b ps e => by
        obtain ⟨m, e2⟩ := I'.base.tbls b ps e
        exact ⟨_, e2⟩⟩
    | _ => exact q⟩
theorem EVR.up {F : Fx} {g : G} {H Hs H' : Hp} (n : ∀ a o, H a = some o → Hs a = none → isTb o) (tb : ∀ b ps, H b = some (.tbl ps) → ∃ more, H' b = some (.tbl more)) {v : V} {r : EV} (h : EVR F g Hs H' v r) : EVR F g H H' v r := by
  have key : ∀ {a : Addr} {P : Addr → Prop} {x : D}, Hs a = none → Own F.K H' P a x → H a = none := fun {a P x} e o => by
    cases q : H a with
    | none => rfl
    | some u =>
      exfalso
      have z := n a u q e
      cases u <;> first | exact z.elim | skip
      obtain ⟨m, e2⟩ := tb a _ q
      cases x <;> first | exact o.elim | (obtain ⟨xs, h1, _⟩ := o; rw [e2] at h1; cases h1)
  cases r with
  | sh x => exact h
  | fr x =>
    obtain ⟨a, e, z, w, o⟩ := h
    exact ⟨a, e, key z o, w, o⟩
  | bo x => exact h
  | ob j => exact h
  | ft x y =>
    obtain ⟨t, v1, v2, e, sq, m, r, k⟩ := h
    exact ⟨t, v1, v2, e, sq, m, r, k.imp id fun ⟨z, a, e, y, w, o⟩ => ⟨z, a, e, key y o, w, o⟩⟩
/-- a def keeps the promise of its text -/
theorem def_ok {N ps : List Str} {c : T} (F : FunD K x qual params body scope [] [] f fd) (S : FnScope N ps scope) (hl : ps.length ≤ N.length) (h1 : 1 ≤ q.k) (hb : ∀ x ∈ q.blts, mg x = none) (hpw : q.pr = P ∧ q.w = w) (hcd : ∀ p, q.cd = some p → fd.code = .ref p.1 ∧ qual = "steps_within") (hg : GoodT (gdX P w K mg base q) c)
    (hc : chkB q N scope c body = true) : FnOk P w K mg base (L2.CX P w) (q.k + 1) f fd ps (spF K q (runDef ps.length N.length c)) := by
  obtain ⟨oc, od, dV, kV, doc, pm, an, cdv, ct, osl, rfl, lk, hcdI, _, _⟩ := F.ex
  refine fn_of lk hcdI S (fun vs H Q E h => spF_len h) fun A outer s H vs Q E hr h => ?_
  have C : CO q (cxOf (L2.CX P w) P w K mg base N qual scope f cdv A outer s H E) (fun cls d _ H' => E cls d H') scope N := ⟨rfl, rfl, rfl, S.nd, takes_of rfl rfl rfl rfl, passes_of rfl, hr, h1, hb, hpw.1, hpw.2, fun p e => ⟨(hcd p e).1, by obtain rfl := (hcd p e).2; exact (by decide +kernel : ((("steps_within" : Str) ++ (".<locals>." : Str)) ++ ("<lambda>" : Str)) = LN)⟩⟩
  refine ⟨_, pss_tb ((sndT q c).b C (fun _ => rfl) ⟨rfl, rfl, rfl⟩ hg hc), ?_⟩
  have hv : vs.length = ps.length := spF_len h
  obtain ⟨P0, m, S0, args, hP, htb, st, ha, h⟩ := h
  have hal : args.length = ps.length := by rw [← ha.length]; exact hv
  unfold runDef at h
  rw [if_pos hal] at h
  refine ⟨⟨P0, m, H⟩, g0 m, ⟨args ++ List.replicate (N.length - ps.length) .u, S0⟩, ?_, ?_⟩
  · have := RS.entry (p := ⟨P0, m, H⟩) (n := N.length - ps.length) hP htb st ha
    unfold L2.start
    rw [hv]
    exact this
  · have aft : ∀ {g' : G} {s' : State} {σ' : L2.St} {H' : Hp}, RS (FX K q ⟨P0, m, H⟩) g' s' σ' H' → Stp (FX K q ⟨P0, m, H⟩) (g0 m) H g' H' → Aft m H g'.m H' ∧ StR K q.cl q.flds P0 g'.m s'.S H' := fun {g' s' σ' H'} R t => ⟨⟨R.k0, t.tb, t.dom, t.pre⟩, R.st.any⟩
    cases e : ex c ⟨args ++ List.replicate (N.length - ps.length) .u, S0⟩ with
    | bad => rw [e] at h; exact h
    | exc y s1 =>
      rw [e] at h
      intro g' σ' H' C d R t er
      obtain ⟨z1, z2⟩ := aft R t
      refine h C d H' g'.m z2 z1 ⟨er.1, er.2.imp id fun ⟨dx, vs, w1, w2, w4, w5, w3⟩ => ⟨dx, vs, w1, w2, w4, w5, w3.nolist w5⟩⟩
    | ok fl s1 =>
      rw [e] at h
      intro g' σ' H' R t
      obtain ⟨z1, z2⟩ := aft R t
      cases fl with
      | nxt => exact h .non H' g'.m z2 z1 .non
      | brk => exact h.elim
      | cnt => exact h.elim
      | ret v => exact fun u Hs hn hu tb => h u H' g'.m z2 z1 (EVR.up hn tb hu).out
end
end MI

namespace MI
open PySem L2

/-- a law over a head of facts, whatever the world lets out -/
theorem law_walk {l : PySem.W.OpenLaw} {m j : Nat} {q : Program} {loose : List Str} {XP : (Str → Option Value) → Heap → Prop} {YP : World → Heap → Prop} {d : DefRec} {x : Str}
    (hm : l.most = some m) (hm2 : m ≤ sizeLine) (hd : d.params.defaults = []) (hr : Room j callerA)
    (F : ∀ (w : World) (mg : Str → Option Value) (fa : Addr) (h : Heap), YP w h → h.Ns mainGlobals mg → mg d.name = some (.ref fa) →
      ∃ (K : PySem.W.Frag) (fd : FuncData) (sp : Sp), K.In h ∧ (∀ (s : Shared) (u : Value), BindsTo s fd ⟨[u], []⟩ [(x, u)]) ∧
        (∀ (H : Hp) (a : Addr) (ns : List Int), ns.length ≤ m → Only H → SqL K H a (ns.map V.int) → sp [.ref a] H (fun v _ => v = .bl true) fun _ _ _ => False) ∧
        ∀ base : Heap, K.In base → base.Ns mainGlobals mg → FnOk l.prog w K mg base (L2.CX l.prog w) j fa fd [x] sp) : PySem.W.WalkO q loose XP YP l.row.toRowW d [] (fun f vs => PySem.call f vs) := by
  refine Att.attach_call hm hd fun w t0 t1 mg mb fa o pm cd doc a vs ns gd Y ho hdd hcd hmg hobj hints hlen hg => ?_
  obtain ⟨K, fd, sp, k1, k2, k3, k4⟩ := F w mg fa _ Y gd.T.g hmg
  refine law_call k1 gd.T.g gd.T.b gd.T.builtins gd.T.nolimit hg hobj hints (Nat.le_trans hlen hm2) hr k4 k2 (fun H z1 z2 => k3 H a ns hlen z1 z2) fun H e t2 z => ?_
  obtain ⟨_, _, _, _, _, _, _, _, _, _, _, _, z⟩ := z
  exact z
/-- .. with tables of code objects -/
theorem law_walkT {l : PySem.W.OpenLaw} {m j : Nat} {q : Program} {loose : List Str} {XP : (Str → Option Value) → Heap → Prop} {YP : World → Heap → Prop} {d : DefRec} {x : Str}
    (hm : l.most = some m) (hm2 : m ≤ sizeLine) (hd : d.params.defaults = []) (hr : Room j callerA)
    (F : ∀ (w : World) (mg : Str → Option Value) (fa : Addr) (h : Heap), YP w h → h.Ns mainGlobals mg → mg d.name = some (.ref fa) →
      ∃ (K : PySem.W.Frag) (fd : FuncData) (cs : List (Addr × Addr)) (sp : Sp), K.In h ∧ (∀ p ∈ cs, h.get? p.2 = some { cls := .none, data := .fields #[] }) ∧ (∀ p ∈ cs, K.lookup p.2 = none) ∧ (∀ p ∈ cs, PySem.W.CodeHd h p.1 p.2) ∧ (∀ (s : Shared) (u : Value), BindsTo s fd ⟨[u], []⟩ [(x, u)]) ∧
        (∀ (H : Hp) (a : Addr) (ns : List Int), ns.length ≤ m → (∀ p ∈ cs, H p.2 = some (.tbl #[])) → SqL K H a (ns.map V.int) → sp [.ref a] H (fun v _ => v = .bl true) fun _ _ _ => False) ∧
        ∀ base : Heap, K.In base → base.Ns mainGlobals mg → (∀ p ∈ cs, LamX.TabB base mg p.1 p.2) → FnOk l.prog w K mg base (L2.CX l.prog w) j fa fd [x] sp) : PySem.W.WalkO q loose XP YP l.row.toRowW d [] (fun f vs => PySem.call f vs) := by
  refine Att.attach_call hm hd fun w t0 t1 mg mb fa o pm cd doc a vs ns gd Y ho hdd hcd hmg hobj hints hlen hg => ?_
  obtain ⟨K, fd, cs, sp, k1, kT, kN, kC, k2, k3, k4⟩ := F w mg fa _ Y gd.T.g hmg
  refine LamX.law_callTs k1 gd.T.g gd.T.b gd.T.builtins gd.T.nolimit hg kT kN kC gd.T.bmain hobj hints (Nat.le_trans hlen hm2) hr k4 k2 (fun H z1 z2 => k3 H a ns hlen z1 z2) fun H e t2 z => ?_
  obtain ⟨_, _, _, _, _, _, _, _, _, _, _, _, z⟩ := z
  exact z
/-! ### constants of the module -/
mutual
def relD (K : PySem.W.Frag) : D → Value → Bool
  | .non, u => (match u with | .none => true | _ => false)
  | .bl b, u => (match u with | .bool c => b == c | _ => false)
  | .int i, u => (match u with | .int j _ => decide (i = j) | _ => false)
  | .str x, u => (match u with | .str y _ => decide (sS x = y) | _ => false)
  | .tup ds, u => (match u with
    | .ref a => (match K.lookup a with
      | some ⟨.type c, _, .seq its _, _⟩ => decide (c = "tuple") && (decide (its.size ≤ sizeLine) && relDs K ds its.toList)
      | _ => false)
    | _ => false)
  | _, _ => false
def relDs (K : PySem.W.Frag) : List D → List Value → Bool
  | [], us => us.isEmpty
  | d :: ds, us => (match us with | u :: us => relD K d u && relDs K ds us | [] => false)
end
mutual
theorem relD_ok {K : PySem.W.Frag} : ∀ {d : D} {u : Value}, relD K d u = true → ∃ v, RelV v u ∧ ∀ (H : Hp) (P : Addr → Prop), Rp K H P v d
  | .non, u, h => by
    cases u <;> first | (simp [relD] at h; done) | exact ⟨.non, rfl, fun _ _ => .non⟩
  | .bl b, u, h => by
    cases u <;> first | (simp [relD] at h; done) | skip
    rename_i c
    have e : b = c := by simpa [relD] using h
    subst e
    exact ⟨.bl b, rfl, fun _ _ => .bl b⟩
  | .int i, u, h => by
    cases u <;> first | (simp [relD] at h; done) | skip
    rename_i j t
    have e : i = j := by simpa [relD] using h
    subst e
    exact ⟨.int i, ⟨_, rfl⟩, fun _ _ => .int i⟩
  | .str x, u, h => by
    cases u <;> first | (simp [relD] at h; done) | skip
    rename_i y t
    have e : sS x = y := by simpa [relD] using h
    subst e
    exact ⟨.str (sS x), ⟨_, rfl⟩, fun _ _ => .str x⟩
  | .tup ds, u, h => by
    cases u <;> first | (simp [relD] at h; done) | skip
    rename_i a
    unfold relD at h
    dsimp only at h
    split at h
    · next c od its n sl q =>
      obtain ⟨h1, h⟩ := ba h
      obtain ⟨h2, h3⟩ := ba h
      obtain ⟨xs, r, k⟩ := relDs_ok h3
      exact ⟨.ref a, rfl, fun H P => .tup (.inr ⟨_, its, n, q, congrArg Value.type (dec h1), rfl, dec h2, r⟩) (k H P)⟩
    · cases h
  | .lst _, u, h => by simp [relD] at h
  | .scr _, u, h => by simp [relD] at h
  | .dct _ _, u, h => by simp [relD] at h
  | .dci _ _, u, h => by simp [relD] at h
  | .exn _ _ _, u, h => by simp [relD] at h
  | .fnc _, u, h => by simp [relD] at h
theorem relDs_ok {K : PySem.W.Frag} : ∀ {ds : List D} {us : List Value}, relDs K ds us = true → ∃ xs, Vals xs us ∧ ∀ (H : Hp) (P : Addr → Prop), RpA K H P xs ds
  | [], us, h => by
    cases us with
    | nil => exact ⟨[], .nil, fun _ _ => .nil⟩
    | cons _ _ => simp [relDs] at h
  | d :: ds, us, h => by
    cases us with
    | nil => simp [relDs] at h
    | cons u us =>
      unfold relDs at h
      obtain ⟨h1, h2⟩ := ba h
      obtain ⟨v, r1, k1⟩ := relD_ok h1
      obtain ⟨xs, r2, k2⟩ := relDs_ok h2
      exact ⟨v :: xs, .cons r1 r2, fun H P => .cons (k1 H P) (k2 H P)⟩
end
def conB (K : PySem.W.Frag) (p : Str × D) : Bool := match PySem.W.nsIn K mainGlobals p.1 with
  | some (some u) => relD K p.2 u
  | _ => false
theorem conB_ok {K : PySem.W.Frag} {mg : Str → Option Value} {h : Heap} (k1 : K.In h) (k2 : h.Ns mainGlobals mg) {x : Str} {d : D} (c : conB K (x, d) = true) : ConK K mg x d := by
  unfold conB at c
  split at c
  · next u e =>
    obtain ⟨v, r, k⟩ := relD_ok c
    exact ⟨v, u, PySem.W.mg_of k1 k2 e, r, k⟩
  · cases c
/-! ### exceptions' classes, as the written part tells of them -/
inductive Xa where
  | tn (t : List Nat) | ix (c t : List Nat) (b : Bool) | xf (c f : List Nat) | em (c t : List Nat) (b : Bool) | hn (t : List Nat) | rs (c : List Nat) (ks : List (List Nat)) | b1 (t : List Nat)
def gloB (K : PySem.W.Frag) (t : List Nat) : Bool := decide (PySem.W.nsIn K mainGlobals (sS t) = some (some (.ref (He.ga K (sS t)))))
def Xa.ok (K : PySem.W.Frag) : Xa → Bool
  | .tn t => if sS t = "ValueError" then decide (PySem.W.nsIn K mainGlobals (sS t) = some none) else gloB K t
  | .ix c t b => xclsB K (He.ga K (sS c)) && decide (PySem.W.kitOne K (.ref (He.ga K (sS c))) (tvX K t) = some b)
  | .xf c f => xclsB K (He.ga K (sS c)) && decide (PySem.W.findIn K (.ref (He.ga K (sS c))) (sS f) = some none)
  | .em c t b => decide (PySem.W.exmOne K (.ref (He.ga K (sS c))) (.ref (He.ga K (sS t))) = some b)
  | .hn t => gloB K t
  | .rs c ks => gloB K c && (oexB K (He.ga K (sS c)) && ((ks.all fun g => decide (PySem.W.findIn K (.ref (He.ga K (sS c))) (sS g) = some none)) && (decide (ks.length ≤ 900) && (decide (PySem.W.findIn K (.ref (He.ga K (sS c))) "__init__" = some (some (.ref (He.ma K (He.ga K (sS c)) "__init__")))) && decide (PySem.W.typeIn K (.ref (He.ma K (He.ga K (sS c)) "__init__")) = some (.type "function"))))))
  | .b1 t => gloB K t && base1B K (He.ga K (sS t))
section
variable {K : PySem.W.Frag} {mg : Str → Option Value} {h : Heap}
theorem glo_of (k1 : K.In h) (k2 : h.Ns mainGlobals mg) {t : List Nat} (c : gloB K t = true) : mg (sS t) = some (.ref (He.ga K (sS t))) := PySem.W.mg_of k1 k2 (dec c)
theorem tn_ok (k1 : K.In h) (k2 : h.Ns mainGlobals mg) {t : List Nat} (c : (Xa.tn t).ok K = true) : TnK K mg t := by
  have c : (if sS t = "ValueError" then decide (PySem.W.nsIn K mainGlobals (sS t) = some none) else gloB K t) = true := c
  exact ⟨fun e => by rw [if_pos e] at c; exact PySem.W.mg_none_of k1 k2 (dec c), fun e => by rw [if_neg e] at c; exact glo_of k1 k2 c⟩
theorem ix_ok {c t : List Nat} {b : Bool} (h : (Xa.ix c t b).ok K = true) : IxK K c t b := ⟨xcls_of (ba h).1, dec (ba h).2⟩
theorem xf_ok {c f : List Nat} (h : (Xa.xf c f).ok K = true) : XfK K c f := ⟨xcls_of (ba h).1, dec (ba h).2⟩
theorem em_ok {c t : List Nat} {b : Bool} (h : (Xa.em c t b).ok K = true) : PySem.W.exmOne K (.ref (He.ga K (sS c))) (.ref (He.ga K (sS t))) = some b := dec h
theorem rs_ok {P : Program} {w : World} {base : Heap} {q : Bs} {c : List Nat} {ks : List (List Nat)} {fd : FuncData} {ps : List Str} {j : Nat} (k1 : K.In h) (k2 : h.Ns mainGlobals mg) (x : (Xa.rs c ks).ok K = true) (b : Binds K fd ps []) (hj : j + 1 ≤ q.k)
    (F : FnOk P w K mg base (L2.CX P w) j (He.ma K (He.ga K (sS c)) "__init__") fd ps (spI K (ks.map sS))) : RsK P w K mg base q c ks := by
  obtain ⟨x1, x⟩ := ba x
  obtain ⟨x2, x⟩ := ba x
  obtain ⟨x3, x⟩ := ba x
  obtain ⟨x4, x⟩ := ba x
  obtain ⟨x5, x6⟩ := ba x
  refine ⟨glo_of k1 k2 x1, oex_of x2, fun g hg => ?_, by rw [List.length_map]; exact dec x4, _, fd, ps, j, dec x5, dec x6, b, hj, F⟩
  obtain ⟨g0, hg0, rfl⟩ := List.mem_map.mp hg
  exact dec (List.all_eq_true.mp x3 g0 hg0)
end
/-! ### what a head tells: facts by names, the defs, the constants -/
def csX (K : PySem.W.Frag) (cs : List (Str × D)) (xs : List Xa) : Bool := cs.all (conB K) && xs.all (Xa.ok K)
/-- what is looked at: what the module's names reach, and the model's own marks -/
def asM (g : Addr → Option Obj) (n : Nat) : List Addr := cStatics :: He.asD g n
open He in
def hookM (n : Nat) (fa : List Fa) (fn : List DefD) (cs : List (Str × D)) (xs : List Xa) : PySem.W.Hook where
  α := AlD × Bool
  obs := fun s => (obsD fa fn (frG s.heap.get? (asM s.heap.get? n)), csX (frG s.heap.get? (asM s.heap.get? n)) cs xs)
  val := fun _ => (valD fn, true)
  says := fun _ h => ∃ K : PySem.W.Frag, K.In h ∧ SaysD fa fn K ∧ csX K cs xs = true
  of := fun _ _ e => ⟨_, frG_in, (Prod.mk.inj e).1, (Prod.mk.inj e).2⟩
  keeps := fun _ _ _ ⟨K, hK, c⟩ k => ⟨K, PySem.W.Frag.In.keeps hK k, c⟩
open He in
def obM (n : Nat) (fa : List Fa) (fn : List DefD) (cs : List (Str × D)) (xs : List Xa) (s : PySem.W.SharedT) : AlD × Bool := (obsD fa fn (frG (HandSHeadRun.getT s) (asM (HandSHeadRun.getT s) n)), csX (frG (HandSHeadRun.getT s) (asM (HandSHeadRun.getT s) n)) cs xs)
open He in
theorem obM_eq (n : Nat) (fa : List Fa) (fn : List DefD) (cs : List (Str × D)) (xs : List Xa) (s : PySem.W.SharedT) : obM n fa fn cs xs s = (hookM n fa fn cs xs).obs s.abs := by
  have e : HandSHeadRun.getT s = s.abs.heap.get? := funext (HandSHeadRun.getT_eq s)
  unfold obM
  rw [e]
  rfl
theorem all_nil {α : Type} {P : α → Prop} : ∀ x ∈ ([] : List α), P x := fun x h => nomatch h
theorem all_cons {α : Type} {P : α → Prop} {a : α} {l : List α} (h : P a) (t : ∀ x ∈ l, P x) : ∀ x ∈ a :: l, P x := fun x hx => (List.mem_cons.mp hx).elim (fun e => e ▸ h) (t x)
/-- a class's body -/
def clsBody (s : Stmt) : List Stmt := match s with
  | .ClassDef _ _ _ b _ _ _ _ _ _ _ => b
  | _ => []
/-- what is asked of a law -/
def spLaw (m : Nat) (K : PySem.W.Frag) (T : List (Addr × Str)) : Sp := fun vs H Q _ => (∀ p ∈ T, TbS H p.1 p.2) ∧ ∃ (a : Addr) (ns : List Int), vs = [.ref a] ∧ ns.length ≤ m ∧ SqL K H a (ns.map V.int) ∧ ∀ H', Q (.bl true) H'
theorem law_sp {m : Nat} {K : PySem.W.Frag} {q : Bs} {s : Fn} (h : ∀ ns : List Int, ns.length ≤ m → isTrueR (s [] [.v (.scr (ns.map D.int)) false])) (vs : List V) (H : Hp) (Q : VK) (E : XK) (z : spLaw m K q.tb vs H Q E) : spF K q s vs H Q E := by
  obtain ⟨htb, a, ns, rfl, hl, hS, hQ⟩ := z
  have nl : NL K H (PP (FX K q ⟨fun _ => False, [], H⟩) (g0 [])) a (ns.map V.int) := by
    rcases hS with (z | ⟨o, z⟩) | z
    · exact .inl ⟨z, by rw [pp0]; exact id⟩
    · exact .inr (.inl ⟨o, z⟩)
    · exact .inr (.inr (.inr z))
  refine ⟨fun _ => False, [], [], [.v (.scr (ns.map D.int)) false], fun _ z => z.elim, htb, ⟨List.nodup_nil, rfl, fun j o e => by simp at e⟩, .cons (.scr nl RpA.ints) .nil, ?_⟩
  have h := h ns hl
  cases e : s [] [.v (.scr (ns.map D.int)) false] with
  | bad => rw [e] at h; exact False.elim h
  | exc x S' => rw [e] at h; exact False.elim h
  | ok r S' =>
    rw [e] at h
    cases r <;> first | exact h.elim | skip
    rename_i x
    cases x <;> first | exact h.elim | skip
    rename_i b
    cases b <;> first | exact h.elim | skip
    intro v H' m' _ _ hv
    cases hv
    exact hQ H'
/-! ### .. with empty tables left out -/
section
open He
structure SaysM (fa : List Fa) (fn : List DefD) (cs : List (Str × D)) (xs : List Xa) (tf : List Defn) (h : Heap) (K : PySem.W.Frag) : Prop where
  d : SaysD fa fn K
  x : csX K cs xs = true
  hd : ∀ p ∈ tf, PySem.W.codeHdIn K (cT K p).1 (cT K p).2 = true
  out : ∀ p ∈ tf, K.lookup (cT K p).2 = none
  empty : ∀ p ∈ tf, h.get? (cT K p).2 = some { cls := .none, data := .fields #[] }
def obsM (n : Nat) (fa : List Fa) (fn : List DefD) (cs : List (Str × D)) (xs : List Xa) (tf : List Defn) (g : Addr → Option Obj) : AlD × Bool := (obsD fa fn (frT g (asM g n)), csX (frT g (asM g n)) cs xs && tabsB g tf (frT g (asM g n)))
theorem saysM_of {n : Nat} {fa : List Fa} {fn : List DefD} {cs : List (Str × D)} {xs : List Xa} {tf : List Defn} {h : Heap} (e : obsM n fa fn cs xs tf h.get? = (valD fn, true)) : SaysM fa fn cs xs tf h (frT h.get? (asM h.get? n)) := by
  have e1 : obsD fa fn (frT h.get? (asM h.get? n)) = valD fn := congrArg (fun z : AlD × Bool => z.1) e
  have e2 : (csX (frT h.get? (asM h.get? n)) cs xs && tabsB h.get? tf (frT h.get? (asM h.get? n))) = true := congrArg (fun z : AlD × Bool => z.2) e
  obtain ⟨h1, h2⟩ := MI.ba e2
  have key : ∀ p ∈ tf, PySem.W.codeHdIn (frT h.get? (asM h.get? n)) (cT (frT h.get? (asM h.get? n)) p).1 (cT (frT h.get? (asM h.get? n)) p).2 = true ∧ ∃ o, h.get? (cT (frT h.get? (asM h.get? n)) p).2 = some o ∧ emptyTab o = true := fun p hp => by
    obtain ⟨h3, h4⟩ := MI.ba (List.all_eq_true.mp h2 p hp)
    refine ⟨h3, ?_⟩
    cases q : h.get? (cT (frT h.get? (asM h.get? n)) p).2 with
    | none => rw [q] at h4; cases h4
    | some o => rw [q] at h4; exact ⟨o, rfl, h4⟩
  refine ⟨e1, h1, fun p hp => (key p hp).1, fun p hp => ?_, fun p hp => ?_⟩
  · obtain ⟨_, o, q, z⟩ := key p hp
    exact frT_none q z
  · obtain ⟨_, o, q, z⟩ := key p hp
    rw [q, emptyTab_eq z]
def hookMT (n : Nat) (fa : List Fa) (fn : List DefD) (cs : List (Str × D)) (xs : List Xa) (tf : List Defn) : PySem.W.Hook where
  α := AlD × Bool
  obs := fun s => obsM n fa fn cs xs tf s.heap.get?
  val := fun _ => (valD fn, true)
  says := fun _ h => ∃ K : PySem.W.Frag, K.In h ∧ SaysM fa fn cs xs tf h K
  of := fun _ _ e => ⟨_, frT_in, saysM_of e⟩
  keeps := fun _ _ _ ⟨K, hK, c⟩ k => ⟨K, PySem.W.Frag.In.keeps hK k, ⟨c.d, c.x, c.hd, c.out, fun p hp => k _ _ (c.empty p hp)⟩⟩
def obMT (n : Nat) (fa : List Fa) (fn : List DefD) (cs : List (Str × D)) (xs : List Xa) (tf : List Defn) (s : PySem.W.SharedT) : AlD × Bool := obsM n fa fn cs xs tf (HandSHeadRun.getT s)
theorem obMT_eq (n : Nat) (fa : List Fa) (fn : List DefD) (cs : List (Str × D)) (xs : List Xa) (tf : List Defn) (s : PySem.W.SharedT) : obMT n fa fn cs xs tf s = (hookMT n fa fn cs xs tf).obs s.abs := by
  have e : HandSHeadRun.getT s = s.abs.heap.get? := funext (HandSHeadRun.getT_eq s)
  unfold obMT
  rw [e]
  rfl
/-- a def's code object -/
theorem code_at {K : PySem.W.Frag} {x qual : Str} {params : Arguments} {body : List Stmt} {scope : Scope} {p : Str × Option Str} {fd : FuncData} (F : FunD K x qual params body scope [] [] (fAd K p) fd) : fd.code = .ref (cT K p).1 := by
  obtain ⟨oc, od, dV, kV, doc, pm, an, cdv, ct, osl, rfl, lk, hcd, _, _⟩ := F.ex
  obtain ⟨c, rfl⟩ := codeIn_ref hcd
  show Value.ref c = .ref (codeOf K p)
  rw [codeOf_eq lk rfl]
end
end MI

set_option maxRecDepth 100000
set_option maxHeartbeats 0
namespace LW
open MI
def k_MOST : D := (.int 8)
def k_FACES : D := (.tup [(.str [109]), (.str [112])])
open PySem L2 MI
abbrev top (i : Nat) : Stmt := PySem.Challenge.pw_selfsight_k06_halls_checked.main.body.getD i (.Pass ⟨0, 0, 0, 0⟩)
def fnsL : List Str := ["__init__", "__init__", "__init__", "__init__", "__init__", "is_whole", "is_size", "is_edge", "looks_in", "is_side", "checked", "_law_cell", "_law_numbers", "_law_digits", "_law_only", "_law_edges", "_law_side", "_law_hall", "_law_shuffled", "_law_bent", "_law_first_bad", "_law_due", "law"]
def consL : List Str := ["MOST", "FACES"]
def clsL : List Str := ["SightError", "NoHall", "NoText", "NoPerson", "NoHiding", "NoRing", "NoRow", "NoName"]
def fldsL : List Str := []
def bltsL : List Str := ["range", "abs", "int", "zip", "len", "tuple", "sorted", "dict", "isinstance", "bool", "list"]
abbrev qq (P : Program) (w : World) (K : PySem.W.Frag) (k : Nat) (cd : Option (Addr × Addr) := none) : Bs := ⟨fun n => He.ga K (clsL.getD n ""), fldsL, fnsL, consL, clsL, bltsL, k, [], cd, P, w⟩
def N__law_edges : List Str := ["_law_width", "_law_height", "_law_found", "_law_x", "_law_y"]
def N__law_digits : List Str := ["_law_cell_here", "_law_many", "_law_base", "_law_found", "_law_number", "_law_rest", "_law_k"]
def N__law_side : List Str := ["_law_width", "_law_height", "_law_edge", "_law_digit", "_law_one", "_law_other", "_law_at", "_law_end"]
def N__law_hall : List Str := ["_law_size", "_law_cell_here", "_law_most", "_law_width", "_law_height", "_law_edges_here", "_law_digits_here", "_law_sides", "_law_edge", "_law_digit"]
def N__law_cell : List Str := ["_law_script", "_law_k"]
def N__law_numbers : List Str := ["_law_cell_here", "_law_many", "_law_found", "_law_number", "_law_digits_here", "_law_k"]
def N__law_shuffled : List Str := ["_law_sides", "_law_cell_here", "_law_xs", "_law_k", "_law_pair"]
def N__law_first_bad : List Str := ["_law_width", "_law_height", "_law_sides", "_law_edges_here", "_law_known", "_law_k", "_law_kind", "_law_x", "_law_y", "_law_one", "_law_other", "_law_at", "_law_end", "_law_edge"]
def N__law_due : List Str := ["_law_hall_here", "_law_width", "_law_height", "_law_sides", "_law_size", "_law_bad"]
def N__law_bent : List Str := ["_law_hall_here", "_law_cell_here", "_law_width", "_law_height", "_law_sides", "_law_part", "_law_edges_here", "_law_edge", "_law_some", "_law_odd", "_law_at", "_law_sizes"]
def N_is_whole : List Str := ["thing"]
def N_is_size : List Str := ["thing"]
def N_is_edge : List Str := ["width", "height", "kind", "x", "y"]
def N_looks_in : List Str := ["width", "height", "side", "kind", "x", "y", "one", "other", "at", "end"]
def N_is_side : List Str := ["width", "height", "side", "kind", "x", "y", "one", "other"]
def N_checked : List Str := ["hall", "width", "height", "sides", "known", "k"]
def N__law_only : List Str := ["_law_e", "_law_at", "_law_kinds", "_law_k"]
def N_law : List Str := ["_law_script", "_law_hall_here", "_law_k", "_law_due_here", "_law_found", "_law_refused", "_law_e"]
def d__law_edges : He.DefD := ⟨("_law_edges", none), "_law_edges", "_law_edges", defArgs (top 23), defBody (top 23), defScope (top 23), [], []⟩
def d__law_digits : He.DefD := ⟨("_law_digits", none), "_law_digits", "_law_digits", defArgs (top 21), defBody (top 21), defScope (top 21), [], []⟩
def d__law_side : He.DefD := ⟨("_law_side", none), "_law_side", "_law_side", defArgs (top 24), defBody (top 24), defScope (top 24), [], []⟩
def d__law_hall : He.DefD := ⟨("_law_hall", none), "_law_hall", "_law_hall", defArgs (top 25), defBody (top 25), defScope (top 25), [], []⟩
def d__law_cell : He.DefD := ⟨("_law_cell", none), "_law_cell", "_law_cell", defArgs (top 19), defBody (top 19), defScope (top 19), [], []⟩
def d__law_numbers : He.DefD := ⟨("_law_numbers", none), "_law_numbers", "_law_numbers", defArgs (top 20), defBody (top 20), defScope (top 20), [], []⟩
def d__law_shuffled : He.DefD := ⟨("_law_shuffled", none), "_law_shuffled", "_law_shuffled", defArgs (top 26), defBody (top 26), defScope (top 26), [], []⟩
def d__law_first_bad : He.DefD := ⟨("_law_first_bad", none), "_law_first_bad", "_law_first_bad", defArgs (top 28), defBody (top 28), defScope (top 28), [], []⟩
def d__law_due : He.DefD := ⟨("_law_due", none), "_law_due", "_law_due", defArgs (top 29), defBody (top 29), defScope (top 29), [], []⟩
def d__law_bent : He.DefD := ⟨("_law_bent", none), "_law_bent", "_law_bent", defArgs (top 27), defBody (top 27), defScope (top 27), [], []⟩
def d_is_whole : He.DefD := ⟨("is_whole", none), "is_whole", "is_whole", defArgs (top 12), defBody (top 12), defScope (top 12), [], []⟩
def d_is_size : He.DefD := ⟨("is_size", none), "is_size", "is_size", defArgs (top 13), defBody (top 13), defScope (top 13), [], []⟩
def d_is_edge : He.DefD := ⟨("is_edge", none), "is_edge", "is_edge", defArgs (top 14), defBody (top 14), defScope (top 14), [], []⟩
def d_looks_in : He.DefD := ⟨("looks_in", none), "looks_in", "looks_in", defArgs (top 15), defBody (top 15), defScope (top 15), [], []⟩
def d_is_side : He.DefD := ⟨("is_side", none), "is_side", "is_side", defArgs (top 16), defBody (top 16), defScope (top 16), [], []⟩
def d_checked : He.DefD := ⟨("checked", none), "checked", "checked", defArgs (top 17), defBody (top 17), defScope (top 17), [], []⟩
def d__law_only : He.DefD := ⟨("_law_only", none), "_law_only", "_law_only", defArgs (top 22), defBody (top 22), defScope (top 22), [], []⟩
def d_law : He.DefD := ⟨("law", none), "law", "law", defArgs (top 30), defBody (top 30), defScope (top 30), [], []⟩
def d_NoHall_init : He.DefD := ⟨("NoHall", some "__init__"), "__init__", "NoHall.__init__", defArgs ((clsBody (top 2)).getD 0 (.Pass ⟨0, 0, 0, 0⟩)), defBody ((clsBody (top 2)).getD 0 (.Pass ⟨0, 0, 0, 0⟩)), defScope ((clsBody (top 2)).getD 0 (.Pass ⟨0, 0, 0, 0⟩)), [], []⟩
def fnL : List He.DefD := [d__law_edges, d__law_digits, d__law_side, d__law_hall, d__law_cell, d__law_numbers, d__law_shuffled, d__law_first_bad, d__law_due, d__law_bent, d_is_whole, d_is_size, d_is_edge, d_looks_in, d_is_side, d_checked, d__law_only, d_law, d_NoHall_init]
def xaL : List Xa := [.rs [78, 111, 72, 97, 108, 108] [[115, 105, 100, 101]], .tn [78, 111, 72, 105, 100, 105, 110, 103], .ix [78, 111, 72, 97, 108, 108] [78, 111, 72, 105, 100, 105, 110, 103] false, .tn [78, 111, 80, 101, 114, 115, 111, 110], .ix [78, 111, 72, 97, 108, 108] [78, 111, 80, 101, 114, 115, 111, 110] false, .tn [78, 111, 84, 101, 120, 116], .ix [78, 111, 72, 97, 108, 108] [78, 111, 84, 101, 120, 116] false, .tn [78, 111, 72, 97, 108, 108], .ix [78, 111, 72, 97, 108, 108] [78, 111, 72, 97, 108, 108] true, .tn [78, 111, 78, 97, 109, 101], .ix [78, 111, 72, 97, 108, 108] [78, 111, 78, 97, 109, 101] false, .tn [78, 111, 82, 111, 119], .ix [78, 111, 72, 97, 108, 108] [78, 111, 82, 111, 119] false, .tn [78, 111, 82, 105, 110, 103], .ix [78, 111, 72, 97, 108, 108] [78, 111, 82, 105, 110, 103] false, .tn [83, 105, 103, 104, 116, 69, 114, 114, 111, 114], .ix [78, 111, 72, 97, 108, 108] [83, 105, 103, 104, 116, 69, 114, 114, 111, 114] true, .tn [86, 97, 108, 117, 101, 69, 114, 114, 111, 114], .ix [78, 111, 72, 97, 108, 108] [86, 97, 108, 117, 101, 69, 114, 114, 111, 114] true, .hn [83, 105, 103, 104, 116, 69, 114, 114, 111, 114], .em [78, 111, 72, 97, 108, 108] [83, 105, 103, 104, 116, 69, 114, 114, 111, 114] true, .xf [78, 111, 72, 97, 108, 108] [115, 105, 100, 101], .b1 [83, 105, 103, 104, 116, 69, 114, 114, 111, 114]]
def gloL : List Str := ["_law_edges", "_law_digits", "_law_side", "_law_hall", "_law_cell", "_law_numbers", "_law_shuffled", "_law_first_bad", "_law_due", "_law_bent", "is_whole", "is_size", "is_edge", "looks_in", "is_side", "checked", "_law_only", "law"]
def csL : List (Str × D) := [("MOST", k_MOST), ("FACES", k_FACES)]
def moreL : List He.Fa := []
def faL : List He.Fa := gloL.map He.Fa.glo ++ (bltsL.map He.Fa.free ++ moreL)
def oth0 : List Str := ["SightError", "NoHall", "NoText", "NoPerson", "NoHiding", "NoRing", "NoRow", "NoName", "MOST", "FACES", "is_whole", "is_size", "is_edge", "looks_in", "is_side", "checked", "_law_cell", "_law_numbers", "_law_digits", "_law_only", "_law_edges", "_law_side", "_law_hall", "_law_shuffled"]
def oth1 : List Str := ["_law_bent", "_law_first_bad", "_law_due"]
def oth : List Str := oth0 ++ oth1
abbrev theRow : PySem.W.OpenRow := PySem.W.OpenLaw.row PySem.Challenge.rw_selfsight_k06_halls_checked
abbrev hk : PySem.W.Hook := hookM 5 faL fnL csL xaL
def ob (s : PySem.W.SharedT) : He.AlD × Bool := obM 5 faL fnL csL xaL s
theorem ob_eq (s : PySem.W.SharedT) : ob s = hk.obs s.abs := obM_eq 5 faL fnL csL xaL s
theorem run (w : World) : HandSHeadRun.RunEq theRow (PySem.W.view theRow.prog [30]) hk ob 6780 oth w := by
  intro os
  kernel_rfl
end LW
namespace MI

/-! ### running the mini-interpreter by simp -/
section
variable {σ α β : Type} {s : State} {r : List Slot} {S : Store}
@[simp] theorem bind_ok (a : α) (s : σ) (f : α → σ → R σ β) : (R.ok a s).bind f = f a s := rfl
@[simp] theorem bind_exc (e : Exn) (s : σ) (f : α → σ → R σ β) : (R.exc e s : R σ α).bind f = .exc e s := rfl
@[simp] theorem bind_bad (f : α → σ → R σ β) : (R.bad : R σ α).bind f = .bad := rfl
@[simp] theorem dat_sh (x : D) (s : σ) (f : D → σ → R σ β) : (R.ok (.sh x) s : R σ EV).dat f = f x s := rfl
@[simp] theorem dat_fr (x : D) (s : σ) (f : D → σ → R σ β) : (R.ok (.fr x) s : R σ EV).dat f = f x s := rfl
@[simp] theorem dat_bo (x : D) (s : σ) (f : D → σ → R σ β) : (R.ok (.bo x) s : R σ EV).dat f = f x s := rfl
@[simp] theorem dat_exc (e : Exn) (s : σ) (f : D → σ → R σ β) : (R.exc e s : R σ EV).dat f = .exc e s := rfl
@[simp] theorem dat_bad (f : D → σ → R σ β) : (R.bad : R σ EV).dat f = .bad := rfl
@[simp] theorem orBad_some (a : α) (s : σ) : orBad (some a) s = .ok a s := rfl
@[simp] theorem orBad_none (s : σ) : orBad (none : Option α) s = .bad := rfl
@[simp] theorem slot_sh (x : D) : (EV.sh x).slot = some (.v x false) := rfl
@[simp] theorem slot_fr (x : D) : (EV.fr x).slot = some (.v x false) := rfl
@[simp] theorem slot_ob (j : Nat) : (EV.ob j).slot = some (.o j) := rfl
@[simp] theorem sto_sh (x : D) : sto (.sh x) = some x := rfl
@[simp] theorem sto_fr (x : D) : sto (.fr x) = some x := rfl
@[simp] theorem gd_true (x : α) : gd true x = some x := rfl
@[simp] theorem gd_false (x : α) : gd false x = none := rfl
@[simp] theorem dats_nil : dats [] = some [] := rfl
@[simp] theorem dats_cons (x : D) (b : Bool) (xs : List Slot) : dats (.v x b :: xs) = (dats xs).map (x :: ·) := rfl

@[simp] theorem ev_var (i : Nat) : ev (.var i) ⟨r, S⟩ = match r[i]? with
    | some (.v x _) => .ok (.sh x) ⟨r.set i (.v x false), S⟩
    | some (.o j) => .ok (.ob j) ⟨r, S⟩
    | _ => .bad := by simp only [ev] <;> rfl
@[simp] theorem ev_bor (i : Nat) : ev (.bor i) ⟨r, S⟩ = match r[i]? with
    | some (.v x _) => .ok (.bo x) ⟨r, S⟩
    | _ => .bad := by simp only [ev] <;> rfl
@[simp] theorem ev_dnew : ev .dnew ⟨r, S⟩ = .ok (.fr (.dct [] [])) ⟨r, S⟩ := by simp only [ev]
@[simp] theorem ev_dnwi : ev .dnwi ⟨r, S⟩ = .ok (.fr (.dci [] [])) ⟨r, S⟩ := by simp only [ev]
@[simp] theorem ev_stp (a b : E) : ev (.stp a b) ⟨r, S⟩ = (ev a ⟨r, S⟩).dat fun x s1 => (match x with
    | .tup xs => (ev b s1).dat fun y s2 => (match y with
      | .int i => if i = 1 then .ok (.sh (.tup xs)) s2 else if i = -1 then .ok (.sh (.tup xs.reverse)) s2 else .bad
      | _ => .bad)
    | _ => .bad) := by simp only [ev] <;> rfl
@[simp] theorem ev_dqe (b : Bool) (a c : E) : ev (.dqe b a c) ⟨r, S⟩ = (ev a ⟨r, S⟩).dat fun x s1 => (match dqA x with
    | some ps => (ev c s1).dat fun y s2 => (match dqA y with
      | some qs => if sameK ps qs = true then .ok (.sh (.bl b)) s2 else .bad
      | none => .bad)
    | none => .bad) := by simp only [ev] <;> rfl
@[simp] theorem ev_din (b : Bool) (k : E) (i : Nat) : ev (.din b k i) ⟨r, S⟩ = (ev k ⟨r, S⟩).dat fun x s1 => (match s1.r[i]? with
    | some (.d ks) => if x.keyokN = true then .ok (.sh (.bl (memK x ks == b))) s1 else .bad
    | _ => .bad) := by simp only [ev] <;> rfl
@[simp] theorem ev_dgt (a b c : E) : ev (.dgt a b c) ⟨r, S⟩ = (ev a ⟨r, S⟩).dat fun x s1 => (match x with
    | .dci ks ds => (ev b s1).dat fun y s2 => (ev c s2).dat fun z s3 => (match y with
      | .int n => if flatD z = true then .ok (.sh ((getI n ks ds).getD z)) s3 else .bad
      | _ => .bad)
    | _ => .bad) := by simp only [ev] <;> rfl
@[simp] theorem ev_kn : ev .kn ⟨r, S⟩ = .ok (.sh .non) ⟨r, S⟩ := by simp only [ev] <;> rfl
@[simp] theorem ev_kb (b : Bool) : ev (.kb b) ⟨r, S⟩ = .ok (.sh (.bl b)) ⟨r, S⟩ := by simp only [ev] <;> rfl
@[simp] theorem ev_ki (i : Int) : ev (.ki i) ⟨r, S⟩ = .ok (.sh (.int i)) ⟨r, S⟩ := by simp only [ev] <;> rfl
@[simp] theorem ev_ks (x : List Nat) : ev (.ks x) ⟨r, S⟩ = .ok (.sh (.str x)) ⟨r, S⟩ := by simp only [ev] <;> rfl
@[simp] theorem ev_glo (n : Nat) (d : D) : ev (.glo n d) ⟨r, S⟩ = .ok (.sh d) ⟨r, S⟩ := by simp only [ev] <;> rfl
@[simp] theorem ev_bin (o : Bop) (a b : E) : ev (.bin o a b) ⟨r, S⟩ = (ev a ⟨r, S⟩).dat fun x s1 => (ev b s1).dat fun y s2 => orBad (binop o x y) s2 := by simp only [ev] <;> rfl
@[simp] theorem ev_neg (a : E) : ev (.neg a) ⟨r, S⟩ = (ev a ⟨r, S⟩).dat fun x s1 => (match x with | .int i => .ok (.sh (.int (-i))) s1 | _ => .bad) := by simp only [ev] <;> rfl
@[simp] theorem ev_cmp (o : Cop) (a b : E) : ev (.cmp o a b) ⟨r, S⟩ = (ev a ⟨r, S⟩).dat fun x s1 => (ev b s1).dat fun y s2 => orBad ((cmpop o x y).map fun k => .sh (.bl k)) s2 := by simp only [ev] <;> rfl
@[simp] theorem ev_chn (o p : Cop) (a b c : E) : ev (.chn o p a b c) ⟨r, S⟩ = (ev a ⟨r, S⟩).dat fun x s1 => (ev b s1).dat fun y s2 => (match cmpop o x y with
    | some true => (ev c s2).dat fun z s3 => orBad ((cmpop p y z).map fun k => .sh (.bl k)) s3
    | some false => .ok (.sh (.bl false)) s2
    | none => .bad) := by simp only [ev] <;> rfl
@[simp] theorem ev_isn (a : E) : ev (.isn a) ⟨r, S⟩ = (ev a ⟨r, S⟩).dat fun x s1 => .ok (.sh (.bl (isNon x))) s1 := by simp only [ev] <;> rfl
@[simp] theorem ev_lend (a : E) : ev (.lend a) ⟨r, S⟩ = (match ev a ⟨r, S⟩ with
    | .ok (.sh x) s1 => if x.nol = true then .ok (.sh x) ⟨r, s1.S⟩ else .bad
    | .exc e s1 => .exc e s1
    | _ => .bad) := by simp only [ev] <;> rfl
@[simp] theorem ev_isnn (a : E) : ev (.isnn a) ⟨r, S⟩ = (ev a ⟨r, S⟩).dat fun x s1 => .ok (.sh (.bl (!isNon x))) s1 := by simp only [ev] <;> rfl
@[simp] theorem ev_not (a : E) : ev (.not a) ⟨r, S⟩ = (ev a ⟨r, S⟩).dat fun x s1 => (match x with | .bl b => .ok (.sh (.bl (!b))) s1 | _ => .bad) := by simp only [ev] <;> rfl
@[simp] theorem ev_and (a b : E) : ev (.and a b) ⟨r, S⟩ = (ev a ⟨r, S⟩).dat fun x s1 => (match x with | .bl true => ev b s1 | .bl false => .ok (.sh (.bl false)) s1 | _ => .bad) := by simp only [ev] <;> rfl
@[simp] theorem ev_or (a b : E) : ev (.or a b) ⟨r, S⟩ = (ev a ⟨r, S⟩).dat fun x s1 => (match x with | .bl true => .ok (.sh (.bl true)) s1 | .bl false => ev b s1 | _ => .bad) := by simp only [ev] <;> rfl
@[simp] theorem ev_on (a : E) : ev (.one a) ⟨r, S⟩ = ev a ⟨r, S⟩ := by simp only [ev] <;> rfl
@[simp] theorem ev_it (c a b : E) : ev (.ite c a b) ⟨r, S⟩ = (ev c ⟨r, S⟩).dat fun x s1 => (match x with | .bl true => ev a s1 | .bl false => ev b s1 | _ => .bad) := by simp only [ev] <;> rfl
@[simp] theorem ev_tup (as : E) : ev (.tup as) ⟨r, S⟩ = (evA as ⟨r, S⟩).bind fun vs s1 => orBad ((dats vs).map fun xs => .sh (.tup xs)) s1 := by simp only [ev] <;> rfl
@[simp] theorem ev_lst (as : E) : ev (.lst as) ⟨r, S⟩ = (evA as ⟨r, S⟩).bind fun vs s1 => orBad ((dats vs).map fun xs => .fr (.lst xs)) s1 := by simp only [ev] <;> rfl
@[simp] theorem ev_ix (a i : E) : ev (.ix a i) ⟨r, S⟩ = (ev a ⟨r, S⟩).dat fun x s1 => (ev i s1).dat fun y s2 => orBad ((ixop x y).map .sh) s2 := by simp only [ev] <;> rfl
@[simp] theorem ev_sl (a lo hi : E) : ev (.sl a lo hi) ⟨r, S⟩ = (ev a ⟨r, S⟩).dat fun x s1 => (evO lo s1).bind fun l s2 => (evO hi s2).bind fun h s3 => orBad (slop x l h) s3 := by simp only [ev] <;> rfl
@[simp] theorem ev_call (n : Nat) (f : Fn) (as : E) : ev (.call n f as) ⟨r, S⟩ = (evA as ⟨r, S⟩).bind fun vs s1 => callF f vs s1 := by simp only [ev] <;> rfl
@[simp] theorem ev_blt (b : Blt) (as : E) : ev (.blt b as) ⟨r, S⟩ = (evL as ⟨r, S⟩).bind fun xs s1 => orBad (MI.blt b xs) s1 := by simp only [ev] <;> rfl
@[simp] theorem ev_isi (a : E) (t : Ty) : ev (.isi a t) ⟨r, S⟩ = (ev a ⟨r, S⟩).dat fun x s1 => if x.obj = true then .bad else .ok (.sh (.bl (isiD t x))) s1 := by simp only [ev] <;> rfl
def isxR (yes no : List (List Nat)) (x : D) (s1 : State) : R State EV := match x with
    | .exn c _ _ => if c ∈ yes then .ok (.sh (.bl true)) s1 else if c ∈ no then .ok (.sh (.bl false)) s1 else .bad
    | _ => .bad
@[simp] theorem isxR_exn (yes no : List (List Nat)) (c : List Nat) (ks : List (List Nat)) (vs : List D) (s1 : State) : isxR yes no (.exn c ks vs) s1 = if c ∈ yes then .ok (.sh (.bl true)) s1 else if c ∈ no then .ok (.sh (.bl false)) s1 else .bad := rfl
@[simp] theorem ev_isx (a : E) (t : List Nat) (yes no : List (List Nat)) : ev (.isx a t yes no) ⟨r, S⟩ = (ev a ⟨r, S⟩).dat (isxR yes no) := by
  simp only [ev]
  congr 1
def xfR (f : List Nat) (cs : List (List Nat)) (x : D) (s1 : State) : R State EV := match x with
    | .exn c ks vs => if c ∈ cs then orBad (((ks.zip vs).lookup f).map .sh) s1 else .bad
    | _ => .bad
@[simp] theorem xfR_exn (f : List Nat) (cs : List (List Nat)) (c : List Nat) (ks : List (List Nat)) (vs : List D) (s1 : State) : xfR f cs (.exn c ks vs) s1 = if c ∈ cs then orBad (((ks.zip vs).lookup f).map .sh) s1 else .bad := rfl
@[simp] theorem ev_xf (a : E) (f : List Nat) (cs : List (List Nat)) : ev (.xf a f cs) ⟨r, S⟩ = (ev a ⟨r, S⟩).dat (xfR f cs) := by
  simp only [ev]
  congr 1
/-- a comprehension's turns -/
@[irreducible] def loopC (vs : List Nat) (t : Tg) (c e : E) (xs : List D) (s : State) : R State (List D) := comL (comT vs t (fun s => ev c s) (fun s => ev e s)) xs s
@[simp] theorem ev_lcm (vs : List Nat) (t : Tg) (it c e : E) : ev (.com vs t it c e) ⟨r, S⟩ = (evI it ⟨r, S⟩).bind fun xs s1 => if fits xs.length = true then
      (match loopC vs t c e xs ⟨wipeR vs s1.r, s1.S⟩ with
      | .ok ys s2 => .ok (.fr (.lst ys)) s2
      | _ => .bad) else .bad := by unfold loopC; simp only [ev] <;> rfl
@[simp] theorem loopC_nil (vs : List Nat) (t : Tg) (c e : E) (s : State) : loopC vs t c e [] s = .ok [] s := by unfold loopC; rfl
def keepC (vs : List Nat) (v : EV) (s : State) : R State (Option D) := match sto v with
  | some y => .ok (some y) ⟨wipeR vs s.r, s.S⟩
  | none => .bad
@[simp] theorem keepC_sh (vs : List Nat) (x : D) : keepC vs (.sh x) ⟨r, S⟩ = .ok (some x) ⟨wipeR vs r, S⟩ := rfl
@[simp] theorem keepC_fr (vs : List Nat) (x : D) : keepC vs (.fr x) ⟨r, S⟩ = .ok (some x) ⟨wipeR vs r, S⟩ := rfl
def condC (vs : List Nat) (e : E) (k : D) (s : State) : R State (Option D) := match k with
  | .bl true => (ev e s).bind (keepC vs)
  | .bl false => .ok none ⟨wipeR vs s.r, s.S⟩
  | _ => .bad
@[simp] theorem condC_true (vs : List Nat) (e : E) : condC vs e (.bl true) ⟨r, S⟩ = (ev e ⟨r, S⟩).bind (keepC vs) := rfl
@[simp] theorem condC_false (vs : List Nat) (e : E) : condC vs e (.bl false) ⟨r, S⟩ = .ok none ⟨wipeR vs r, S⟩ := rfl
def nextC (vs : List Nat) (t : Tg) (c e : E) (xs : List D) (r : R State (Option D)) : R State (List D) := match r with
    | .ok o s1 => (match loopC vs t c e xs s1 with
      | .ok ys s2 => .ok (match o with | some y => y :: ys | none => ys) s2
      | .exc e s => .exc e s
      | .bad => .bad)
    | _ => .bad
def putC (o : Option D) (r : R State (List D)) : R State (List D) := match r with
      | .ok ys s2 => .ok (match o with | some y => y :: ys | none => ys) s2
      | .exc e s => .exc e s
      | .bad => .bad
@[simp] theorem nextC_ok (vs : List Nat) (t : Tg) (c e : E) (xs : List D) (o : Option D) (s : State) : nextC vs t c e xs (.ok o s) = putC o (loopC vs t c e xs s) := rfl
@[simp] theorem putC_some (y : D) (ys : List D) (s : State) : putC (some y) (.ok ys s) = .ok (y :: ys) s := rfl
@[simp] theorem putC_none (ys : List D) (s : State) : putC none (.ok ys s) = .ok ys s := rfl
theorem loopC_cons (vs : List Nat) (t : Tg) (c e : E) (x : D) (xs : List D) (r : List Slot) (S : Store) : loopC vs t c e (x :: xs) ⟨r, S⟩ = nextC vs t c e xs ((asg t (.sh x) ⟨wipeR vs r, S⟩).bind fun _ s2 => (ev c s2).dat (condC vs e)) := by
  unfold loopC nextC
  conv => lhs; unfold comL comT
  unfold loopC
  dsimp only
  cases asg t (.sh x) ⟨wipeR vs r, S⟩ with
  | bad => rfl
  | exc e s => rfl
  | ok u s2 =>
    dsimp only [bind_ok]
    have : ∀ (f : D → State → R State (Option D)), (∀ k s, f k s = condC vs e k s) → (ev c s2).dat f = (ev c s2).dat (condC vs e) := fun f h => by
      rw [show f = condC vs e from funext fun k => funext fun s => h k s]
    rw [this]
    · cases (ev c s2).dat (condC vs e) <;> rfl
    · intro k s
      cases k <;> first | rfl | (rename_i b; cases b <;> rfl)
@[simp] theorem evA_nil : evA .nil ⟨r, S⟩ = .ok [] ⟨r, S⟩ := by simp only [evA] <;> rfl
@[simp] theorem evA_cons (a as : E) : evA (.cons a as) ⟨r, S⟩ = (ev a ⟨r, S⟩).bind fun v s1 => (match v.slot with
    | some x => (evA as s1).bind fun xs s2 => .ok (x :: xs) s2
    | none => .bad) := by simp only [evA] <;> rfl
@[simp] theorem evL_nil : evL .nil ⟨r, S⟩ = .ok [] ⟨r, S⟩ := by simp only [evL] <;> rfl
@[simp] theorem evL_cons (a as : E) : evL (.cons a as) ⟨r, S⟩ = (ev a ⟨r, S⟩).dat fun x s1 => (evL as s1).bind fun xs s2 => .ok (x :: xs) s2 := by simp only [evL] <;> rfl
@[simp] theorem evO_gap : evO .gap ⟨r, S⟩ = .ok none ⟨r, S⟩ := by simp only [evO] <;> rfl
@[simp] theorem evO_one (a : E) : evO (.one a) ⟨r, S⟩ = (ev a ⟨r, S⟩).dat fun x s1 => (match x with | .int i => .ok (some i) s1 | _ => .bad) := by simp only [evO] <;> rfl
@[simp] theorem evI_it (a : E) : evI (.it a) ⟨r, S⟩ = (ev a ⟨r, S⟩).bind fun v s1 => (match v with
    | .sh (.tup xs) => .ok xs s1
    | .sh (.lst xs) => .ok xs s1
    | .sh (.scr xs) => .ok xs s1
    | .fr (.lst xs) => .ok xs s1
    | _ => .bad) := by simp only [evI] <;> rfl
@[simp] theorem evI_itb (i : Nat) : evI (.itb i) ⟨r, S⟩ = (match r[i]? with
    | some (.v (.lst xs) _) => .ok xs ⟨r, S⟩
    | _ => .bad) := by simp only [evI] <;> rfl
@[simp] theorem evI_rg1 (a : E) : evI (.rg1 a) ⟨r, S⟩ = (ev a ⟨r, S⟩).dat fun x s1 => (match x with
    | .int n => if rgOk n = true then .ok ((List.range n.toNat).map fun (k : Nat) => D.int (k : Nat)) s1 else .bad
    | _ => .bad) := by simp only [evI] <;> rfl
@[simp] theorem evI_rg2 (a b : E) : evI (.rg2 a b) ⟨r, S⟩ = (ev a ⟨r, S⟩).dat fun x s1 => (ev b s1).dat fun y s2 => (match x, y with
    | .int m, .int n => if (rgOk m && rgOk n) = true then .ok ((List.range (n - m).toNat).map fun (k : Nat) => D.int (m + (k : Nat))) s2 else .bad
    | _, _ => .bad) := by simp only [evI] <;> rfl
@[simp] theorem evI_rg3 (a b : E) (c : Int) : evI (.rg3 a b c) ⟨r, S⟩ = (ev a ⟨r, S⟩).dat fun x s1 => (ev b s1).dat fun y s2 => (match x, y with
    | .int m, .int n => if (rgOk m && rgOk n && decide (c = -1)) = true then .ok ((List.range (m - n).toNat).map fun (k : Nat) => D.int (m + (k : Nat) * c)) s2 else .bad
    | _, _ => .bad) := by simp only [evI] <;> rfl
@[simp] theorem evI_zip (a b : E) : evI (.zip a b) ⟨r, S⟩ = (ev a ⟨r, S⟩).bind fun v s1 => (ev b s1).bind fun u s2 => (match sto v, sto u with
    | some (.lst xs), some (.lst ys) => .ok (zipD xs ys) s2
    | some (.tup xs), some (.tup ys) => .ok (zipD xs ys) s2
    | some (.tup xs), some (.lst ys) => .ok (zipD xs ys) s2
    | _, _ => .bad) := by simp only [evI] <;> rfl
@[simp] theorem evI_rev (a : E) : evI (.rev a) ⟨r, S⟩ = (ev a ⟨r, S⟩).bind fun v s1 => (match sto v with
    | some (.lst xs) => .ok xs.reverse s1
    | some (.tup xs) => .ok xs.reverse s1
    | _ => .bad) := by simp only [evI] <;> rfl
@[simp] theorem ex_nil : ex .nil ⟨r, S⟩ = .ok .nxt ⟨r, S⟩ := by simp only [ex] <;> rfl
/-- the rest of a block -/
@[irreducible] def seqF (b : T) (r : R State Flow) : R State Flow := r.bind fun f s1 => (match f with | .nxt => ex b s1 | .brk => .ok .brk s1 | .cnt => .ok .cnt s1 | .ret v => .ok (.ret v) s1)
@[simp] theorem seqF_nxt (b : T) (s : State) : seqF b (.ok .nxt s) = ex b s := by unfold seqF; rfl
@[simp] theorem seqF_brk (b : T) (s : State) : seqF b (.ok .brk s) = .ok .brk s := by unfold seqF; rfl
@[simp] theorem seqF_cnt (b : T) (s : State) : seqF b (.ok .cnt s) = .ok .cnt s := by unfold seqF; rfl
@[simp] theorem seqF_ret (b : T) (v : EV) (s : State) : seqF b (.ok (.ret v) s) = .ok (.ret v) s := by unfold seqF; rfl
@[simp] theorem seqF_exc (b : T) (e : Exn) (s : State) : seqF b (.exc e s) = .exc e s := by unfold seqF; rfl
@[simp] theorem seqF_bad (b : T) : seqF b .bad = .bad := by unfold seqF; rfl
@[simp] theorem ex_cons (a b : T) : ex (.cons a b) ⟨r, S⟩ = seqF b (ex a ⟨r, S⟩) := by unfold seqF; simp only [ex] <;> rfl
@[simp] theorem ex_set (t : Tg) (e : E) : ex (.set t e) ⟨r, S⟩ = (ev e ⟨r, S⟩).bind fun v s1 => (asg t v s1).bind fun _ s2 => .ok .nxt s2 := by simp only [ex] <;> rfl
@[simp] theorem ex_par' (is : List Nat) (as : E) : ex (.par is as) ⟨r, S⟩ = (evA as ⟨r, S⟩).bind fun vs s1 => (match dats vs with
    | some xs => if xs.length = is.length then .ok .nxt ⟨setMany is xs s1.r, s1.S⟩ else .bad
    | none => .bad) := by simp only [ex] <;> rfl
@[simp] theorem ex_setf (i c f : Nat) (e : E) : ex (.setf i c f e) ⟨r, S⟩ = (ev e ⟨r, S⟩).bind fun v s1 => (match sto v with | some x => setA i c f x s1 | none => .bad) := by simp only [ex] <;> rfl
@[simp] theorem ex_augf (o : Bop) (i c f : Nat) (e : E) : ex (.augf o i c f e) ⟨r, S⟩ = (ev (.fld i c f) ⟨r, S⟩).dat fun x s1 => (ev e s1).dat fun y s2 => (match x, y, binop o x y with
    | .int _, .int _, some (.sh z) => setA i c f z s2
    | _, _, _ => .bad) := by simp only [ex] <;> rfl
@[simp] theorem ex_aug (o : Bop) (i : Nat) (e : E) : ex (.aug o i e) ⟨r, S⟩ = (ev (.bor i) ⟨r, S⟩).dat fun x s1 => (ev e s1).dat fun y s2 => (match x, y, binop o x y with
    | .int _, .int _, some (.sh z) => .ok .nxt ⟨s2.r.set i (.v z false), s2.S⟩
    | _, _, _ => .bad) := by simp only [ex] <;> rfl
@[simp] theorem ev_lr1 (a : E) : ev (.lr1 a) ⟨r, S⟩ = (ev a ⟨r, S⟩).dat fun x s1 => (match x with
    | .int n => if (rgOk n && decide (n ≤ 16777216)) = true then .ok (.fr (.lst ((List.range n.toNat).map fun (k : Nat) => D.int (k : Nat)))) s1 else .bad
    | _ => .bad) := by simp only [ev] <;> rfl
@[simp] theorem ev_lr2 (a b : E) : ev (.lr2 a b) ⟨r, S⟩ = (ev a ⟨r, S⟩).dat fun x s1 => (ev b s1).dat fun y s2 => (match x, y with
    | .int m, .int n => if (rgOk m && rgOk n && decide (n - m ≤ 16777216)) = true then .ok (.fr (.lst ((List.range (n - m).toNat).map fun (k : Nat) => D.int (m + (k : Nat))))) s2 else .bad
    | _, _ => .bad) := by simp only [ev] <;> rfl
@[simp] theorem ev_bm (m : Bm) (a as : E) : ev (.bm m a as) ⟨r, S⟩ = (ev a ⟨r, S⟩).dat fun x s1 => (match x with | .lst ys => (evL as s1).bind fun xs s2 => orBad (bmeth m ys xs) s2 | _ => .bad) := by
  rw [ev] <;> congr
@[simp] theorem ev_srk (a : E) (w : Nat) : ev (.srk a w) ⟨r, S⟩ = (ev a ⟨r, S⟩).dat fun x s1 => (match x, s1.r[w]? with
    | .lst xs, some (.v (.int k) _) => if xs.all (srkOk k) = true then .ok (.fr (.lst (srkD k xs))) s1 else .bad
    | _, _ => .bad) := by simp only [ev] <;> rfl
@[simp] theorem ex_rvl (i : Nat) : ex (.rvl i) ⟨r, S⟩ = wrL i (fun xs => some xs.reverse) ⟨r, S⟩ := by simp only [ex] <;> rfl
@[simp] theorem ex_app (i : Nat) (e : E) : ex (.app i e) ⟨r, S⟩ = if lstAt i ⟨r, S⟩ = true then (ev e ⟨r, S⟩).bind fun v s1 => (match sto v with
    | some x => wrL i (fun xs => gd (fits (xs.length + 1)) (xs ++ [x])) s1
    | none => .bad) else .bad := by simp only [ex] <;> rfl
@[simp] theorem ex_ext (i : Nat) (e : E) : ex (.ext i e) ⟨r, S⟩ = if lstAt i ⟨r, S⟩ = true then (ev e ⟨r, S⟩).bind fun v s1 => (match sto v with
    | some (.lst ys) => wrL i (fun xs => gd (fits (xs.length + ys.length)) (xs ++ ys)) s1
    | _ => .bad) else .bad := by simp only [ex] <;> rfl
@[simp] theorem ex_dput (i : Nat) (k e : E) : ex (.dput i k e) ⟨r, S⟩ = (ev e ⟨r, S⟩).bind fun v s1 => if dctAt i s1 = true then (keyE ev evA evO k s1).bind fun y s2 => (match sto v with
    | some x => wrD i y x s2
    | none => .bad) else .bad := by simp only [ex] <;> rfl
@[simp] theorem ex_dpti (i : Nat) (k e : E) : ex (.dpti i k e) ⟨r, S⟩ = (ev e ⟨r, S⟩).bind fun v s1 => if dciAt i s1 = true then (ev k s1).dat fun n s2 => (match n, sto v with
    | .int m, some x => wrI i m x s2
    | _, _ => .bad) else .bad := by simp only [ex] <;> rfl
@[simp] theorem ex_dset (i : Nat) (e : E) : ex (.dset i e) ⟨r, S⟩ = (ev e ⟨r, S⟩).dat fun x s1 => (match dqA x with
    | some ps => .ok .nxt ⟨s1.r.set i (.d (ps.map (·.1))), s1.S⟩
    | none => .bad) := by simp only [ex] <;> rfl
@[simp] theorem ex_seti (i : Nat) (k e : E) : ex (.seti i k e) ⟨r, S⟩ = (ev e ⟨r, S⟩).bind fun v s1 => if lstAt i s1 = true then (ev k s1).dat fun n s2 => (match n, sto v with
    | .int m, some x => wrL i (fun xs => (ixN xs.length m).map fun j => xs.set j x) s2
    | _, _ => .bad) else .bad := by simp only [ex] <;> rfl
@[simp] theorem ex_ins (i : Nat) (k e : E) : ex (.ins i k e) ⟨r, S⟩ = if lstAt i ⟨r, S⟩ = true then (ev k ⟨r, S⟩).dat fun n s1 => (ev e s1).bind fun v s2 => (match n, sto v with
    | .int m, some x => wrL i (fun xs => gd (decide (0 ≤ m) && decide (m < 16777216) && fits (xs.length + 1)) (xs.take m.toNat ++ x :: xs.drop m.toNat)) s2
    | _, _ => .bad) else .bad := by simp only [ex] <;> rfl
@[simp] theorem ev_new (n c : Nat) (f : Fn) (as : E) : ev (.new n c f as) ⟨r, S⟩ = (evA as ⟨r, S⟩).bind fun vs s1 => (match f (s1.S ++ [⟨c, []⟩]) (.o s1.S.length :: vs) with
    | .ok (.sh .non) S' => .ok (.ob s1.S.length) ⟨s1.r, S'⟩
    | _ => .bad) := by simp only [ev] <;> rfl
@[simp] theorem ev_mth (n i c : Nat) (f : Fn) (as : E) : ev (.mth n i c f as) ⟨r, S⟩ = (match r[i]? with
    | some (.o j) => (match S[j]? with
      | some o => if o.cls = c then (evA as ⟨r, S⟩).bind fun vs s1 => callF f (.o j :: vs) s1 else .bad
      | none => .bad)
    | _ => .bad) := by simp only [ev] <;> rfl
@[simp] theorem ev_fld (i c f : Nat) : ev (.fld i c f) ⟨r, S⟩ = (match r[i]? with
    | some (.o j) => (match S[j]? with
      | some o => if o.cls = c then orBad ((o.fs.lookup f).map .sh) ⟨r, S⟩ else .bad
      | none => .bad)
    | _ => .bad) := by simp only [ev] <;> rfl
@[simp] theorem ex_ife (c : E) (a b : T) : ex (.ife c a b) ⟨r, S⟩ = (evT c ⟨r, S⟩).bind fun k s1 => if k = true then ex a s1 else ex b s1 := by simp only [ex] <;> rfl
/-- a while that runs at most n times -/
@[irreducible] def loopW (c : E) (b : T) (n : Nat) (s : State) : R State Flow := whileN (evT c) (fun s => ex b s) n s
@[simp] theorem ex_whl (c : E) (b : T) : ex (.whl c b) ⟨r, S⟩ = loopW c b FUEL ⟨r, S⟩ := by unfold loopW; simp only [ex] <;> rfl
@[simp] theorem ex_ret (e : E) : ex (.ret e) ⟨r, S⟩ = (ev e ⟨r, S⟩).bind fun v s1 => (match v with | .bo _ => .bad | v => .ok (.ret v) s1) := by simp only [ex] <;> rfl
@[simp] theorem ex_retv (i : Nat) : ex (.retv i) ⟨r, S⟩ = match r[i]? with
    | some (.v x true) => .ok (.ret (.fr x)) ⟨r.set i (.v x false), S⟩
    | some (.v x false) => .ok (.ret (.sh x)) ⟨r, S⟩
    | some (.o j) => .ok (.ret (.ob j)) ⟨r, S⟩
    | _ => .bad := by simp only [ex] <;> rfl
@[simp] theorem ex_ret2 (i j : Nat) : ex (.ret2 i j) ⟨r, S⟩ = match r[i]?, r[j]? with
    | some (.v x true), some (.v y false) => if (flatL x && y.nolx) = true then .ok (.ret (.ft x y)) ⟨r.set i (.v x false), S⟩ else .bad
    | some (.v x false), some (.v y false) => if (x.nolx && y.nolx) = true then .ok (.ret (.ft x y)) ⟨r, S⟩ else .bad
    | _, _ => .bad := by simp only [ex] <;> rfl
@[simp] theorem ex_set2 (i j : Nat) (e : E) : ex (.set2 i j e) ⟨r, S⟩ = (ev e ⟨r, S⟩).bind fun v s1 => (match v with
    | .ft x y => if i = j then .bad else .ok .nxt ⟨(s1.r.set i (.v x (flatL x))).set j (.v y false), s1.S⟩
    | _ => .bad) := by simp only [ex] <;> rfl
def pickF (i : Nat) (c : E) : List D → State → R State Flow := pickL i (evT c)
theorem pickF_nil (i : Nat) (c : E) (s : State) : pickF i c [] s = .ok .nxt s := rfl
theorem pickF_cons (i : Nat) (c : E) (x : D) (xs : List D) : pickF i c (x :: xs) ⟨r, S⟩ = (evT c ⟨r.set i (.v x false), S⟩).bind fun k s1 => if k = true then (if i < s1.r.length then .ok (.ret (.fr x)) s1 else .bad) else pickF i c xs ⟨s1.r.set i .u, s1.S⟩ := rfl
@[simp] theorem ex_ffr (i : Nat) (e c : E) : ex (.ffr i e c) ⟨r, S⟩ = (match evI (.it e) ⟨hideR r, S⟩ with
    | .ok xs s1 => if xs.all flatL = true then pickF i c xs ⟨r, s1.S⟩ else .bad
    | _ => .bad) := by unfold pickF; simp only [ex] <;> rfl
@[simp] theorem hideR_nil : hideR [] = [] := rfl
@[simp] theorem hideR_u : hideR (.u :: r) = .u :: hideR r := rfl
@[simp] theorem hideR_o (i : Nat) : hideR (.o i :: r) = .u :: hideR r := rfl
@[simp] theorem hideR_int (i : Int) (b : Bool) : hideR (.v (.int i) b :: r) = .v (.int i) false :: hideR r := rfl
@[simp] theorem hideR_lst (xs : List D) (b : Bool) : hideR (.v (.lst xs) b :: r) = .u :: hideR r := rfl
@[simp] theorem unop_lrv (xs : List D) : unop .lrv (.lst xs) = some (.fr (.lst xs.reverse)) := rfl
@[simp] theorem binop_shl (i j : Int) : binop .shl (.int i) (.int j) = gd (powOk i j) (.sh (.int (i * 2 ^ j.toNat))) := rfl
@[simp] theorem binop_shr (i j : Int) : binop .shr (.int i) (.int j) = gd (decide (0 ≤ j)) (.sh (.int (i / 2 ^ j.toNat))) := rfl
@[simp] theorem binop_band (i j : Int) : binop .band (.int i) (.int j) = gd (decide (0 ≤ i) && decide (j = 1)) (.sh (.int (i % 2))) := rfl
@[simp] theorem flatL_lst (xs : List D) : flatL (.lst xs) = D.nols xs := rfl
@[simp] theorem flatL_non : flatL .non = false := rfl
@[simp] theorem nolx_non : D.nolx .non = true := rfl
@[simp] theorem nolx_exn (c : List Nat) (ks : List (List Nat)) (vs : List D) : D.nolx (.exn c ks vs) = true := rfl
@[simp] theorem ex_retn : ex .retn ⟨r, S⟩ = .ok (.ret (.sh .non)) ⟨r, S⟩ := by simp only [ex] <;> rfl
@[simp] theorem ex_exp (e : E) : ex (.exp e) ⟨r, S⟩ = (ev e ⟨r, S⟩).bind fun _ s1 => .ok .nxt s1 := by simp only [ex] <;> rfl
@[simp] theorem ex_pass : ex .pass ⟨r, S⟩ = .ok .nxt ⟨r, S⟩ := by simp only [ex] <;> rfl
@[simp] theorem ex_never : ex .never ⟨r, S⟩ = .bad := by simp only [ex]
@[simp] theorem ev_un (u : Un) (a : E) : ev (.un u a) ⟨r, S⟩ = (ev a ⟨r, S⟩).dat fun x s1 => orBad (unop u x) s1 := by simp only [ev]
@[simp] theorem unop_rvs_lst (xs : List D) : unop .rvs (.lst xs) = some (.fr (.lst xs.reverse)) := rfl
@[simp] theorem unop_rvs_tup (xs : List D) : unop .rvs (.tup xs) = some (.sh (.tup xs.reverse)) := rfl
@[simp] theorem unop_sst (ns : List Int) : unop .sst (.lst (ns.map D.int)) = gd (decide (ns.length < 64)) (.fr (.lst ((distI ns).map D.int))) := by
  have e : ∀ ns : List Int, intsD (ns.map D.int) = some ns := fun ns => by
    induction ns with
    | nil => rfl
    | cons n ns ih => rw [List.map_cons, intsD, ih]; rfl
  show (intsD (ns.map D.int)).bind _ = _
  rw [e]; rfl
@[simp] theorem ev_fnv (nm : List Nat) : ev (.fnv nm) ⟨r, S⟩ = .ok (.sh (.fnc nm)) ⟨r, S⟩ := by simp only [ev]
def calR (r : List Slot) (S : Store) (fs : List (Nat × List Nat × Fn)) (as : E) (x : Option Slot) : R State EV := match x with
    | some (.v (.fnc nm) _) => (match fs.find? (fun p => decide (p.2.1 = nm)) with
      | some p => (evA as ⟨r, S⟩).bind fun vs s1 => callF p.2.2 vs s1
      | none => .bad)
    | _ => .bad
@[simp] theorem calR_some (r : List Slot) (S : Store) (fs : List (Nat × List Nat × Fn)) (as : E) (nm : List Nat) (b : Bool) : calR r S fs as (some (.v (.fnc nm) b)) = match fs.find? (fun p => decide (p.2.1 = nm)) with
      | some p => (evA as ⟨r, S⟩).bind fun vs s1 => callF p.2.2 vs s1
      | none => .bad := rfl
@[simp] theorem ev_cal (i : Nat) (fs : List (Nat × List Nat × Fn)) (as : E) : ev (.cal i fs as) ⟨r, S⟩ = calR r S fs as r[i]? := by unfold calR; simp only [ev] <;> rfl
def caxR (fs : List (Nat × List Nat × Fn)) (as : E) (x : D) (s1 : State) : R State EV := match x with
    | .fnc nm => (match fs.find? (fun p => decide (p.2.1 = nm)) with
      | some p => (evA as s1).bind fun vs s2 => callF p.2.2 vs s2
      | none => .bad)
    | _ => .bad
@[simp] theorem caxR_fnc (fs : List (Nat × List Nat × Fn)) (as : E) (nm : List Nat) (s1 : State) : caxR fs as (.fnc nm) s1 = match fs.find? (fun p => decide (p.2.1 = nm)) with
      | some p => (evA as s1).bind fun vs s2 => callF p.2.2 vs s2
      | none => .bad := rfl
@[simp] theorem ev_cax (a : E) (fs : List (Nat × List Nat × Fn)) (as : E) : ev (.cax a fs as) ⟨r, S⟩ = (ev a ⟨r, S⟩).dat (caxR fs as) := by
  rw [ev]
  rfl
@[simp] theorem unop_trv_tup (xs : List D) : unop .trv (.tup xs) = some (.sh (.tup xs.reverse)) := rfl
@[simp] theorem unop_trv_lst (xs : List D) : unop .trv (.lst xs) = some (.sh (.tup xs.reverse)) := rfl
def triR (hs : List Hd) (r : R State Flow) : R State Flow := match r with
    | .exc e s1 => hdl hs e s1
    | .ok f s1 => .ok f s1
    | .bad => .bad
@[simp] theorem triR_ok (hs : List Hd) (f : Flow) (s : State) : triR hs (.ok f s) = .ok f s := rfl
@[simp] theorem triR_exc (hs : List Hd) (e : Exn) (s : State) : triR hs (.exc e s) = hdl hs e s := rfl
@[simp] theorem ex_tri (b : T) (hs : List Hd) : ex (.tri b hs) ⟨r, S⟩ = triR hs (ex b ⟨r, S⟩) := by unfold triR; simp only [ex] <;> rfl
@[simp] theorem hdl_nil (e : Exn) (s : State) : hdl [] e s = .exc e s := rfl
@[simp] theorem hdl_cons (h : Hd) (hs : List Hd) (e : Exn) (s : State) : hdl (h :: hs) e s = if e.c ∈ h.yes then (exHS h.st (bindX h.v e s)).bind fun f s1 => .ok f (unbX h.v s1) else if e.c ∈ h.no then hdl hs e s else .bad := rfl
@[simp] theorem bindX_some (i : Nat) (e : Exn) : bindX (some i) e ⟨r, S⟩ = ⟨r.set i (.v (.exn e.c e.ks e.vs) false), S⟩ := rfl
@[simp] theorem bindX_none (e : Exn) : bindX none e ⟨r, S⟩ = ⟨r, S⟩ := rfl
@[simp] theorem unbX_some (i : Nat) : unbX (some i) ⟨r, S⟩ = ⟨r.set i .u, S⟩ := rfl
@[simp] theorem unbX_none : unbX none ⟨r, S⟩ = ⟨r, S⟩ := rfl
@[simp] theorem exHS_set (m : Nat) (e : E) : exHS (.set m e) ⟨r, S⟩ = (ev e ⟨r, S⟩).bind fun v s1 => (asg (.one m) v s1).bind fun _ s2 => .ok .nxt s2 := rfl
@[simp] theorem exHS_ret (e : E) : exHS (.ret e) ⟨r, S⟩ = (ev e ⟨r, S⟩).bind fun v s1 => (match v with | .bo _ => .bad | v => .ok (.ret v) s1) := rfl
@[simp] theorem ex_raise (c : List Nat) (ks : List (List Nat)) (as : E) : ex (.raise c ks as) ⟨r, S⟩ = (evA as ⟨r, S⟩).bind fun vs s1 => (match dats vs with
    | some xs => if (decide (xs.length = ks.length) && D.nols xs) = true then .exc ⟨c, ks.reverse, xs.reverse⟩ s1 else .bad
    | none => .bad) := by simp only [ex] <;> rfl
@[simp] theorem nols_nil' : D.nols [] = true := by simp only [D.nols]
@[simp] theorem nols_cons' (x : D) (xs : List D) : D.nols (x :: xs) = (D.nol x && D.nols xs) := by simp only [D.nols]
@[simp] theorem nol_non : D.nol .non = true := by simp only [D.nol]
@[simp] theorem nol_int (i : Int) : D.nol (.int i) = true := by simp only [D.nol]
@[simp] theorem nol_bl (i : Bool) : D.nol (.bl i) = true := by simp only [D.nol]
@[simp] theorem nol_str (i : List Nat) : D.nol (.str i) = true := by simp only [D.nol]
@[simp] theorem nol_tup (xs : List D) : D.nol (.tup xs) = D.nols xs := by simp only [D.nol]
theorem callF_exc {f : Fn} {args : List Slot} {r : List Slot} {S S' : Store} {e : Exn} (h : f S args = .exc e S') : callF f args ⟨r, S⟩ = .exc e ⟨r, S'⟩ := by unfold callF; rw [h]
@[simp] theorem obj_non : D.obj .non = false := rfl
@[simp] theorem obj_bl (b : Bool) : D.obj (.bl b) = false := rfl
@[simp] theorem obj_int (b : Int) : D.obj (.int b) = false := rfl
@[simp] theorem obj_str (b : List Nat) : D.obj (.str b) = false := rfl
@[simp] theorem obj_tup (b : List D) : D.obj (.tup b) = false := rfl
@[simp] theorem obj_lst (b : List D) : D.obj (.lst b) = false := rfl
@[simp] theorem obj_scr (b : List D) : D.obj (.scr b) = false := rfl
@[simp] theorem isNon_exn (c : List Nat) (ks : List (List Nat)) (vs : List D) : isNon (.exn c ks vs) = false := rfl
@[simp] theorem ex_pad (i j n : Nat) (f : Fn) (k as : List Nat) : ex (.pad i j n f k as) ⟨r, S⟩ = padR i j f k as ⟨r, S⟩ := by simp only [ex] <;> rfl
@[simp] theorem ex_cont : ex .cont ⟨r, S⟩ = .ok .cnt ⟨r, S⟩ := by simp only [ex] <;> rfl
@[simp] theorem ex_brk : ex .brk ⟨r, S⟩ = .ok .brk ⟨r, S⟩ := by simp only [ex] <;> rfl
@[simp] theorem ex_kill (ks : List Nat) : ex (.kill ks) ⟨r, S⟩ = .ok .nxt (wipeS ks ⟨r, S⟩) := by simp only [ex] <;> rfl
@[simp] theorem evT_def (c : E) : evT c ⟨r, S⟩ = (ev c ⟨r, S⟩).dat fun x s1 => (match x with | .bl b => .ok b s1 | _ => .bad) := rfl
/-- a for's turns -/
def endB (ks : List Nat) (f : Flow) (s : State) : R State Flow := match f with
  | .nxt => .ok .nxt (wipeS ks s)
  | .cnt => .ok .nxt (wipeS ks s)
  | .brk => .ok .brk s
  | .ret v => .ok (.ret v) s
@[simp] theorem endB_nxt (ks : List Nat) (s : State) : endB ks .nxt s = .ok .nxt (wipeS ks s) := rfl
@[simp] theorem endB_cnt (ks : List Nat) (s : State) : endB ks .cnt s = .ok .nxt (wipeS ks s) := rfl
@[simp] theorem endB_brk (ks : List Nat) (s : State) : endB ks .brk s = .ok .brk s := rfl
@[simp] theorem endB_ret (ks : List Nat) (v : EV) (s : State) : endB ks (.ret v) s = .ok (.ret v) s := rfl
@[irreducible] def loopF (t : Tg) (b : T) (ks : List Nat) (xs : List D) (s : State) : R State Flow := forL (fun x s => (asg t (.sh x) s).bind fun _ s2 => (ex b s2).bind fun f s3 => endB ks f s3) xs s
def nextF (k : State → R State Flow) (f : Flow) (s : State) : R State Flow := match f with
  | .nxt => k s
  | .cnt => k s
  | .brk => .ok .nxt s
  | .ret v => .ok (.ret v) s
@[simp] theorem nextF_nxt (k : State → R State Flow) (s : State) : nextF k .nxt s = k s := rfl
@[simp] theorem nextF_cnt (k : State → R State Flow) (s : State) : nextF k .cnt s = k s := rfl
@[simp] theorem nextF_brk (k : State → R State Flow) (s : State) : nextF k .brk s = .ok .nxt s := rfl
@[simp] theorem nextF_ret (k : State → R State Flow) (v : EV) (s : State) : nextF k (.ret v) s = .ok (.ret v) s := rfl
@[simp] theorem ex_for (t : Tg) (it : E) (b : T) (ks : List Nat) : ex (.for t it b ks) ⟨r, S⟩ = (evI it ⟨r, S⟩).bind fun xs s1 => loopF t b ks xs s1 := by unfold loopF; simp only [ex]; rfl
@[simp] theorem loopF_nil (t : Tg) (b : T) (ks : List Nat) (s : State) : loopF t b ks [] s = .ok .nxt s := by unfold loopF; rfl
theorem loopF_cons (t : Tg) (b : T) (ks : List Nat) (x : D) (xs : List D) (r : List Slot) (S : Store) : loopF t b ks (x :: xs) ⟨r, S⟩ = R.bind (σ := State) ((asg t (.sh x) ⟨r, S⟩).bind fun _ s2 => (ex b s2).bind fun f s3 => endB ks f s3) (nextF fun s => loopF t b ks xs s) := by unfold loopF; rfl
@[simp] theorem asg_one_sh (i : Nat) (x : D) : asg (.one i) (.sh x) ⟨r, S⟩ = .ok () ⟨r.set i (.v x false), S⟩ := rfl
@[simp] theorem asg_one_fr (i : Nat) (x : D) : asg (.one i) (.fr x) ⟨r, S⟩ = .ok () ⟨r.set i (.v x true), S⟩ := rfl
@[simp] theorem asg_one_ob (i j : Nat) : asg (.one i) (.ob j) ⟨r, S⟩ = .ok () ⟨r.set i (.o j), S⟩ := rfl
@[simp] theorem asg_many_sht (is : List Nat) (xs : List D) : asg (.many is) (.sh (.tup xs)) ⟨r, S⟩ = if xs.length = is.length then .ok () ⟨setMany is xs r, S⟩ else .bad := rfl
@[simp] theorem asg_many_shs (is : List Nat) (cs : List Nat) : asg (.many is) (.sh (.str cs)) ⟨r, S⟩ = if (cs.all (fun c => decide (c < 128)) && decide (cs.length = is.length)) = true then .ok () ⟨setMany is (cs.map fun c => D.str [c]) r, S⟩ else .bad := rfl
@[simp] theorem asg_many_frt (is : List Nat) (xs : List D) : asg (.many is) (.fr (.tup xs)) ⟨r, S⟩ = if xs.length = is.length then .ok () ⟨setMany is xs r, S⟩ else .bad := rfl
@[simp] theorem asg_many_shl (is : List Nat) (xs : List D) : asg (.many is) (.sh (.lst xs)) ⟨r, S⟩ = if xs.length = is.length then .ok () ⟨setMany is xs r, S⟩ else .bad := rfl
@[simp] theorem asg_many_frl (is : List Nat) (xs : List D) : asg (.many is) (.fr (.lst xs)) ⟨r, S⟩ = if xs.length = is.length then .ok () ⟨setMany is xs r, S⟩ else .bad := rfl
@[simp] theorem setMany_nil (xs : List D) (r : List Slot) : setMany [] xs r = r := by cases xs <;> rfl
@[simp] theorem setMany_cons (i : Nat) (is : List Nat) (x : D) (xs : List D) (r : List Slot) : setMany (i :: is) (x :: xs) r = setMany is xs (r.set i (.v x false)) := rfl
@[simp] theorem wipeR_nil (r : List Slot) : wipeR [] r = r := rfl
@[simp] theorem wipeR_cons (v : Nat) (vs : List Nat) (r : List Slot) : wipeR (v :: vs) r = (wipeR vs r).set v .u := rfl
@[simp] theorem wipeS_def (ks : List Nat) : wipeS ks ⟨r, S⟩ = ⟨wipeR ks r, S⟩ := rfl
/-- behind a def's body -/
@[irreducible] def endD (r : R State Flow) : R Store EV := match r with
  | .ok .nxt s => .ok (.sh .non) s.S
  | .ok (.ret v) s => .ok v s.S
  | .ok _ _ => .bad
  | .exc e s => .exc e s.S
  | .bad => .bad
@[simp] theorem endD_nxt (s : State) : endD (.ok .nxt s) = .ok (.sh .non) s.S := by unfold endD; rfl
@[simp] theorem endD_ret (v : EV) (s : State) : endD (.ok (.ret v) s) = .ok v s.S := by unfold endD; rfl
@[simp] theorem endD_exc (e : Exn) (s : State) : endD (.exc e s) = .exc e s.S := by unfold endD; rfl
theorem run_def (np n : Nat) (b : T) (S : Store) (args : List Slot) (h : args.length = np) : runDef np n b S args = endD (ex b ⟨args ++ List.replicate (n - np) .u, S⟩) := by unfold endD; exact if_pos h
theorem callF_ok {f : Fn} {args : List Slot} {s : State} {v : EV} {S' : Store} (h : f s.S args = .ok v S') : callF f args s = .ok v ⟨s.r, S'⟩ := by unfold callF; rw [h]
@[simp] theorem binop_add (i j : Int) : binop .add (.int i) (.int j) = some (.sh (.int (i + j))) := rfl
@[simp] theorem binop_sub (i j : Int) : binop .sub (.int i) (.int j) = some (.sh (.int (i - j))) := rfl
@[simp] theorem binop_mul (i j : Int) : binop .mul (.int i) (.int j) = gd (mulOk i j) (.sh (.int (i * j))) := rfl
@[simp] theorem binop_div (i j : Int) : binop .fdiv (.int i) (.int j) = gd (divOk j) (.sh (.int (i / j))) := rfl
@[simp] theorem binop_mod (i j : Int) : binop .mod (.int i) (.int j) = gd (decide (0 < j)) (.sh (.int (i % j))) := rfl
@[simp] theorem binop_ndiv (i j : Int) : binop .ndiv (.int i) (.int j) = gd (decide (j ≠ 0) && decide (j.natAbs.log2 < 9000)) (.sh (.int (i.fdiv j))) := rfl
@[simp] theorem binop_nmod (i j : Int) : binop .nmod (.int i) (.int j) = gd (decide (j ≠ 0)) (.sh (.int (i.fmod j))) := rfl
@[simp] theorem binop_pow (i j : Int) : binop .pow (.int i) (.int j) = gd (powOk i j) (.sh (.int (i ^ j.toNat))) := rfl
@[simp] theorem binop_mull (a : List D) (n : Int) : binop .mul (.lst a) (.int n) = gd (decide (0 ≤ n) && (decide (n < 16777216) && fits (a.length * n.toNat))) (.fr (.lst (List.replicate n.toNat a).flatten)) := rfl
@[simp] theorem binop_addl (a b : List D) : binop .add (.lst a) (.lst b) = gd (fits (a.length + b.length)) (.fr (.lst (a ++ b))) := rfl
@[simp] theorem binop_addt (a b : List D) : binop .add (.tup a) (.tup b) = gd (fits (a.length + b.length)) (.sh (.tup (a ++ b))) := rfl
@[simp] theorem binop_adds (a b : List Nat) : binop .add (.str a) (.str b) = gd (fits (a.length + b.length)) (.sh (.str (a ++ b))) := rfl
end
theorem fits_of {n : Nat} (h : n ≤ 16777216) : fits n = true := decide_eq_true h
theorem cut1 {α : Type} (xs : List α) (k : Nat) : cutD xs (some (k : Int)) (some ((k : Int) + 1)) = (xs[k]?).toList := by
  unfold cutD sIx
  simp only
  rw [if_neg (by omega), if_neg (by omega)]
  have e1 : ((k : Int)).toNat = k := by omega
  have e2 : ((k : Int) + 1).toNat = k + 1 := by omega
  rw [e1, e2]
  by_cases h : k < xs.length
  · rw [Nat.min_eq_left (by omega), Nat.min_eq_left (by omega), show k + 1 - k = 1 by omega, List.getElem?_eq_getElem h, List.drop_eq_getElem_cons h]
    rfl
  · rw [List.getElem?_eq_none (by omega)]
    simp
    omega
theorem log2_lt_of {n k : Nat} (h : n < 2 ^ k) (hk : 0 < k) : n.log2 < k := by
  by_cases e : n = 0
  · subst e; simpa using hk
  · exact (Nat.log2_lt e).mpr h
theorem mulOk_of {i j : Int} (k l : Nat) (hi : i.natAbs < 2 ^ k) (hj : j.natAbs < 2 ^ l) (h : k + l ≤ 1000000) (hk : 0 < k) (hl : 0 < l) : mulOk i j = true := by
  have := log2_lt_of hi hk
  have := log2_lt_of hj hl
  exact decide_eq_true (by omega)
theorem divOk_of {j : Int} (k : Nat) (h0 : 0 < j) (hj : j.natAbs < 2 ^ k) (h : k ≤ 9000) (hk : 0 < k) : divOk j = true := by
  have := log2_lt_of hj hk
  unfold divOk
  rw [decide_eq_true h0, decide_eq_true (by omega)]; rfl
theorem fuel_gt {n : Nat} (h : n < 2 ^ 1000) : n < FUEL := by
  unfold FUEL
  exact Nat.lt_of_lt_of_le h (Nat.pow_le_pow_right (by decide) (by decide))
theorem callF_eq {f : Fn} {args : List Slot} {r : List Slot} {S S' : Store} {v : EV} (h : f S args = .ok v S') : callF f args ⟨r, S⟩ = .ok v ⟨r, S'⟩ := by unfold callF; rw [h]
theorem loopW_succ (c : E) (b : T) (n : Nat) (r : List Slot) (S : Store) : loopW c b (n + 1) ⟨r, S⟩ = (evT c ⟨r, S⟩).bind fun k s1 => if k = true then (ex b s1).bind (nextF fun s => loopW c b n s) else .ok .nxt s1 := by unfold loopW; rfl
@[simp] theorem blt_abs (i : Int) : blt .abs [.int i] = some (.sh (.int (i.natAbs : Int))) := by
  unfold blt
  split <;> first | (simp at *; done) | skip
  all_goals simp_all
  all_goals omega
@[simp] theorem blt_len_tup (xs : List D) : blt .len [.tup xs] = some (.sh (.int xs.length)) := rfl
@[simp] theorem blt_len_lst (xs : List D) : blt .len [.lst xs] = some (.sh (.int xs.length)) := rfl
@[simp] theorem blt_len_scr (xs : List D) : blt .len [.scr xs] = some (.sh (.int xs.length)) := rfl
@[simp] theorem blt_len_str (s : List Nat) : blt .len [.str s] = gd (fits s.length) (.sh (.int s.length)) := rfl
@[simp] theorem blt_int (i : Int) : blt .int [.int i] = some (.sh (.int i)) := rfl
@[simp] theorem blt_intb (b : Bool) : blt .int [.bl b] = some (.sh (.int (if b = true then 1 else 0))) := rfl
@[simp] theorem blt_list_tup (xs : List D) : blt .list [.tup xs] = some (.fr (.lst xs)) := rfl
@[simp] theorem blt_list_lst (xs : List D) : blt .list [.lst xs] = some (.fr (.lst xs)) := rfl
@[simp] theorem blt_list_scr (xs : List D) : blt .list [.scr xs] = some (.fr (.lst xs)) := rfl
@[simp] theorem blt_tuple_tup (xs : List D) : blt .tuple [.tup xs] = some (.sh (.tup xs)) := rfl
@[simp] theorem blt_tuple_lst (xs : List D) : blt .tuple [.lst xs] = some (.sh (.tup xs)) := rfl
@[simp] theorem blt_all (xs : List D) : blt .all [.lst xs] = (bools xs).map fun bs => .sh (.bl (bs.all id)) := rfl
@[simp] theorem blt_any (xs : List D) : blt .any [.lst xs] = (bools xs).map fun bs => .sh (.bl (bs.any id)) := rfl
@[simp] theorem blt_sorted (xs : List D) : blt .sorted [.lst xs] = (match intsD xs with | some ns => some (.fr (.lst ((sortI ns).map D.int))) | none => gd (srtOk xs) (.fr (.lst (sortD xs)))) := rfl
@[simp] theorem blt_sorted_tup (xs : List D) : blt .sorted [.tup xs] = gd (srtOk xs) (.fr (.lst (sortD xs))) := rfl
@[simp] theorem blt_min (i j : Int) : blt .min [.int i, .int j] = some (.sh (.int (min i j))) := by
  show some (EV.sh (.int (if j < i then j else i))) = _
  congr 3
  split <;> omega
@[simp] theorem blt_max (i j : Int) : blt .max [.int i, .int j] = some (.sh (.int (max i j))) := by
  show some (EV.sh (.int (if i < j then j else i))) = _
  congr 3
  split <;> omega
@[simp] theorem cmp_lt (i j : Int) : cmpop .lt (.int i) (.int j) = some (decide (i < j)) := rfl
@[simp] theorem cmp_le (i j : Int) : cmpop .le (.int i) (.int j) = some (decide (i ≤ j)) := rfl
@[simp] theorem cmp_gt (i j : Int) : cmpop .gt (.int i) (.int j) = some (decide (j < i)) := rfl
@[simp] theorem cmp_ge (i j : Int) : cmpop .ge (.int i) (.int j) = some (decide (j ≤ i)) := rfl
@[simp] theorem cmp_eqi (i j : Int) : cmpop .eq (.int i) (.int j) = some (decide (i = j)) := rfl
@[simp] theorem cmp_nei (i j : Int) : cmpop .ne (.int i) (.int j) = some (!decide (i = j)) := rfl
theorem cmp_eq (x y : D) : cmpop .eq x y = gd (x.okd DEEP && y.okd DEEP) (D.eqv x y) := by cases x <;> cases y <;> rfl
theorem cmp_ne (x y : D) : cmpop .ne x y = gd (x.okd DEEP && y.okd DEEP) (!D.eqv x y) := by cases x <;> cases y <;> rfl
@[simp] theorem ix_tup (xs : List D) (i : Int) : ixop (.tup xs) (.int i) = atI xs i := rfl
@[simp] theorem ix_lst (xs : List D) (i : Int) : ixop (.lst xs) (.int i) = atI xs i := rfl
@[simp] theorem ix_scr (xs : List D) (i : Int) : ixop (.scr xs) (.int i) = atI xs i := rfl
theorem at_nat {α : Type} (xs : List α) (k : Nat) (h : k < xs.length) : atI xs (k : Int) = xs[k]? := by
  unfold atI ixN
  rw [if_pos (by omega), if_pos (by omega)]
  simp
@[simp] theorem at_0 {α : Type} (x : α) (xs : List α) : atI (x :: xs) 0 = some x := at_nat (x :: xs) 0 (by simp)
@[simp] theorem at_1 {α : Type} (x y : α) (xs : List α) : atI (x :: y :: xs) 1 = some y := at_nat (x :: y :: xs) 1 (by simp)
@[simp] theorem at_2 {α : Type} (x y z : α) (xs : List α) : atI (x :: y :: z :: xs) 2 = some z := at_nat (x :: y :: z :: xs) 2 (by simp)
@[simp] theorem at_3 {α : Type} (x y z u : α) (xs : List α) : atI (x :: y :: z :: u :: xs) 3 = some u := at_nat (x :: y :: z :: u :: xs) 3 (by simp)
@[simp] theorem isTrueR_true (S : Store) : isTrueR (.ok (.sh (.bl true)) S) = True := rfl
@[simp] theorem fits_def (n : Nat) : fits n = decide (n ≤ 16777216) := rfl
@[simp] theorem bools_nil : bools [] = some [] := rfl
@[simp] theorem bools_cons (b : Bool) (xs : List D) : bools (.bl b :: xs) = (bools xs).map (b :: ·) := rfl
@[simp] theorem divOk_s {j : Int} (h0 : 0 < j) (h1 : j < 18446744073709551616) : divOk j = true := divOk_of 64 h0 (by omega) (by decide) (by decide)
@[simp] theorem mulOk_s {i j : Int} (h0 : -1000000000000000000000000000000000000000000000 < i) (h1 : i < 1000000000000000000000000000000000000000000000) (h2 : -1000000000000000000000000000000000000000000000 < j) (h3 : j < 1000000000000000000000000000000000000000000000) : mulOk i j = true := mulOk_of 160 160 (by omega) (by omega) (by decide) (by decide) (by decide)
@[simp] theorem powOk_s {i j : Int} (h0 : 0 ≤ j) (h1 : j ≤ 1000000) (h2 : i.natAbs < 18446744073709551616) : powOk i j = true := by
  unfold powOk
  rw [decide_eq_true h0, decide_eq_true h1, decide_eq_true h2]; rfl
@[simp] theorem DEEP_def : DEEP = 60 := rfl
@[simp] theorem okd_non  (n : Nat) : D.okd .non n = true := by simp only [D.okd]
@[simp] theorem okd_bl (b : Bool) (n : Nat) : D.okd (.bl b) n = true := by simp only [D.okd]
@[simp] theorem okd_int (i : Int) (n : Nat) : D.okd (.int i) n = true := by simp only [D.okd]
@[simp] theorem okd_str (s : List Nat) (n : Nat) : D.okd (.str s) n = s.all (fun c => decide (c < 1114112)) := by simp only [D.okd]
@[simp] theorem okd_tup (xs : List D) (n : Nat) : D.okd (.tup xs) (n + 1) = D.okds xs n := by simp only [D.okd]
@[simp] theorem okd_lst (xs : List D) (n : Nat) : D.okd (.lst xs) (n + 1) = D.okds xs n := by simp only [D.okd]
@[simp] theorem okds_nil (n : Nat) : D.okds [] n = true := by simp only [D.okds]
@[simp] theorem okds_cons (x : D) (xs : List D) (n : Nat) : D.okds (x :: xs) n = (D.okd x n && D.okds xs n) := by simp only [D.okds]
@[simp] theorem eqv_non_non   : D.eqv .non .non = true := by simp only [D.eqv]
@[simp] theorem eqv_non_bl  (a2 : Bool) : D.eqv .non (.bl a2) = false := by simp only [D.eqv]
@[simp] theorem eqv_non_int  (a2 : Int) : D.eqv .non (.int a2) = false := by simp only [D.eqv]
@[simp] theorem eqv_non_str  (a2 : List Nat) : D.eqv .non (.str a2) = false := by simp only [D.eqv]
@[simp] theorem eqv_non_tup  (a2 : List D) : D.eqv .non (.tup a2) = false := by simp only [D.eqv]
@[simp] theorem eqv_non_lst  (a2 : List D) : D.eqv .non (.lst a2) = false := by simp only [D.eqv]
@[simp] theorem eqv_bl_non (a1 : Bool)  : D.eqv (.bl a1) .non = false := by simp only [D.eqv]
@[simp] theorem eqv_bl_bl (a1 : Bool) (a2 : Bool) : D.eqv (.bl a1) (.bl a2) = (a1 == a2) := by simp only [D.eqv]
@[simp] theorem eqv_bl_int (a1 : Bool) (a2 : Int) : D.eqv (.bl a1) (.int a2) = decide ((if a1 then (1 : Int) else 0) = a2) := by simp only [D.eqv]
@[simp] theorem eqv_bl_str (a1 : Bool) (a2 : List Nat) : D.eqv (.bl a1) (.str a2) = false := by simp only [D.eqv]
@[simp] theorem eqv_bl_tup (a1 : Bool) (a2 : List D) : D.eqv (.bl a1) (.tup a2) = false := by simp only [D.eqv]
@[simp] theorem eqv_bl_lst (a1 : Bool) (a2 : List D) : D.eqv (.bl a1) (.lst a2) = false := by simp only [D.eqv]
@[simp] theorem eqv_int_non (a1 : Int)  : D.eqv (.int a1) .non = false := by simp only [D.eqv]
@[simp] theorem eqv_int_bl (a1 : Int) (a2 : Bool) : D.eqv (.int a1) (.bl a2) = decide (a1 = (if a2 then (1 : Int) else 0)) := by simp only [D.eqv]
@[simp] theorem eqv_int_int (a1 : Int) (a2 : Int) : D.eqv (.int a1) (.int a2) = decide (a1 = a2) := by simp only [D.eqv]
@[simp] theorem eqv_int_str (a1 : Int) (a2 : List Nat) : D.eqv (.int a1) (.str a2) = false := by simp only [D.eqv]
@[simp] theorem eqv_int_tup (a1 : Int) (a2 : List D) : D.eqv (.int a1) (.tup a2) = false := by simp only [D.eqv]
@[simp] theorem eqv_int_lst (a1 : Int) (a2 : List D) : D.eqv (.int a1) (.lst a2) = false := by simp only [D.eqv]
@[simp] theorem eqv_str_non (a1 : List Nat)  : D.eqv (.str a1) .non = false := by simp only [D.eqv]
@[simp] theorem eqv_str_bl (a1 : List Nat) (a2 : Bool) : D.eqv (.str a1) (.bl a2) = false := by simp only [D.eqv]
@[simp] theorem eqv_str_int (a1 : List Nat) (a2 : Int) : D.eqv (.str a1) (.int a2) = false := by simp only [D.eqv]
@[simp] theorem eqv_str_str (a1 : List Nat) (a2 : List Nat) : D.eqv (.str a1) (.str a2) = decide (a1 = a2) := by simp only [D.eqv]
@[simp] theorem eqv_str_tup (a1 : List Nat) (a2 : List D) : D.eqv (.str a1) (.tup a2) = false := by simp only [D.eqv]
@[simp] theorem eqv_str_lst (a1 : List Nat) (a2 : List D) : D.eqv (.str a1) (.lst a2) = false := by simp only [D.eqv]
@[simp] theorem eqv_tup_non (a1 : List D)  : D.eqv (.tup a1) .non = false := by simp only [D.eqv]
@[simp] theorem eqv_tup_bl (a1 : List D) (a2 : Bool) : D.eqv (.tup a1) (.bl a2) = false := by simp only [D.eqv]
@[simp] theorem eqv_tup_int (a1 : List D) (a2 : Int) : D.eqv (.tup a1) (.int a2) = false := by simp only [D.eqv]
@[simp] theorem eqv_tup_str (a1 : List D) (a2 : List Nat) : D.eqv (.tup a1) (.str a2) = false := by simp only [D.eqv]
@[simp] theorem eqv_tup_tup (a1 : List D) (a2 : List D) : D.eqv (.tup a1) (.tup a2) = D.eqvs a1 a2 := by simp only [D.eqv]
@[simp] theorem eqv_tup_lst (a1 : List D) (a2 : List D) : D.eqv (.tup a1) (.lst a2) = false := by simp only [D.eqv]
@[simp] theorem eqv_lst_non (a1 : List D)  : D.eqv (.lst a1) .non = false := by simp only [D.eqv]
@[simp] theorem eqv_lst_bl (a1 : List D) (a2 : Bool) : D.eqv (.lst a1) (.bl a2) = false := by simp only [D.eqv]
@[simp] theorem eqv_lst_int (a1 : List D) (a2 : Int) : D.eqv (.lst a1) (.int a2) = false := by simp only [D.eqv]
@[simp] theorem eqv_lst_str (a1 : List D) (a2 : List Nat) : D.eqv (.lst a1) (.str a2) = false := by simp only [D.eqv]
@[simp] theorem eqv_lst_tup (a1 : List D) (a2 : List D) : D.eqv (.lst a1) (.tup a2) = false := by simp only [D.eqv]
@[simp] theorem eqv_lst_lst (a1 : List D) (a2 : List D) : D.eqv (.lst a1) (.lst a2) = D.eqvs a1 a2 := by simp only [D.eqv]
@[simp] theorem eqvs_nil : D.eqvs [] [] = true := by simp only [D.eqvs]
@[simp] theorem eqvs_nc (y : D) (ys : List D) : D.eqvs [] (y :: ys) = false := by simp only [D.eqvs]
@[simp] theorem eqvs_cn (y : D) (ys : List D) : D.eqvs (y :: ys) [] = false := by simp only [D.eqvs]
@[simp] theorem eqvs_cc (x y : D) (xs ys : List D) : D.eqvs (x :: xs) (y :: ys) = (D.eqv x y && D.eqvs xs ys) := by simp only [D.eqvs]
@[simp] theorem isi_int_non  : isiD .int .non = false := rfl
@[simp] theorem isi_int_bl (a1 : Bool) : isiD .int (.bl a1) = true := rfl
@[simp] theorem isi_int_int (a1 : Int) : isiD .int (.int a1) = true := rfl
@[simp] theorem isi_int_str (a1 : List Nat) : isiD .int (.str a1) = false := rfl
@[simp] theorem isi_int_tup (a1 : List D) : isiD .int (.tup a1) = false := rfl
@[simp] theorem isi_int_lst (a1 : List D) : isiD .int (.lst a1) = false := rfl
@[simp] theorem isi_bool_non  : isiD .bool .non = false := rfl
@[simp] theorem isi_bool_bl (a1 : Bool) : isiD .bool (.bl a1) = true := rfl
@[simp] theorem isi_bool_int (a1 : Int) : isiD .bool (.int a1) = false := rfl
@[simp] theorem isi_bool_str (a1 : List Nat) : isiD .bool (.str a1) = false := rfl
@[simp] theorem isi_bool_tup (a1 : List D) : isiD .bool (.tup a1) = false := rfl
@[simp] theorem isi_bool_lst (a1 : List D) : isiD .bool (.lst a1) = false := rfl
@[simp] theorem isi_str_non  : isiD .str .non = false := rfl
@[simp] theorem isi_str_bl (a1 : Bool) : isiD .str (.bl a1) = false := rfl
@[simp] theorem isi_str_int (a1 : Int) : isiD .str (.int a1) = false := rfl
@[simp] theorem isi_str_str (a1 : List Nat) : isiD .str (.str a1) = true := rfl
@[simp] theorem isi_str_tup (a1 : List D) : isiD .str (.tup a1) = false := rfl
@[simp] theorem isi_str_lst (a1 : List D) : isiD .str (.lst a1) = false := rfl
@[simp] theorem isi_tuple_non  : isiD .tuple .non = false := rfl
@[simp] theorem isi_tuple_bl (a1 : Bool) : isiD .tuple (.bl a1) = false := rfl
@[simp] theorem isi_tuple_int (a1 : Int) : isiD .tuple (.int a1) = false := rfl
@[simp] theorem isi_tuple_str (a1 : List Nat) : isiD .tuple (.str a1) = false := rfl
@[simp] theorem isi_tuple_tup (a1 : List D) : isiD .tuple (.tup a1) = true := rfl
@[simp] theorem isi_tuple_lst (a1 : List D) : isiD .tuple (.lst a1) = false := rfl
@[simp] theorem isi_list_non  : isiD .list .non = false := rfl
@[simp] theorem isi_list_bl (a1 : Bool) : isiD .list (.bl a1) = false := rfl
@[simp] theorem isi_list_int (a1 : Int) : isiD .list (.int a1) = false := rfl
@[simp] theorem isi_list_str (a1 : List Nat) : isiD .list (.str a1) = false := rfl
@[simp] theorem isi_list_tup (a1 : List D) : isiD .list (.tup a1) = false := rfl
@[simp] theorem isi_list_lst (a1 : List D) : isiD .list (.lst a1) = true := rfl
@[simp] theorem isi_list_scr (a : List D) : isiD .list (.scr a) = true := rfl
@[simp] theorem isNon_non  : isNon .non = true := rfl
@[simp] theorem isNon_bl (a1 : Bool) : isNon (.bl a1) = false := rfl
@[simp] theorem isNon_int (a1 : Int) : isNon (.int a1) = false := rfl
@[simp] theorem isNon_str (a1 : List Nat) : isNon (.str a1) = false := rfl
@[simp] theorem isNon_tup (a1 : List D) : isNon (.tup a1) = false := rfl
@[simp] theorem isNon_lst (a1 : List D) : isNon (.lst a1) = false := rfl
/-! ### loops -/
def turnB (t : Tg) (b : T) (ks : List Nat) (x : D) (s : State) : R State Flow := (asg t (.sh x) s).bind fun _ s2 => (ex b s2).bind fun f s3 => endB ks f s3
theorem loopF_turn (t : Tg) (b : T) (ks : List Nat) (x : D) (xs : List D) (s : State) : loopF t b ks (x :: xs) s = (turnB t b ks x s).bind (nextF fun s => loopF t b ks xs s) := by
  obtain ⟨r, S⟩ := s
  unfold loopF turnB
  rfl
/-- a for that goes through -/
theorem loopF_ix {t : Tg} {b : T} {ks : List Nat} {xs : List D} (I : Nat → State → Prop) {s : State} (h0 : I 0 s) (step : ∀ k x s, xs[k]? = some x → I k s → ∃ s', turnB t b ks x s = .ok .nxt s' ∧ I (k + 1) s') : ∃ s', loopF t b ks xs s = .ok .nxt s' ∧ I xs.length s' := by
  have go : ∀ (m : Nat) (ys : List D) (k : Nat) (s : State), ys.length = m → ys = xs.drop k → k ≤ xs.length → I k s → ∃ s', loopF t b ks ys s = .ok .nxt s' ∧ I xs.length s' := by
    intro m
    induction m with
    | zero =>
      intro ys k s hm hy hk hI
      have e : ys = [] := List.eq_nil_of_length_eq_zero hm
      subst e
      have : k = xs.length := by
        have := congrArg List.length hy
        rw [List.length_drop] at this
        simp at this
        omega
      subst this
      exact ⟨s, loopF_nil _ _ _ _, hI⟩
    | succ m ih =>
      intro ys k s hm hy hk hI
      cases ys with
      | nil => simp at hm
      | cons y ys =>
        have hk2 : k < xs.length := by
          have := congrArg List.length hy
          rw [List.length_drop] at this
          simp at this
          omega
        rw [List.drop_eq_getElem_cons hk2] at hy
        obtain ⟨e1, e2⟩ := List.cons.inj hy
        obtain ⟨s1, h1, h2⟩ := step k y s (by rw [e1]; exact List.getElem?_eq_getElem hk2) hI
        obtain ⟨s2, h3, h4⟩ := ih ys (k + 1) s1 (by simpa using hm) e2 hk2 h2
        refine ⟨s2, ?_, h4⟩
        rw [loopF_turn, h1, bind_ok, nextF_nxt, h3]
  exact go _ xs 0 s rfl rfl (Nat.zero_le _) h0
/-- a for whose turns leave the state as it is -/
theorem loopF_stay {t : Tg} {b : T} {ks : List Nat} {xs : List D} {s : State} (h : ∀ x ∈ xs, turnB t b ks x s = .ok .nxt s) : loopF t b ks xs s = .ok .nxt s := by
  induction xs with
  | nil => simp
  | cons x xs ih => rw [loopF_turn, h x List.mem_cons_self, bind_ok, nextF_nxt, ih fun y hy => h y (List.mem_cons_of_mem _ hy)]
/-- a for that stops at the first turn of a kind -/
theorem loopF_until {t : Tg} {b : T} {ks : List Nat} {s : State} (p : D → Bool) (r : D → R State Flow) : ∀ {xs : List D}, (∀ x ∈ xs, p x = false → turnB t b ks x s = .ok .nxt s) → (∀ x ∈ xs, p x = true → turnB t b ks x s = r x ∧ ∀ k, (r x).bind (nextF k) = r x) →
    loopF t b ks xs s = match xs.find? p with | none => .ok .nxt s | some x => r x
  | [], _, _ => by simp
  | x :: xs, h0, h1 => by
    rw [loopF_turn, List.find?_cons]
    cases e : p x with
    | false =>
      rw [h0 x List.mem_cons_self e, bind_ok, nextF_nxt]
      exact loopF_until p r (fun y hy => h0 y (List.mem_cons_of_mem _ hy)) (fun y hy => h1 y (List.mem_cons_of_mem _ hy))
    | true =>
      obtain ⟨e1, e2⟩ := h1 x List.mem_cons_self e
      rw [e1, e2]
/-- a comprehension, turn by turn -/
theorem loopC_fm {vs : List Nat} {t : Tg} {c e : E} {xs : List D} {r : List Slot} {S : Store} (f : D → Option D) (h : ∀ x ∈ xs, ((asg t (.sh x) ⟨wipeR vs r, S⟩).bind fun _ s2 => (ev c s2).dat (condC vs e)) = .ok (f x) ⟨r, S⟩) : loopC vs t c e xs ⟨r, S⟩ = .ok (xs.filterMap f) ⟨r, S⟩ := by
  induction xs with
  | nil => simp
  | cons x xs ih =>
    rw [loopC_cons, h x List.mem_cons_self, nextC_ok, ih fun y hy => h y (List.mem_cons_of_mem _ hy), List.filterMap_cons]
    cases f x <;> rfl
theorem loopC_map {vs : List Nat} {t : Tg} {c e : E} {xs : List D} {r : List Slot} {S : Store} (f : D → D) (h : ∀ x ∈ xs, ((asg t (.sh x) ⟨wipeR vs r, S⟩).bind fun _ s2 => (ev c s2).dat (condC vs e)) = .ok (some (f x)) ⟨r, S⟩) : loopC vs t c e xs ⟨r, S⟩ = .ok (xs.map f) ⟨r, S⟩ := by
  rw [loopC_fm (fun x => some (f x)) h, List.filterMap_eq_map']
theorem rgOk_of {n : Int} (h1 : -4611686018427387904 < n) (h2 : n < 4611686018427387904) : rgOk n = true := by
  unfold rgOk
  exact Nat.blt_eq.mpr (by omega)
theorem rgOk_nat {m : Nat} (h : m ≤ 1000000000) : rgOk (m : Int) = true := rgOk_of (by omega) (by omega)
theorem rgOk_int {m : Int} (h : -1000000000 ≤ m) (h2 : m ≤ 1000000000) : rgOk m = true := rgOk_of (by omega) (by omega)
end MI

namespace MI

/-! ### numbers -/
def qD (q : Rat) : D := .tup [.int q.num, .int q.den]
def lowD (t b : Int) : D := .tup [.int (t / Int.gcd t b), .int (b / Int.gcd t b)]
theorem low_q {t b : Int} (hb : 0 < b) : lowD t b = qD (Rat.divInt t b) := by
  unfold lowD qD
  rw [Rat.num_divInt, Rat.den_divInt, Int.sign_eq_one_of_pos hb, Int.one_mul, if_neg (by omega), Int.gcd_comm]
  congr 4
  rw [Int.natCast_ediv, Int.natAbs_of_nonneg (by omega)]
theorem low_self (q : Rat) : lowD q.num q.den = qD q := by
  have := q.den_pos
  rw [low_q (by omega), Rat.num_divInt_den]
theorem qD_inj {a b : Rat} : qD a = qD b ↔ a = b := by
  constructor
  · intro h
    unfold qD at h
    injection h with h
    injection h with h1 h2
    injection h2 with h2 _
    injection h1 with h1
    injection h2 with h2
    exact Rat.ext h1 (by omega)
  · intro h; rw [h]
theorem eq_nd {a b : Rat} : (a.num = b.num ∧ (a.den : Int) = b.den) ↔ a = b := ⟨fun ⟨h1, h2⟩ => Rat.ext h1 (by omega), fun h => by rw [h]; exact ⟨rfl, rfl⟩⟩
@[simp] theorem eqv_qD (a b : Rat) : D.eqv (qD a) (qD b) = decide (a = b) := by
  unfold qD
  simp only [eqv_tup_tup, eqvs_cc, eqv_int_int, eqvs_nil, Bool.and_true]
  rw [← Bool.decide_and, decide_eq_decide]
  exact eq_nd
@[simp] theorem okd_qD (a : Rat) (n : Nat) : D.okd (qD a) (n + 1) = true := by
  unfold qD
  simp
@[simp] theorem nol_qD (a : Rat) : D.nol (qD a) = true := by
  unfold qD
  simp only [D.nol, D.nols]
  rfl
@[simp] theorem ix_qD0 (a : Rat) : ixop (qD a) (.int 0) = some (.int a.num) := rfl
@[simp] theorem ix_qD1 (a : Rat) : ixop (qD a) (.int 1) = some (.int a.den) := rfl
theorem qD_int (n : Int) : D.tup [.int n, .int 1] = qD (n : Rat) := rfl
theorem qD_nd (q : Rat) : D.tup [.int q.num, .int q.den] = qD q := rfl
@[simp] theorem len_qD (a : Rat) : blt .len [qD a] = some (.sh (.int 2)) := rfl
@[simp] theorem isi_qD (a : Rat) (t : Ty) : isiD t (qD a) = decide (t = .tuple) := by cases t <;> rfl
@[simp] theorem obj_qD (a : Rat) : D.obj (qD a) = false := rfl
@[simp] theorem isNon_qD (a : Rat) : isNon (qD a) = false := rfl
/-! ### points -/
abbrev Pt := Rat × Rat
def pQ (p : Pt) : D := .tup [qD p.1, qD p.2]
@[simp] theorem eqv_pQ (a b : Pt) : D.eqv (pQ a) (pQ b) = decide (a = b) := by
  obtain ⟨a1, a2⟩ := a
  obtain ⟨b1, b2⟩ := b
  simp [pQ]
@[simp] theorem okd_pQ (a : Pt) (n : Nat) : D.okd (pQ a) (n + 2) = true := by
  unfold pQ
  simp
@[simp] theorem nol_pQ (a : Pt) : D.nol (pQ a) = true := by
  unfold pQ
  simp only [D.nol, D.nols, nol_qD]
  rfl
@[simp] theorem ix_pQ0 (a : Pt) : ixop (pQ a) (.int 0) = some (qD a.1) := rfl
@[simp] theorem ix_pQ1 (a : Pt) : ixop (pQ a) (.int 1) = some (qD a.2) := rfl
@[simp] theorem isi_pQ (a : Pt) (t : Ty) : isiD t (pQ a) = decide (t = .tuple) := by cases t <;> rfl
@[simp] theorem obj_pQ (a : Pt) : D.obj (pQ a) = false := rfl
@[simp] theorem isNon_pQ (a : Pt) : isNon (pQ a) = false := rfl
@[simp] theorem len_pQ (a : Pt) : blt .len [pQ a] = some (.sh (.int 2)) := rfl
theorem pQ_inj {a b : Pt} : pQ a = pQ b ↔ a = b := by
  constructor
  · intro h
    unfold pQ at h
    injection h with h
    injection h with h1 h2
    injection h2 with h2 _
    exact Prod.ext (qD_inj.mp h1) (qD_inj.mp h2)
  · intro h; rw [h]
theorem pQ_tup (a b : Rat) : D.tup [qD a, qD b] = pQ (a, b) := rfl
/-! ### sizes -/
def Sm (k : Nat) (q : Rat) : Prop := q.num.natAbs < 2 ^ k ∧ q.den < 2 ^ k
theorem pow_up {n k l : Nat} (h : n < 2 ^ k) (hk : k ≤ l) : n < 2 ^ l := Nat.lt_of_lt_of_le h (Nat.pow_le_pow_right (by decide) hk)
theorem Sm.mono {k l : Nat} {q : Rat} (h : Sm k q) (hk : k ≤ l) : Sm l q := ⟨pow_up h.1 hk, pow_up h.2 hk⟩
theorem abs_mul_lt {a b : Int} {k l : Nat} (ha : a.natAbs < 2 ^ k) (hb : b.natAbs < 2 ^ l) : (a * b).natAbs < 2 ^ (k + l) := by
  rw [Int.natAbs_mul, Nat.pow_add]
  exact Nat.mul_lt_mul'' ha hb
theorem abs_add_lt {a b : Int} {k : Nat} (ha : a.natAbs < 2 ^ k) (hb : b.natAbs < 2 ^ k) : (a + b).natAbs < 2 ^ (k + 1) := by
  rw [Nat.pow_succ]; omega
theorem abs_sub_lt {a b : Int} {k : Nat} (ha : a.natAbs < 2 ^ k) (hb : b.natAbs < 2 ^ k) : (a - b).natAbs < 2 ^ (k + 1) := by
  rw [Nat.pow_succ]; omega
theorem Sm_divInt {t b : Int} {k : Nat} (hb : 0 < b) (h1 : t.natAbs < 2 ^ k) (h2 : b.natAbs < 2 ^ k) : Sm k (Rat.divInt t b) := by
  unfold Sm
  rw [Rat.num_divInt, Rat.den_divInt, Int.sign_eq_one_of_pos hb, Int.one_mul, if_neg (by omega)]
  exact ⟨Nat.lt_of_le_of_lt (Int.natAbs_ediv_le_natAbs _ _) h1, Nat.lt_of_le_of_lt (Nat.div_le_self _ _) h2⟩
theorem den_abs (q : Rat) : (q.den : Int).natAbs = q.den := Int.natAbs_natCast _
theorem den_pos' (q : Rat) : (0 : Int) < q.den := by have := q.den_pos; omega
theorem add_divInt (a b : Rat) : a + b = Rat.divInt (a.num * b.den + b.num * a.den) (a.den * b.den) := by
  have := Rat.add_def' a b
  rw [this, ← Rat.divInt_ofNat]
  congr 1
theorem sub_divInt (a b : Rat) : a - b = Rat.divInt (a.num * b.den - b.num * a.den) (a.den * b.den) := by
  have := Rat.sub_def' a b
  rw [this, ← Rat.divInt_ofNat]
  congr 1
theorem mul_divInt (a b : Rat) : a * b = Rat.divInt (a.num * b.num) (a.den * b.den) := by
  have := Rat.mul_def' a b
  rw [this, ← Rat.divInt_ofNat]
  congr 1
theorem dd_pos (a b : Rat) : (0 : Int) < a.den * b.den := Int.mul_pos (den_pos' a) (den_pos' b)
theorem Sm.add {k : Nat} {a b : Rat} (ha : Sm k a) (hb : Sm k b) : Sm (k + k + 1) (a + b) := by
  rw [add_divInt]
  refine Sm_divInt (dd_pos a b) ?_ ?_
  · exact abs_add_lt (abs_mul_lt ha.1 (by rw [den_abs]; exact hb.2)) (abs_mul_lt hb.1 (by rw [den_abs]; exact ha.2))
  · exact pow_up (abs_mul_lt (by rw [den_abs]; exact ha.2) (by rw [den_abs]; exact hb.2)) (by omega)
theorem Sm.sub {k : Nat} {a b : Rat} (ha : Sm k a) (hb : Sm k b) : Sm (k + k + 1) (a - b) := by
  rw [sub_divInt]
  refine Sm_divInt (dd_pos a b) ?_ ?_
  · exact abs_sub_lt (abs_mul_lt ha.1 (by rw [den_abs]; exact hb.2)) (abs_mul_lt hb.1 (by rw [den_abs]; exact ha.2))
  · exact pow_up (abs_mul_lt (by rw [den_abs]; exact ha.2) (by rw [den_abs]; exact hb.2)) (by omega)
theorem Sm.mul {k : Nat} {a b : Rat} (ha : Sm k a) (hb : Sm k b) : Sm (k + k) (a * b) := by
  rw [mul_divInt]
  exact Sm_divInt (dd_pos a b) (abs_mul_lt ha.1 hb.1) (abs_mul_lt (by rw [den_abs]; exact ha.2) (by rw [den_abs]; exact hb.2))
theorem Sm_int {k : Nat} {n : Int} (hk : 0 < k) (h : n.natAbs < 2 ^ k) : Sm k (n : Rat) := ⟨h, Nat.one_lt_two_pow (by omega)⟩
theorem Sm.neg {k : Nat} {a : Rat} (h : Sm k a) : Sm k (-a) := ⟨by rw [Rat.neg_num, Int.natAbs_neg]; exact h.1, h.2⟩
theorem mul_num_lt {k : Nat} {a b : Rat} (h : Sm k a) (g : Sm k b) (hk : 0 < k) (hk2 : k ≤ 400000) : mulOk a.num b.den = true ∧ mulOk a.num b.num = true ∧ mulOk a.den b.den = true ∧ mulOk a.den b.num = true :=
  ⟨mulOk_of k k h.1 (by rw [den_abs]; exact g.2) (by omega) hk hk, mulOk_of k k h.1 g.1 (by omega) hk hk, mulOk_of k k (by rw [den_abs]; exact h.2) (by rw [den_abs]; exact g.2) (by omega) hk hk, mulOk_of k k (by rw [den_abs]; exact h.2) g.1 (by omega) hk hk⟩
theorem gcd_pos' {t b : Int} (hb : 0 < b) : (0 : Int) < Int.gcd t b := by
  have := Int.gcd_pos_of_ne_zero_right t (show b ≠ 0 by omega)
  omega
theorem gcd_le' {t b : Int} (hb : 0 < b) : (Int.gcd t b : Int) ≤ b := Int.le_of_dvd hb (Int.gcd_dvd_right t b)
theorem div_gcd_ok {t b : Int} {k : Nat} (hb : 0 < b) (h : b.natAbs < 2 ^ k) (hk : 0 < k) (hk2 : k ≤ 9000) : divOk (Int.gcd t b) = true := by
  have h1 := gcd_pos' (t := t) hb
  have h2 := gcd_le' (t := t) hb
  exact divOk_of k h1 (by omega) (by omega) hk
theorem fuel_gt' {n k : Nat} (h : n < 2 ^ k) (hk : k ≤ 100000) : n < FUEL := by
  unfold FUEL
  exact Nat.lt_of_lt_of_le h (Nat.pow_le_pow_right (by decide) hk)
end MI

namespace MI

/-! ### data of one shape are ordered -/
inductive Sh where
  | i | s | t (xs : List Sh)
mutual
def D.hs : D → Sh → Bool
  | .int _, sh => match sh with | .i => true | _ => false
  | .str _, sh => match sh with | .s => true | _ => false
  | .tup xs, sh => match sh with | .t ss => D.hss xs ss | _ => false
  | _, _ => false
def D.hss : List D → List Sh → Bool
  | [], ss => match ss with | [] => true | _ => false
  | x :: xs, ss => match ss with | [] => false | s :: ss => D.hs x s && D.hss xs ss
end
theorem lexN_irr : ∀ a : List Nat, lexN a a = false
  | [] => rfl
  | x :: xs => by simp [lexN, lexN_irr xs]
theorem lexN_tot : ∀ a b : List Nat, lexN a b = false → lexN b a = false → a = b
  | [], [], _, _ => rfl
  | [], _ :: _, h, _ => by simp [lexN] at h
  | _ :: _, [], _, h => by simp [lexN] at h
  | x :: xs, y :: ys, h1, h2 => by
    simp [lexN] at h1 h2
    have e : x = y := by omega
    subst e
    rw [lexN_tot xs ys (h1.2 rfl) (h2.2 rfl)]
theorem lexN_trans : ∀ a b c : List Nat, lexN a b = true → lexN b c = true → lexN a c = true
  | [], [], c, h, _ => by simp [lexN] at h
  | [], _ :: _, [], _, h => by simp [lexN] at h
  | [], _ :: _, _ :: _, _, _ => rfl
  | _ :: _, [], _, h, _ => by simp [lexN] at h
  | _ :: _, _ :: _, [], _, h => by simp [lexN] at h
  | x :: xs, y :: ys, z :: zs, h1, h2 => by
    simp [lexN] at h1 h2 ⊢
    rcases h1 with h1 | ⟨rfl, h1⟩
    · rcases h2 with h2 | ⟨rfl, h2⟩
      · left; omega
      · left; exact h1
    · rcases h2 with h2 | ⟨rfl, h2⟩
      · left; exact h2
      · right; exact ⟨rfl, lexN_trans xs ys zs h1 h2⟩
mutual
theorem eqv_hs : ∀ (a : D) (b : D) (s : Sh), a.hs s = true → b.hs s = true → (D.eqv a b = true ↔ a = b)
  | .int i, b, s, h1, h2 => by
    cases s <;> simp [D.hs] at h1
    cases b <;> simp [D.hs] at h2
    simp
  | .str i, b, s, h1, h2 => by
    cases s <;> simp [D.hs] at h1
    cases b <;> simp [D.hs] at h2
    simp
  | .tup xs, b, s, h1, h2 => by
    cases s <;> simp [D.hs] at h1
    rename_i ss
    cases b <;> simp [D.hs] at h2
    rename_i ys
    have := eqvs_hs xs ys ss h1 h2
    simp [this]
  | .non, b, s, h1, h2 => by simp [D.hs] at h1
  | .bl _, b, s, h1, h2 => by simp [D.hs] at h1
  | .lst _, b, s, h1, h2 => by simp [D.hs] at h1
  | .scr _, b, s, h1, h2 => by simp [D.hs] at h1
  | .dct _ _, b, s, h1, h2 => by simp [D.hs] at h1
  | .exn _ _ _, b, s, h1, h2 => by simp [D.hs] at h1
  | .fnc _, b, s, h1, h2 => by simp [D.hs] at h1
theorem eqvs_hs : ∀ (a : List D) (b : List D) (s : List Sh), D.hss a s = true → D.hss b s = true → (D.eqvs a b = true ↔ a = b)
  | [], b, s, h1, h2 => by
    cases s <;> simp [D.hss] at h1
    cases b <;> simp [D.hss] at h2
    simp
  | x :: xs, b, s, h1, h2 => by
    cases s <;> simp [D.hss] at h1
    rename_i s ss
    cases b <;> simp [D.hss] at h2
    rename_i y ys
    have e1 := eqv_hs x y s h1.1 h2.1
    have e2 := eqvs_hs xs ys ss h1.2 h2.2
    simp [e1, e2]
end
mutual
theorem lt_irr : ∀ (a : D) (s : Sh), a.hs s = true → D.lt a a = false
  | .int i, s, h1 => by simp [D.lt]
  | .str i, s, h1 => by simp [D.lt, lexN_irr]
  | .tup xs, s, h1 => by
    cases s <;> simp [D.hs] at h1
    rename_i ss
    simp [D.lt, lts_irr xs ss h1]
  | .non, s, h1 => by simp [D.hs] at h1
  | .bl _, s, h1 => by simp [D.hs] at h1
  | .lst _, s, h1 => by simp [D.hs] at h1
  | .scr _, s, h1 => by simp [D.hs] at h1
  | .dct _ _, s, h1 => by simp [D.hs] at h1
  | .exn _ _ _, s, h1 => by simp [D.hs] at h1
  | .fnc _, s, h1 => by simp [D.hs] at h1
theorem lts_irr : ∀ (a : List D) (s : List Sh), D.hss a s = true → D.lts a a = false
  | [], s, h1 => by simp [D.lts]
  | x :: xs, s, h1 => by
    cases s <;> simp [D.hss] at h1
    rename_i s ss
    simp [D.lts, lt_irr x s h1.1, lts_irr xs ss h1.2]
end
mutual
theorem lt_tot : ∀ (a : D) (b : D) (s : Sh), a.hs s = true → b.hs s = true → D.lt a b = false → D.lt b a = false → a = b
  | .int i, b, s, h1, h2, h3, h4 => by
    cases s <;> simp [D.hs] at h1
    cases b <;> simp [D.hs] at h2
    simp [D.lt] at h3 h4
    congr 1; omega
  | .str i, b, s, h1, h2, h3, h4 => by
    cases s <;> simp [D.hs] at h1
    cases b <;> simp [D.hs] at h2
    simp [D.lt] at h3 h4
    rw [lexN_tot _ _ h3 h4]
  | .tup xs, b, s, h1, h2, h3, h4 => by
    cases s <;> simp [D.hs] at h1
    rename_i ss
    cases b <;> simp [D.hs] at h2
    rename_i ys
    simp [D.lt] at h3 h4
    rw [lts_tot xs ys ss h1 h2 h3 h4]
  | .non, b, s, h1, h2, _, _ => by simp [D.hs] at h1
  | .bl _, b, s, h1, h2, _, _ => by simp [D.hs] at h1
  | .lst _, b, s, h1, h2, _, _ => by simp [D.hs] at h1
  | .scr _, b, s, h1, h2, _, _ => by simp [D.hs] at h1
  | .dct _ _, b, s, h1, h2, _, _ => by simp [D.hs] at h1
  | .exn _ _ _, b, s, h1, h2, _, _ => by simp [D.hs] at h1
  | .fnc _, b, s, h1, h2, _, _ => by simp [D.hs] at h1
theorem lts_tot : ∀ (a : List D) (b : List D) (s : List Sh), D.hss a s = true → D.hss b s = true → D.lts a b = false → D.lts b a = false → a = b
  | [], b, s, h1, h2, h3, h4 => by
    cases s <;> simp [D.hss] at h1
    cases b <;> simp [D.hss] at h2
    rfl
  | x :: xs, b, s, h1, h2, h3, h4 => by
    cases s <;> simp [D.hss] at h1
    rename_i s ss
    cases b <;> simp [D.hss] at h2
    rename_i y ys
    simp [D.lts] at h3 h4
    have e := lt_tot x y s h1.1 h2.1 h3.1 h4.1
    subst e
    have e2 := (eqv_hs x x s h1.1 h1.1).mpr rfl
    rw [lts_tot xs ys ss h1.2 h2.2 (h3.2 e2) (h4.2 e2)]
end
mutual
theorem lt_trans : ∀ (a : D) (b c : D) (s : Sh), a.hs s = true → b.hs s = true → c.hs s = true → D.lt a b = true → D.lt b c = true → D.lt a c = true
  | .int i, b, c, s, h1, h2, h5, h3, h4 => by
    cases s <;> simp [D.hs] at h1
    cases b <;> simp [D.hs] at h2
    cases c <;> simp [D.hs] at h5
    simp [D.lt] at h3 h4 ⊢
    omega
  | .str i, b, c, s, h1, h2, h5, h3, h4 => by
    cases s <;> simp [D.hs] at h1
    cases b <;> simp [D.hs] at h2
    cases c <;> simp [D.hs] at h5
    simp [D.lt] at h3 h4 ⊢
    exact lexN_trans _ _ _ h3 h4
  | .tup xs, b, c, s, h1, h2, h5, h3, h4 => by
    cases s <;> simp [D.hs] at h1
    rename_i ss
    cases b <;> simp [D.hs] at h2
    rename_i ys
    cases c <;> simp [D.hs] at h5
    rename_i zs
    simp [D.lt] at h3 h4 ⊢
    exact lts_trans xs ys zs ss h1 h2 h5 h3 h4
  | .non, b, c, s, h1, h2, _, _, _ => by simp [D.hs] at h1
  | .bl _, b, c, s, h1, h2, _, _, _ => by simp [D.hs] at h1
  | .lst _, b, c, s, h1, h2, _, _, _ => by simp [D.hs] at h1
  | .scr _, b, c, s, h1, h2, _, _, _ => by simp [D.hs] at h1
  | .dct _ _, b, c, s, h1, h2, _, _, _ => by simp [D.hs] at h1
  | .exn _ _ _, b, c, s, h1, h2, _, _, _ => by simp [D.hs] at h1
  | .fnc _, b, c, s, h1, h2, _, _, _ => by simp [D.hs] at h1
theorem lts_trans : ∀ (a : List D) (b c : List D) (s : List Sh), D.hss a s = true → D.hss b s = true → D.hss c s = true → D.lts a b = true → D.lts b c = true → D.lts a c = true
  | [], b, c, s, h1, h2, h5, h3, h4 => by
    cases s <;> simp [D.hss] at h1
    cases b <;> simp [D.hss] at h2
    simp [D.lts] at h3
  | x :: xs, b, c, s, h1, h2, h5, h3, h4 => by
    cases s <;> simp [D.hss] at h1
    rename_i s ss
    cases b <;> simp [D.hss] at h2
    rename_i y ys
    cases c <;> simp [D.hss] at h5
    rename_i z zs
    simp [D.lts] at h3 h4 ⊢
    rcases h3 with h3 | ⟨e, h3⟩
    · rcases h4 with h4 | ⟨e, h4⟩
      · exact .inl (lt_trans x y z s h1.1 h2.1 h5.1 h3 h4)
      · rw [← (eqv_hs y z s h2.1 h5.1).mp e]; exact .inl h3
    · have e1 := (eqv_hs x y s h1.1 h2.1).mp e
      subst e1
      rcases h4 with h4 | ⟨e, h4⟩
      · exact .inl h4
      · exact .inr ⟨e, lts_trans xs ys zs ss h1.2 h2.2 h5.2 h3 h4⟩
end
abbrev leD (x y : D) : Bool := !D.lt y x
theorem lt_asym {a b : D} {s : Sh} (h1 : a.hs s = true) (h2 : b.hs s = true) (h : D.lt a b = true) : D.lt b a = false := by
  cases e : D.lt b a with
  | false => rfl
  | true =>
    have := lt_trans a b a s h1 h2 h1 h e
    rw [lt_irr a s h1] at this; cases this
theorem leD_trans {a b c : D} {s : Sh} (h1 : a.hs s = true) (h2 : b.hs s = true) (h3 : c.hs s = true) (h : leD a b = true) (h' : leD b c = true) : leD a c = true := by
  unfold leD at *
  simp only [Bool.not_eq_true'] at *
  cases e : D.lt c a with
  | false => rfl
  | true =>
    cases e2 : D.lt b c with
    | true =>
      have := lt_trans b c a s h2 h3 h1 e2 e
      rw [h] at this; cases this
    | false =>
      have := lt_tot b c s h2 h3 e2 h'
      subst this
      rw [h] at e; cases e
theorem leD_total {a b : D} {s : Sh} (h1 : a.hs s = true) (h2 : b.hs s = true) : (leD a b || leD b a) = true := by
  unfold leD
  cases e : D.lt b a with
  | false => rfl
  | true => rw [lt_asym h2 h1 e]; rfl
theorem leD_anti {a b : D} {s : Sh} (h1 : a.hs s = true) (h2 : b.hs s = true) (h : leD a b = true) (h' : leD b a = true) : a = b := by
  unfold leD at *
  simp only [Bool.not_eq_true'] at *
  exact lt_tot a b s h1 h2 h' h
/-- sorted data of one shape -/
theorem sortD_pw {s : Sh} {xs : List D} (h : ∀ x ∈ xs, x.hs s = true) : (sortD xs).Pairwise (fun a b => leD a b = true) := by
  let α := { d : D // d.hs s = true }
  have e : xs = (xs.attach.map fun x => (⟨x.1, h x.1 x.2⟩ : α)).map (·.1) := by
    rw [List.map_map]
    exact (List.attach_map_subtype_val xs).symm
  unfold sortD
  rw [e, ← List.map_mergeSort (r := fun a b : α => leD a.1 b.1) (fun _ _ _ _ => rfl), List.pairwise_map]
  exact List.pairwise_mergeSort (le := fun a b : α => leD a.1 b.1) (fun a b c h1 h2 => leD_trans a.2 b.2 c.2 h1 h2) (fun a b => leD_total a.2 b.2) _
theorem sortD_perm (xs : List D) : (sortD xs).Perm xs := List.mergeSort_perm _ _
theorem sortD_mem {x : D} {xs : List D} : x ∈ sortD xs ↔ x ∈ xs := (sortD_perm xs).mem_iff
theorem sortD_len (xs : List D) : (sortD xs).length = xs.length := (sortD_perm xs).length_eq
theorem sortD_eq {s : Sh} {xs ys : List D} (h : ∀ x ∈ xs, x.hs s = true) (p : xs.Perm ys) : sortD xs = sortD ys := by
  have hy : ∀ y ∈ ys, y.hs s = true := fun y hy => h y (p.mem_iff.mpr hy)
  refine List.Perm.eq_of_pairwise (le := fun a b => leD a b = true) (fun a b ha hb h1 h2 => leD_anti (h a (sortD_mem.mp ha)) (hy b (sortD_mem.mp hb)) h1 h2) (sortD_pw h) (sortD_pw hy) ?_
  exact (sortD_perm xs).trans (p.trans (sortD_perm ys).symm)
theorem sortD_of_pw {xs : List D} (h : xs.Pairwise (fun a b => leD a b = true)) : sortD xs = xs := List.mergeSort_of_pairwise h
theorem sortD_idem {s : Sh} {xs : List D} (h : ∀ x ∈ xs, x.hs s = true) : sortD (sortD xs) = sortD xs := sortD_of_pw (sortD_pw h)
/-- a sorted permutation is the sorted list -/
theorem sortD_uniq {s : Sh} {xs ys : List D} (h : ∀ x ∈ xs, x.hs s = true) (p : xs.Perm ys) (q : ys.Pairwise fun a b => leD a b = true) : sortD xs = ys := by
  rw [sortD_eq h p, sortD_of_pw q]
/-! ### what sorted takes -/
mutual
theorem alike_hs : ∀ (a : D) (b : D) (s : Sh), a.hs s = true → b.hs s = true → D.alike a b = true
  | .int i, b, s, h1, h2 => by
    cases s <;> simp [D.hs] at h1
    cases b <;> simp [D.hs] at h2
    simp [D.alike]
  | .str i, b, s, h1, h2 => by
    cases s <;> simp [D.hs] at h1
    cases b <;> simp [D.hs] at h2
    simp [D.alike]
  | .tup xs, b, s, h1, h2 => by
    cases s <;> simp [D.hs] at h1
    rename_i ss
    cases b <;> simp [D.hs] at h2
    rename_i ys
    simp [D.alike, alikes_hs xs ys ss h1 h2]
  | .non, b, s, h1, h2 => by simp [D.hs] at h1
  | .bl _, b, s, h1, h2 => by simp [D.hs] at h1
  | .lst _, b, s, h1, h2 => by simp [D.hs] at h1
  | .scr _, b, s, h1, h2 => by simp [D.hs] at h1
  | .dct _ _, b, s, h1, h2 => by simp [D.hs] at h1
  | .exn _ _ _, b, s, h1, h2 => by simp [D.hs] at h1
  | .fnc _, b, s, h1, h2 => by simp [D.hs] at h1
theorem alikes_hs : ∀ (a : List D) (b : List D) (s : List Sh), D.hss a s = true → D.hss b s = true → D.alikes a b = true
  | [], b, s, h1, h2 => by simp [D.alikes]
  | x :: xs, b, s, h1, h2 => by
    cases s <;> simp [D.hss] at h1
    rename_i s ss
    cases b <;> simp [D.hss] at h2
    rename_i y ys
    simp [D.alikes, alike_hs x y s h1.1 h2.1, alikes_hs xs ys ss h1.2 h2.2]
end
/-- tuples, not empty, of one shape -/
theorem srtOk_tup {ss : List Sh} {xs : List D} (hn : ss ≠ []) (h : ∀ x ∈ xs, x.hs (.t ss) = true) (ok : ∀ x ∈ xs, x.okd 60 = true) : srtOk xs = true := by
  have h1 : xs.all (fun x => x.okd DEEP) = true := by
    rw [List.all_eq_true]
    exact ok
  have h2 : alikeAll xs = true := by
    unfold alikeAll
    rw [List.all_eq_true]
    intro x hx
    rw [List.all_eq_true]
    intro y hy
    exact alike_hs x y _ (h x hx) (h y hy)
  have h3 : xs.all tupNE = true := by
    rw [List.all_eq_true]
    intro x hx
    have q := h x hx
    cases x <;> simp [D.hs] at q
    rename_i ys
    cases ys with
    | nil => cases ss with
      | nil => exact absurd rfl hn
      | cons s ss => simp [D.hss] at q
    | cons y ys => rfl
  unfold srtOk
  rw [h1, h2, h3]; rfl
theorem intsD_tup {ss : List Sh} {xs : List D} (h : ∀ x ∈ xs, x.hs (.t ss) = true) : intsD xs = if xs = [] then some [] else none := by
  cases xs with
  | nil => rfl
  | cons x xs =>
    have q := h x List.mem_cons_self
    cases x <;> simp [D.hs] at q
    simp [intsD]
theorem blt_sorted_tups {ss : List Sh} {xs : List D} (hn : ss ≠ []) (h : ∀ x ∈ xs, x.hs (.t ss) = true) (ok : ∀ x ∈ xs, x.okd 60 = true) : blt .sorted [.lst xs] = some (.fr (.lst (sortD xs))) := by
  rw [blt_sorted, intsD_tup h, srtOk_tup hn h ok]
  cases xs with
  | nil => simp [sortD, sortI]
  | cons x xs => simp
theorem blt_sorted_tupt {ss : List Sh} {xs : List D} (hn : ss ≠ []) (h : ∀ x ∈ xs, x.hs (.t ss) = true) (ok : ∀ x ∈ xs, x.okd 60 = true) : blt .sorted [.tup xs] = some (.fr (.lst (sortD xs))) := by
  rw [blt_sorted_tup, srtOk_tup hn h ok]
  rfl
end MI

namespace MI
/-! ### the laws' drawn numbers -/
def numsGo (g : Int → Int → Int) (z' : Int → Int) : Nat → Nat → Int → Int → List Int
  | 0, _, _, _ => []
  | m + 1, k, x, z => g ((x * (x % 65521 + 40487) + 7 * (k : Nat) + 5) % 1999999973) z :: numsGo g z' m (k + 1) ((x * (x % 65521 + 40487) + 7 * (k : Nat) + 5) % 1999999973) (z' z)
def seed (c : Int) : Int := (c % 1999999973 + 31) * 765432101 % 1999999973
def rest (c : Int) : Int := if c < 0 ∨ 1000000000000000000 ≤ c then (c.natAbs : Int) else 0
def numG (y z : Int) : Int := if 0 < z then z % 1000000 else y
def numsOf (c : Int) (m : Nat) : List Int := numsGo numG (fun z => z / 1000000) m 0 (seed c) (rest c)
def digG (b y z : Int) : Int := (if 0 < z then z else y / 64) % b
def digsOf (c : Int) (m : Nat) (b : Int) : List Int := numsGo (digG b) (fun z => z / b) m 0 (seed c) (rest c)
theorem numsGo_len (g : Int → Int → Int) (z' : Int → Int) : ∀ (m k : Nat) (x z : Int), (numsGo g z' m k x z).length = m
  | 0, _, _, _ => rfl
  | m + 1, k, x, z => by simp [numsGo, numsGo_len g z' m]
theorem numsGo_all {g : Int → Int → Int} {z' : Int → Int} {P : Int → Prop} (h : ∀ y z, 0 ≤ y → y < 1999999973 → P (g y z)) : ∀ (m k : Nat) (x z : Int), ∀ d ∈ numsGo g z' m k x z, P d
  | 0, _, _, _, d, hd => by simp [numsGo] at hd
  | m + 1, k, x, z, d, hd => by
    rw [numsGo, List.mem_cons] at hd
    rcases hd with rfl | hd
    · exact h _ _ (Int.emod_nonneg _ (by decide)) (Int.emod_lt_of_pos _ (by decide))
    · exact numsGo_all h m _ _ _ d hd
theorem numsOf_len (c : Int) (m : Nat) : (numsOf c m).length = m := numsGo_len _ _ _ _ _ _
theorem digsOf_len (c : Int) (m : Nat) (b : Int) : (digsOf c m b).length = m := numsGo_len _ _ _ _ _ _
theorem numsOf_ok (c : Int) (m : Nat) : ∀ d ∈ numsOf c m, 0 ≤ d ∧ d < 1999999973 := numsGo_all (fun y z h1 h2 => by
  unfold numG
  split
  · constructor
    · exact Int.emod_nonneg _ (by decide)
    · have := Int.emod_lt_of_pos z (show (0 : Int) < 1000000 by decide); omega
  · exact ⟨h1, h2⟩) _ _ _ _
theorem digsOf_ok (c : Int) (m : Nat) {b : Int} (hb : 0 < b) : ∀ d ∈ digsOf c m b, 0 ≤ d ∧ d < b := numsGo_all (P := fun d => 0 ≤ d ∧ d < b) (fun y z h1 h2 => ⟨Int.emod_nonneg _ (by omega), Int.emod_lt_of_pos _ hb⟩) _ _ _ _
theorem seed_lo (c : Int) : 0 ≤ seed c := Int.emod_nonneg _ (by decide)
theorem seed_hi (c : Int) : seed c < 1999999973 := Int.emod_lt_of_pos _ (by decide)
theorem rest_lo (c : Int) : 0 ≤ rest c := by unfold rest; split <;> omega
theorem range_map_eq (m : Nat) (f : Nat → D) : (List.range m).map f = (List.range' 0 m).map f := by rw [List.range_eq_range']
/-- the k-th of the numbers -/
def nth (xs : List Int) (k : Nat) : Int := xs.getD k 0
theorem nth_ok {c : Int} {m k : Nat} : 0 ≤ nth (numsOf c m) k ∧ nth (numsOf c m) k < 1999999973 := by
  unfold nth
  rw [List.getD_eq_getElem?_getD]
  cases h : (numsOf c m)[k]? with
  | none => simp
  | some d => exact numsOf_ok c m d (List.mem_of_getElem? h)
theorem at_nums (c : Int) (m k : Nat) (h : k < m) : atI ((numsOf c m).map D.int) (k : Int) = some (.int (nth (numsOf c m) k)) := by
  rw [at_nat _ k (by rw [List.length_map, numsOf_len]; exact h), List.getElem?_map]
  unfold nth
  rw [List.getD_eq_getElem?_getD, List.getElem?_eq_getElem (by rw [numsOf_len]; exact h)]
  rfl
theorem nums_list (c : Int) : ∀ (m : Nat) (xs : List Int), xs.length = m → ∃ f : Nat → Int, xs = (List.range m).map f := fun m xs h => ⟨fun k => xs.getD k 0, by
  apply List.ext_getElem
  · simp [h]
  · intro i h1 h2
    simp [List.getD_eq_getElem?_getD, List.getElem?_eq_getElem h1]⟩
/-- one of a whole list by a remainder -/
theorem pick_emod {α : Type} (xs : List α) (i : Int) (n : Nat) (hn : 0 < n) (hl : xs.length = n) : ∃ x, atI xs (i % (n : Int)) = some x ∧ x ∈ xs := by
  have h1 : 0 ≤ i % (n : Int) := Int.emod_nonneg _ (by omega)
  have h2 : i % (n : Int) < n := Int.emod_lt_of_pos _ (by omega)
  obtain ⟨k, hk⟩ : ∃ k : Nat, i % (n : Int) = k := ⟨(i % (n : Int)).toNat, by omega⟩
  rw [hk, at_nat _ k (by omega)]
  have hk2 : k < xs.length := by omega
  exact ⟨xs[k], List.getElem?_eq_getElem hk2, List.getElem_mem hk2⟩
end MI
namespace MI
/-- the laws' drawn parts of points -/
def partQ (size one other most : Int) : Rat := Rat.divInt (one / 1000 % size * (2 + one % (most - 1)) + 1 + other % (2 + one % (most - 1) - 1)) (2 + one % (most - 1))
theorem div_lt_of {t b s : Int} (hb : 0 < b) : Rat.divInt t b < (s : Rat) ↔ t < s * b := by
  rw [Rat.divInt_eq_div, Rat.div_lt_iff (by exact Rat.intCast_pos.mpr hb), ← Rat.intCast_mul, Rat.intCast_lt_intCast]
theorem lt_div_of {t b s : Int} (hb : 0 < b) : (s : Rat) < Rat.divInt t b ↔ s * b < t := by
  rw [Rat.divInt_eq_div, Rat.lt_div_iff (by exact Rat.intCast_pos.mpr hb), ← Rat.intCast_mul, Rat.intCast_lt_intCast]
/-- a whole number and a proper part -/
theorem part_form (size one other most : Int) (h1 : 0 < size) (h2 : 1 < most) : ∃ (w t b : Int), partQ size one other most = Rat.divInt (w * b + t) b ∧ 0 ≤ w ∧ w < size ∧ 0 < t ∧ t < b ∧ 2 ≤ b ∧ b ≤ most := by
  have b0 : 0 ≤ one % (most - 1) := Int.emod_nonneg _ (by omega)
  have b1 : one % (most - 1) < most - 1 := Int.emod_lt_of_pos _ (by omega)
  have w0 : 0 ≤ one / 1000 % size := Int.emod_nonneg _ (by omega)
  have w1 : one / 1000 % size < size := Int.emod_lt_of_pos _ h1
  have t0 : 0 ≤ other % (2 + one % (most - 1) - 1) := Int.emod_nonneg _ (by omega)
  have t1 : other % (2 + one % (most - 1) - 1) < 2 + one % (most - 1) - 1 := Int.emod_lt_of_pos _ (by omega)
  refine ⟨one / 1000 % size, 1 + other % (2 + one % (most - 1) - 1), 2 + one % (most - 1), ?_, w0, w1, by omega, by omega, by omega, by omega⟩
  unfold partQ
  rw [Int.add_assoc]
theorem part_den {w t b : Int} (h1 : 0 < t) (h2 : t < b) : (Rat.divInt (w * b + t) b).den ≠ 1 := by
  intro h
  have e : Rat.divInt (w * b + t) b = ((Rat.divInt (w * b + t) b).num : Rat) := Rat.ext rfl h
  generalize (Rat.divInt (w * b + t) b).num = n at e
  have a1 : (w : Rat) < Rat.divInt (w * b + t) b := (lt_div_of (by omega)).mpr (by omega)
  have a2 : Rat.divInt (w * b + t) b < ((w + 1 : Int) : Rat) := (div_lt_of (by omega)).mpr (by rw [Int.add_mul]; omega)
  rw [e, Rat.intCast_lt_intCast] at a1 a2
  omega
/-- within a floor, not whole -/
structure InQ (size : Int) (q : Rat) : Prop where
  lo : 0 < q
  hi : q < (size : Rat)
  den : q.den ≠ 1
theorem part_in {size one other most : Int} (h1 : 0 < size) (h2 : 1 < most) : InQ size (partQ size one other most) := by
  obtain ⟨w, t, b, e, w0, w1, t0, t1, b2, bm⟩ := part_form size one other most h1 h2
  rw [e]
  have wb : 0 ≤ w * b := Int.mul_nonneg w0 (by omega)
  have wb2 : (w + 1) * b ≤ size * b := Int.mul_le_mul_of_nonneg_right (by omega) (by omega)
  rw [Int.add_mul] at wb2
  refine ⟨?_, (div_lt_of (by omega)).mpr (by omega), part_den t0 t1⟩
  have := (lt_div_of (t := w * b + t) (s := 0) (by omega : 0 < b)).mpr (by omega)
  exact this
theorem part_sm {size one other most : Int} (h1 : 0 < size) (h2 : 1 < most) (h3 : size ≤ 1000) (h4 : most ≤ 1000) : Sm 21 (partQ size one other most) := by
  obtain ⟨w, t, b, e, w0, w1, t0, t1, b2, bm⟩ := part_form size one other most h1 h2
  rw [e]
  have wb : 0 ≤ w * b := Int.mul_nonneg w0 (by omega)
  have wb2 : w * b ≤ 1000 * 1000 := Int.mul_le_mul (by omega) (by omega) (by omega) (by omega)
  exact Sm_divInt (by omega) (by omega) (by omega)
theorem part_den_le {size one other most : Int} (h1 : 0 < size) (h2 : 1 < most) : ((partQ size one other most).den : Int) ≤ most := by
  obtain ⟨w, t, b, e, w0, w1, t0, t1, b2, bm⟩ := part_form size one other most h1 h2
  rw [e, Rat.den_divInt, if_neg (by omega)]
  have := Nat.div_le_self b.natAbs (b.gcd (w * b + t))
  omega
end MI

namespace MI
/-! ### halls -/
def kS (b : Bool) : List Nat := if b = true then [102, 108, 97, 116] else [117, 112]
theorem kS_ok (b : Bool) : (kS b).all (fun c => decide (c < 1114112)) = true := by cases b <;> rfl
theorem kS_ok' (b : Bool) : ∀ x ∈ kS b, x < 1114112 := by cases b <;> decide
theorem kS_inj (a b : Bool) : kS a = kS b ↔ a = b := by cases a <;> cases b <;> decide
theorem kS_flat (b : Bool) : (kS b = [102, 108, 97, 116]) ↔ b = true := by cases b <;> decide
theorem kS_up (b : Bool) : (kS b = [117, 112]) ↔ b = false := by cases b <;> decide
/-- an edge: whether it is flat, its point -/
abbrev Ed := Bool × Int × Int
def eD (e : Ed) : D := .tup [.str (kS e.1), .int e.2.1, .int e.2.2]
def ups (n H : Nat) : List Ed := (List.range n).flatMap fun x => (List.range H).map fun (y : Nat) => (false, ((x : Nat) : Int), (y : Int))
def flats (n W : Nat) : List Ed := (List.range n).flatMap fun y => (List.range W).map fun (x : Nat) => (true, (x : Int), ((y : Nat) : Int))
theorem ups_succ (n H : Nat) : ups (n + 1) H = ups n H ++ (List.range H).map (fun (y : Nat) => (false, (n : Int), (y : Int))) := by simp [ups, List.range_succ]
theorem flats_succ (n H : Nat) : flats (n + 1) H = flats n H ++ (List.range H).map (fun (x : Nat) => (true, (x : Int), (n : Int))) := by simp [flats, List.range_succ]
def edges (W H : Nat) : List Ed := ups (W + 1) H ++ flats (H + 1) W
theorem ups_len (n H : Nat) : (ups n H).length = n * H := by
  induction n with
  | zero => simp [ups]
  | succ n ih => rw [ups_succ, List.length_append, ih, List.length_map, List.length_range, Nat.succ_mul]
theorem flats_len (n H : Nat) : (flats n H).length = n * H := by
  induction n with
  | zero => simp [flats]
  | succ n ih => rw [flats_succ, List.length_append, ih, List.length_map, List.length_range, Nat.succ_mul]
theorem edges_len (W H : Nat) (hW : W ≤ 8) (hH : H ≤ 8) : (edges W H).length ≤ 144 := by
  unfold edges
  rw [List.length_append, ups_len, flats_len]
  have h1 : (W + 1) * H ≤ 9 * 8 := Nat.mul_le_mul (by omega) hH
  have h2 : (H + 1) * W ≤ 9 * 8 := Nat.mul_le_mul (by omega) hW
  omega
theorem mem_edges (W H : Nat) (k : Bool) (x y : Int) : (k, x, y) ∈ edges W H ↔ (k = false ∧ 0 ≤ x ∧ x ≤ W ∧ 0 ≤ y ∧ y < H) ∨ (k = true ∧ 0 ≤ x ∧ x < W ∧ 0 ≤ y ∧ y ≤ H) := by
  unfold edges ups flats
  simp only [List.mem_append, List.mem_flatMap, List.mem_map, List.mem_range]
  constructor
  · rintro (⟨a, ha, b, hb, e⟩ | ⟨a, ha, b, hb, e⟩)
    · cases e; left; refine ⟨rfl, ?_⟩; omega
    · cases e; right; refine ⟨rfl, ?_⟩; omega
  · rintro (⟨rfl, h1, h2, h3, h4⟩ | ⟨rfl, h1, h2, h3, h4⟩)
    · left; refine ⟨x.toNat, by omega, y.toNat, by omega, ?_⟩
      rw [Int.toNat_of_nonneg h1, Int.toNat_of_nonneg h3]
    · right; refine ⟨y.toNat, by omega, x.toNat, by omega, ?_⟩
      rw [Int.toNat_of_nonneg h1, Int.toNat_of_nonneg h3]
/-- a side: its edge, both faces -/
abbrev Sd := Ed × List Nat × List Nat
def sD (s : Sd) : D := .tup [.str (kS s.1.1), .int s.1.2.1, .int s.1.2.2, .str s.2.1, .str s.2.2]
abbrev cP : List Nat := [112]
abbrev cM : List Nat := [109]
def PM (a : List Nat) : Prop := a = cM ∨ a = cP
instance (a : List Nat) : Decidable (PM a) := by unfold PM; infer_instance
theorem PM.ok' {a : List Nat} (h : PM a) : ∀ x ∈ a, x < 1114112 := by rcases h with rfl | rfl <;> decide
theorem PM.ok {a : List Nat} (h : PM a) : a.all (fun c => decide (c < 1114112)) = true := by rcases h with rfl | rfl <;> decide
abbrev shE : Sh := .t [.s, .i, .i]
abbrev shS : Sh := .t [.s, .i, .i, .s, .s]
theorem hs_eD (e : Ed) : (eD e).hs shE = true := by simp [eD, D.hs, D.hss]
theorem hs_sD (s : Sd) : (sD s).hs shS = true := by simp [sD, D.hs, D.hss]
theorem hs_sDs {ss : List Sd} : ∀ x ∈ ss.map sD, x.hs shS = true := fun x hx => by
  obtain ⟨s, _, rfl⟩ := List.mem_map.mp hx
  exact hs_sD s
theorem okd_eD (e : Ed) (n : Nat) : (eD e).okd (n + 1) = true := by
  unfold eD
  simp
  exact kS_ok' _
theorem okd_sD {s : Sd} (h1 : PM s.2.1) (h2 : PM s.2.2) (n : Nat) : (sD s).okd (n + 1) = true := by
  unfold sD
  simp
  exact ⟨kS_ok' _, h1.ok', h2.ok'⟩
theorem eD_inj {a b : Ed} : eD a = eD b ↔ a = b := by
  constructor
  · intro h
    obtain ⟨a1, a2, a3⟩ := a
    obtain ⟨b1, b2, b3⟩ := b
    simp [eD, kS_inj] at h
    obtain ⟨rfl, rfl, rfl⟩ := h
    rfl
  · intro h; rw [h]
theorem sD_inj {a b : Sd} : sD a = sD b ↔ a = b := by
  constructor
  · intro h
    obtain ⟨⟨a1, a2, a3⟩, a4, a5⟩ := a
    obtain ⟨⟨b1, b2, b3⟩, b4, b5⟩ := b
    simp [sD, kS_inj] at h
    obtain ⟨rfl, rfl, rfl, rfl, rfl⟩ := h
    rfl
  · intro h; rw [h]
@[simp] theorem eqv_eD (a b : Ed) : D.eqv (eD a) (eD b) = decide (a = b) := by
  have h := eqv_hs (eD a) (eD b) shE (hs_eD a) (hs_eD b)
  rw [eD_inj] at h
  cases e : D.eqv (eD a) (eD b)
  · rw [e] at h; simp at h; simp [h]
  · rw [e] at h; simp at h; simp [h]
@[simp] theorem eqv_sD (a b : Sd) : D.eqv (sD a) (sD b) = decide (a = b) := by
  have h := eqv_hs (sD a) (sD b) shS (hs_sD a) (hs_sD b)
  rw [sD_inj] at h
  cases e : D.eqv (sD a) (sD b)
  · rw [e] at h; simp at h; simp [h]
  · rw [e] at h; simp at h; simp [h]
theorem eqvs_map {α : Type} [DecidableEq α] (f : α → D) (h : ∀ a b, D.eqv (f a) (f b) = decide (a = b)) : ∀ xs ys : List α, D.eqvs (xs.map f) (ys.map f) = decide (xs = ys)
  | [], [] => by simp
  | [], y :: ys => by simp
  | x :: xs, [] => by simp
  | x :: xs, y :: ys => by
    rw [List.map_cons, List.map_cons, eqvs_cc, eqvs_map f h xs ys, h, ← Bool.decide_and]
    simp
theorem memD_iff {α : Type} [DecidableEq α] (f : α → D) (h : ∀ a b, D.eqv (f a) (f b) = decide (a = b)) (x : α) (xs : List α) : memD (f x) (xs.map f) = true ↔ x ∈ xs := by
  unfold memD
  induction xs with
  | nil => simp
  | cons y ys ih =>
    rw [List.map_cons, List.any_cons, Bool.or_eq_true, ih, h, decide_eq_true_iff, List.mem_cons]
    constructor
    · rintro (h | h)
      · exact .inl h.symm
      · exact .inr h
    · rintro (h | h)
      · exact .inl h.symm
      · exact .inr h
theorem bool_dec {b : Bool} {p : Prop} [Decidable p] (h : b = true ↔ p) : b = decide p := by
  cases b
  · simp at h; simp [h]
  · simp at h; simp [h]
theorem memD_map {α : Type} [DecidableEq α] (f : α → D) (h : ∀ a b, D.eqv (f a) (f b) = decide (a = b)) (x : α) (xs : List α) [Decidable (x ∈ xs)] : memD (f x) (xs.map f) = decide (x ∈ xs) := bool_dec (memD_iff f h x xs)
theorem okds_map {α : Type} (f : α → D) (n : Nat) : ∀ (xs : List α), (∀ x ∈ xs, (f x).okd n = true) → D.okds (xs.map f) n = true
  | [], _ => by simp
  | x :: xs, h => by
    rw [List.map_cons, okds_cons, h x List.mem_cons_self, okds_map f n xs fun y hy => h y (List.mem_cons_of_mem _ hy)]
    rfl
/-- sides sorted -/
def sortS (ss : List Sd) : List Sd := ss.mergeSort fun a b => leD (sD a) (sD b)
theorem sortS_map (ss : List Sd) : sortD (ss.map sD) = (sortS ss).map sD := by
  unfold sortS sortD
  rw [List.map_mergeSort (s := leD) fun _ _ _ _ => rfl]
theorem sortS_perm (ss : List Sd) : (sortS ss).Perm ss := List.mergeSort_perm _ _
theorem sortS_mem {s : Sd} {ss : List Sd} : s ∈ sortS ss ↔ s ∈ ss := (sortS_perm ss).mem_iff
theorem sortS_len (ss : List Sd) : (sortS ss).length = ss.length := (sortS_perm ss).length_eq
theorem map_sD_inj {a b : List Sd} (h : a.map sD = b.map sD) : a = b := by
  have : Function.Injective sD := fun x y h => sD_inj.mp h
  exact List.map_inj_right (fun _ _ h => this h) |>.mp h
theorem sortS_eq {a b : List Sd} (p : a.Perm b) : sortS a = sortS b := by
  apply map_sD_inj
  rw [← sortS_map, ← sortS_map]
  exact sortD_eq hs_sDs (p.map _)
theorem sortS_idem (a : List Sd) : sortS (sortS a) = sortS a := sortS_eq (sortS_perm a)
theorem sortS_rev (a : List Sd) : sortS a.reverse = sortS a := sortS_eq (List.reverse_perm a)
def rim (W H : Int) (e : Ed) : Prop := if e.1 = true then e.2.2 = 0 ∨ e.2.2 = H else e.2.1 = 0 ∨ e.2.1 = W
instance (W H : Int) (e : Ed) : Decidable (rim W H e) := by unfold rim; infer_instance
/-- the faces that look out are plain -/
def outP (W H : Int) (s : Sd) : Prop := if s.1.1 = true then (0 < s.1.2.2 ∨ s.2.1 = cP) ∧ (s.1.2.2 < H ∨ s.2.2 = cP) else (0 < s.1.2.1 ∨ s.2.1 = cP) ∧ (s.1.2.1 < W ∨ s.2.2 = cP)
instance (W H : Int) (s : Sd) : Decidable (outP W H s) := by unfold outP; infer_instance
/-- a side that may stand in a floor -/
structure OkS (W H : Nat) (s : Sd) : Prop where
  e : s.1 ∈ edges W H
  a : PM s.2.1
  b : PM s.2.2
  o : outP W H s
/-- a good hall -/
structure GH (W H : Nat) (ss : List Sd) : Prop where
  w1 : 1 ≤ W
  w8 : W ≤ 8
  h1 : 1 ≤ H
  h8 : H ≤ 8
  s : ∀ s ∈ ss, OkS W H s
  nd : (ss.map (·.1)).Nodup
def okSB (W H : Nat) (s : Sd) : Bool := decide (s.1 ∈ edges W H) && decide (PM s.2.1) && decide (PM s.2.2) && decide (outP W H s)
theorem OkS.of {W H : Nat} {s : Sd} (h : okSB W H s = true) : OkS W H s := by
  unfold okSB at h
  simp only [Bool.and_eq_true, decide_eq_true_eq] at h
  exact ⟨h.1.1.1, h.1.1.2, h.1.2, h.2⟩
/-- the whole list is no longer than the edges -/
theorem nodup_le {α : Type} [DecidableEq α] : ∀ {xs ys : List α}, xs.Nodup → (∀ x ∈ xs, x ∈ ys) → xs.length ≤ ys.length
  | [], _, _, _ => Nat.zero_le _
  | x :: xs, ys, h, m => by
    have hx := m x List.mem_cons_self
    have := nodup_le (xs := xs) (ys := ys.erase x) (List.nodup_cons.mp h).2 (fun z hz => by
      have hne : z ≠ x := fun e => (List.nodup_cons.mp h).1 (e ▸ hz)
      exact (List.mem_erase_of_ne hne).mpr (m z (List.mem_cons_of_mem _ hz)))
    rw [List.length_erase_of_mem hx] at this
    have hp := List.length_pos_of_mem hx
    rw [List.length_cons]; omega
theorem GH.len {W H : Nat} {ss : List Sd} (g : GH W H ss) : ss.length ≤ 144 := by
  have := nodup_le g.nd (ys := edges W H) (fun e he => by
    obtain ⟨s, hs, rfl⟩ := List.mem_map.mp he
    exact (g.s s hs).e)
  rw [List.length_map] at this
  have := edges_len W H g.w8 g.h8
  omega
theorem GH.perm {W H : Nat} {a b : List Sd} (g : GH W H a) (p : a.Perm b) : GH W H b :=
  ⟨g.w1, g.w8, g.h1, g.h8, fun s hs => g.s s (p.mem_iff.mpr hs), (p.map _).nodup_iff.mp g.nd⟩
theorem GH.okd {W H : Nat} {ss : List Sd} (g : GH W H ss) (n : Nat) : ∀ x ∈ ss.map sD, x.okd (n + 1) = true := fun x hx => by
  obtain ⟨s, hs, rfl⟩ := List.mem_map.mp hx
  exact okd_sD (g.s s hs).a (g.s s hs).b n
def hallD (W H : Nat) (ss : List Sd) : D := .tup [.int W, .int H, .tup (ss.map sD)]
theorem cut_03 (a b c d e : D) : cutD [a, b, c, d, e] none (some 3) = [a, b, c] := rfl
theorem cut_35 (a b c d e : D) : cutD [a, b, c, d, e] (some 3) none = [d, e] := rfl
theorem eD_tup (s : Sd) : D.tup [.str (kS s.1.1), .int s.1.2.1, .int s.1.2.2] = eD s.1 := rfl
theorem bools_mp {α : Type} (f : α → Bool) (xs : List α) : bools (xs.map fun x => D.bl (f x)) = some (xs.map f) := by
  induction xs with
  | nil => rfl
  | cons x xs ih => rw [List.map_cons, bools_cons, ih]; rfl
/-! ### more of halls -/
theorem loopC_on {α : Type} {vs : List Nat} {t : Tg} {c e : E} {r : List Slot} {S : Store} (g : α → D) (f : α → Option D) : ∀ (xs : List α), (∀ a ∈ xs, ((asg t (.sh (g a)) ⟨wipeR vs r, S⟩).bind fun _ s2 => (ev c s2).dat (condC vs e)) = .ok (f a) ⟨r, S⟩) → loopC vs t c e (xs.map g) ⟨r, S⟩ = .ok (xs.filterMap f) ⟨r, S⟩
  | [], _ => by simp
  | a :: xs, h => by
    rw [List.map_cons, loopC_cons, h a List.mem_cons_self, nextC_ok, loopC_on g f xs fun y hy => h y (List.mem_cons_of_mem _ hy), List.filterMap_cons]
    cases f a <;> rfl
theorem loopC_to {α : Type} {vs : List Nat} {t : Tg} {c e : E} {r : List Slot} {S : Store} (g : α → D) (f : α → D) (xs : List α) (h : ∀ a ∈ xs, ((asg t (.sh (g a)) ⟨wipeR vs r, S⟩).bind fun _ s2 => (ev c s2).dat (condC vs e)) = .ok (some (f a)) ⟨r, S⟩) : loopC vs t c e (xs.map g) ⟨r, S⟩ = .ok (xs.map f) ⟨r, S⟩ := by
  rw [loopC_on g (fun a => some (f a)) xs h, List.filterMap_eq_map']
theorem hallD_okd {W H : Nat} {ss : List Sd} (g : GH W H ss) : (hallD W H ss).okd 60 = true := by
  unfold hallD
  rw [okd_tup, okds_cons, okds_cons, okds_cons, okd_int, okd_int, okds_nil, okd_tup, okds_map sD 58 ss fun s hs => g.okd 57 _ (List.mem_map_of_mem hs)]
  rfl
theorem hallD_refl {W H : Nat} {ss : List Sd} (g : GH W H ss) : cmpop .eq (hallD W H ss) (hallD W H ss) = some true ∧ cmpop .ne (hallD W H ss) (hallD W H ss) = some false := by
  have e : D.eqv (hallD W H ss) (hallD W H ss) = true := by
    unfold hallD
    simp [eqvs_map sD eqv_sD]
  rw [cmp_eq, cmp_ne, DEEP_def, hallD_okd g, e]
  exact ⟨rfl, rfl⟩
theorem pts_refl (ps : List Pt) : cmpop .eq (.lst (ps.map pQ)) (.lst (ps.map pQ)) = some true := by
  rw [cmp_eq, DEEP_def, okd_lst, okds_map pQ 59 ps fun p _ => okd_pQ p 57, eqv_lst_lst, eqvs_map pQ eqv_pQ]
  simp
end MI

namespace MI
/-! ### the box -/
def boxU (W H : Nat) : List Sd := (List.range H).flatMap fun (y : Nat) => [((false, 0, (y : Int)), cP, cM), ((false, (W : Int), (y : Int)), cM, cP)]
def boxF (W H : Nat) : List Sd := (List.range W).flatMap fun (x : Nat) => [((true, (x : Int), 0), cP, cM), ((true, (x : Int), (H : Int)), cM, cP)]
def boxS (W H : Nat) : List Sd := boxU W H ++ boxF W H
def rimF (W H : Nat) (e : Ed) : Option Sd := if (if e.1 = true then e.2.2 else e.2.1) = 0 then some (e, cP, cM) else if (if e.1 = true then e.2.2 else e.2.1) = (if e.1 = true then (H : Int) else W) then some (e, cM, cP) else none
def rimS (W H : Nat) : List Sd := (edges W H).filterMap (rimF W H)
def boxOk (W H : Nat) : Bool := (boxS W H).all (okSB W H) && decide ((boxS W H).map (·.1)).Nodup && (boxS W H).isPerm (rimS W H)
theorem boxOk_all : ∀ W ∈ List.range 9, ∀ H ∈ List.range 9, 1 ≤ W → 1 ≤ H → boxOk W H = true := by decide +kernel
theorem box_ok {W H : Nat} (w1 : 1 ≤ W) (w8 : W ≤ 8) (h1 : 1 ≤ H) (h8 : H ≤ 8) : GH W H (boxS W H) ∧ (boxS W H).Perm (rimS W H) := by
  have h := boxOk_all W (List.mem_range.mpr (by omega)) H (List.mem_range.mpr (by omega)) w1 h1
  unfold boxOk at h
  simp only [Bool.and_eq_true, decide_eq_true_eq, List.all_eq_true] at h
  exact ⟨⟨w1, w8, h1, h8, fun s hs => .of (h.1.1 s hs), h.1.2⟩, List.isPerm_iff.mp h.2⟩
theorem boxU_succ (W H : Nat) : boxU W (H + 1) = boxU W H ++ [((false, 0, (H : Int)), cP, cM), ((false, (W : Int), (H : Int)), cM, cP)] := by simp [boxU, List.range_succ]
theorem boxF_succ (W H : Nat) : boxF (W + 1) H = boxF W H ++ [((true, (W : Int), 0), cP, cM), ((true, (W : Int), (H : Int)), cM, cP)] := by simp [boxF, List.range_succ]
theorem boxU_len (W H : Nat) : (boxU W H).length = 2 * H := by
  induction H with
  | zero => simp [boxU]
  | succ n ih => rw [boxU_succ, List.length_append, ih]; simp; omega
theorem boxF_len (W H : Nat) : (boxF W H).length = 2 * W := by
  induction W with
  | zero => simp [boxF]
  | succ n ih => rw [boxF_succ, List.length_append, ih]; simp; omega
/-! ### folding out -/
def foldQ (size : Int) (q : Rat) (cell : Int) : Rat := (if cell % 2 = 1 then (size : Rat) - q else q) + ((cell * size : Int) : Rat)
theorem add_int_nd (q : Rat) (n : Int) : (q + (n : Rat)).num = q.num + n * q.den ∧ (q + (n : Rat)).den = q.den := by
  rw [add_divInt, Rat.num_intCast, Rat.den_intCast]
  have hb : (0 : Int) < q.den := den_pos' q
  have g : Int.gcd (q.den : Int) (q.num + n * q.den) = 1 := by
    rw [Int.gcd_add_mul_right_right]
    have := q.reduced
    unfold Nat.Coprime at this
    rw [Int.gcd_comm]
    exact this
  rw [Rat.num_divInt, Rat.den_divInt]
  simp only [Int.natCast_one, Int.mul_one]
  rw [g, Int.sign_eq_one_of_pos hb, if_neg (by omega)]
  simp
theorem fold_succ (s : Int) (q : Rat) (i : Int) : foldQ s q (i + 1) = ((2 * ((i + 1) * s) : Int) : Rat) - foldQ s q i := by
  unfold foldQ
  have e1 : ((2 * ((i + 1) * s) : Int) : Rat) = 2 * (((i : Rat) + 1) * (s : Rat)) := by simp [Rat.intCast_mul, Rat.intCast_add]
  have e2 : (((i + 1) * s : Int) : Rat) = ((i : Rat) + 1) * (s : Rat) := by simp [Rat.intCast_mul, Rat.intCast_add]
  have e3 : ((i * s : Int) : Rat) = (i : Rat) * (s : Rat) := by simp [Rat.intCast_mul]
  rw [e1, e2, e3]
  by_cases h : i % 2 = 1
  · have h2 : ¬ (i + 1) % 2 = 1 := by omega
    rw [if_pos h, if_neg h2]; grind
  · have h2 : (i + 1) % 2 = 1 := by omega
    rw [if_neg h, if_pos h2]; grind
theorem fold_zero (s : Int) (q : Rat) : foldQ s q 0 = q := by
  unfold foldQ
  rw [if_neg (by decide)]
  simp [Rat.add_zero]
theorem fold_in {s : Int} {q : Rat} (h : InQ s q) (i : Int) : ((i * s : Int) : Rat) < foldQ s q i ∧ foldQ s q i < (((i + 1) * s : Int) : Rat) := by
  unfold foldQ
  have e2 : (((i + 1) * s : Int) : Rat) = ((i * s : Int) : Rat) + (s : Rat) := by rw [← Rat.intCast_add]; congr 1; rw [Int.add_mul]; omega
  rw [e2]
  obtain ⟨h1, h2, h3⟩ := h
  generalize ((i * s : Int) : Rat) = m
  generalize (s : Rat) = t at *
  split <;> constructor <;> grind
theorem fold_sm {s : Int} {q : Rat} {k : Nat} (h : Sm k q) (hk : 20 ≤ k) (hs : s.natAbs ≤ 1000) {i : Int} (hi : i.natAbs ≤ 1000) : Sm (4 * k + 4) (foldQ s q i) := by
  unfold foldQ
  have z1 : Sm k (s : Rat) := Sm_int (by omega) (Nat.lt_of_lt_of_le (show s.natAbs < 2 ^ 20 by omega) (Nat.pow_le_pow_right (by decide) hk))
  have z2 : Sm (k + k + 1) ((i * s : Int) : Rat) := Sm_int (by omega) (by
    have : (i * s).natAbs < 2 ^ (10 + 10) := abs_mul_lt (k := 10) (l := 10) (by omega) (by omega)
    exact pow_up this (by omega))
  split
  · exact ((z1.sub h).add z2).mono (by omega)
  · exact ((h.mono (by omega : k ≤ k + k + 1)).add z2).mono (by omega)
end MI

namespace MI
/-! ### walks: the program's own way, folded out -/
structure Ax where
  s : Rat
  d : Rat
  c : Int
  w : Int
  l : Int
  e : Int
  h : Int
def Ax.obj (k : Nat) (a : Ax) : Inst := ⟨k, [(0, qD a.s), (1, qD a.d), (2, .int a.c), (3, .int a.w), (4, .int a.l), (5, .int a.e), (6, .int a.h)]⟩
def flr (q : Rat) : Int := q.num / (q.den : Int)
def shareQ (g d : Rat) : Rat := Rat.divInt ((g.num.natAbs : Int) * d.den) (g.den * (d.num.natAbs : Int))
def Ax.time (a : Ax) : Option Rat := if a.w = 0 then none else some (shareQ ((a.l : Rat) - a.s) a.d)
def oD : Option Rat → D
  | none => .non
  | some q => qD q
def Ax.place (a : Ax) : Int := a.e * a.l + a.h
def Ax.folded (a : Ax) (q : Rat) : Rat := (a.e : Rat) * q + (a.h : Rat)
def Ax.at (a : Ax) (t : Rat) : Rat := a.folded (a.s + t * a.d)
def Ax.gap (a : Ax) (n : Rat) : Rat := (a.e : Rat) * (n - (a.h : Rat)) - a.s
def Ax.heads (a : Ax) : Int := a.e * a.w
def Ax.goOn (a : Ax) : Ax := { a with c := a.c + a.heads, l := a.l + a.w }
def Ax.turn (a : Ax) : Ax := { a with h := 2 * a.place - a.h, e := 0 - a.e, l := a.l + a.w }
def Ax.new (s d : Rat) : Ax := ⟨s, d, flr s, d.num.sign, flr s + (if 0 < d.num.sign then 1 else 0), 1, 0⟩
def shareAt (x y : Ax) (p : Pt) : Option Rat :=
  if flr p.1 ≠ x.c ∨ flr p.2 ≠ y.c then none
  else if x.gap p.1 * y.d ≠ y.gap p.2 * x.d then none
  else if (if x.w = 0 then y.gap p.2 else x.gap p.1).num * (if x.w = 0 then y.d else x.d).num ≤ 0 then none
  else if shareQ (if x.w = 0 then y.gap p.2 else x.gap p.1) (if x.w = 0 then y.d else x.d) < 1 then some (shareQ (if x.w = 0 then y.gap p.2 else x.gap p.1) (if x.w = 0 then y.d else x.d)) else none
/-- whether a share comes ahead of the best one so far -/
def ltO (q : Rat) : Option Rat → Bool
  | none => true
  | some b => decide (q < b)
def nextP (x y : Ax) (b : Option Rat × Option Pt) (p : Pt) : Option Rat × Option Pt := match shareAt x y p with
  | some q => if ltO q b.1 = true then (some q, some p) else b
  | none => b
def firstP (x y : Ax) (ps : List Pt) : Option Pt := (ps.foldl (nextP x y) (none, none)).2
def soonerO : Option Rat → Option Rat → Bool
  | none, _ => false
  | some a, b => ltO a b
def withinQ (W H : Int) (e : Ed) : Bool := if e.1 = true then decide (0 < e.2.2) && decide (e.2.2 < H) else decide (0 < e.2.1) && decide (e.2.1 < W)
def facesQ (W H : Int) (ss : List Sd) (e : Ed) : Option (List Nat × List Nat) := match ss.find? (fun s => decide (s.1 = e)) with
  | some s => some s.2
  | none => if withinQ W H e = true then none else some (cP, cP)
def nearL (x y : Int) : List Ed := [(false, x, y), (false, x, y - 1), (true, x, y), (true, x - 1, y)]
def cornerQ (W H : Int) (ss : List Sd) (x y : Int) : Bool := (decide (x = 0) || decide (y = 0) || decide (x = W) || decide (y = H)) || ss.any fun s => decide (s.1 ∈ nearL x y)
def faceOf (f : Option (List Nat × List Nat)) (hd : Int) : Option (List Nat) := f.map fun f => if hd < 0 then f.2 else f.1
def Ax.bnd (a : Ax) : Bool := decide (a.c.natAbs < 2 ^ 99) && decide (a.l.natAbs < 2 ^ 99) && decide (a.h.natAbs < 2 ^ 99) && (decide (a.e = 1) || decide (a.e = -1)) && (decide (a.w = 1) || decide (a.w = -1) || decide (a.w = 0)) && (decide (a.w = 0) == decide (a.d = 0))
abbrev wPerson : List Nat := [112, 101, 114, 115, 111, 110]
abbrev wCorner : List Nat := [99, 111, 114, 110, 101, 114]
abbrev wEnd : List Nat := [101, 110, 100]
abbrev wPlain : List Nat := [112, 108, 97, 105, 110]
abbrev wMany : List Nat := [109, 97, 110, 121]
abbrev Res := List Nat × Pt × List Pt
def walkQ (W H : Int) (ss : List Sd) (ps : List Pt) (most : Int) : Nat → Ax → Ax → List Pt → Option Res
  | 0, _, _, _ => none
  | n + 1, x, y, ts =>
    if (x.bnd && y.bnd && decide (ts.length ≤ 1000000)) = false then none else
    match firstP x y ps with
    | some p => some (wPerson, p, ts)
    | none => match (if soonerO y.time x.time = true then y.time else x.time) with
      | none => none
      | some q =>
        if ¬ q < 1 then some (if decide (x.time = some 1) && decide (y.time = some 1) && cornerQ W H ss x.place y.place then wCorner else wEnd, (x.at 1, y.at 1), ts)
        else if x.time = y.time then (if cornerQ W H ss x.place y.place = true then some (wCorner, (x.at q, y.at q), ts) else walkQ W H ss ps most n x.goOn y.goOn ts)
        else if x.time = some q then (match faceOf (facesQ W H ss (false, x.place, y.c)) x.heads with
          | none => walkQ W H ss ps most n x.goOn y ts
          | some f => if f = cP then some (wPlain, (x.at q, y.at q), ts) else if (ts.length : Int) = most then some (wMany, (x.at q, y.at q), ts) else walkQ W H ss ps most n x.turn y (ts ++ [(x.at q, y.at q)]))
        else (match faceOf (facesQ W H ss (true, x.c, y.place)) y.heads with
          | none => walkQ W H ss ps most n x y.goOn ts
          | some f => if f = cP then some (wPlain, (x.at q, y.at q), ts) else if (ts.length : Int) = most then some (wMany, (x.at q, y.at q), ts) else walkQ W H ss ps most n x y.turn (ts ++ [(x.at q, y.at q)]))
def resD (r : Res) : D := .tup [.str r.1, pQ r.2.1, .lst (r.2.2.map pQ)]
end MI

namespace LW
open MI
def E__law_edges_0 : E := (.tup (.cons (.ks [117, 112]) (.cons (.var 3) (.cons (.var 4) .nil))))
@[simp] theorem XE__law_edges_0 (r : List Slot) (S : Store) : ev E__law_edges_0 ⟨r, S⟩ = ev (.tup (.cons (.ks [117, 112]) (.cons (.var 3) (.cons (.var 4) .nil)))) ⟨r, S⟩ := rfl
def B__law_edges_1_0 : T := .cons (.ext 2 (.com [4] (.one 4) (.rg1 (.bor 1)) (.kb true) E__law_edges_0)) .nil
@[simp] theorem X__law_edges_1_0 (r : List Slot) (S : Store) : ex B__law_edges_1_0 ⟨r, S⟩ = seqF .nil (ex (.ext 2 (.com [4] (.one 4) (.rg1 (.bor 1)) (.kb true) E__law_edges_0)) ⟨r, S⟩) := ex_cons _ _
def E__law_edges_2 : E := (.tup (.cons (.ks [102, 108, 97, 116]) (.cons (.var 3) (.cons (.var 4) .nil))))
@[simp] theorem XE__law_edges_2 (r : List Slot) (S : Store) : ev E__law_edges_2 ⟨r, S⟩ = ev (.tup (.cons (.ks [102, 108, 97, 116]) (.cons (.var 3) (.cons (.var 4) .nil)))) ⟨r, S⟩ := rfl
def B__law_edges_3_0 : T := .cons (.ext 2 (.com [3] (.one 3) (.rg1 (.bor 0)) (.kb true) E__law_edges_2)) .nil
@[simp] theorem X__law_edges_3_0 (r : List Slot) (S : Store) : ex B__law_edges_3_0 ⟨r, S⟩ = seqF .nil (ex (.ext 2 (.com [3] (.one 3) (.rg1 (.bor 0)) (.kb true) E__law_edges_2)) ⟨r, S⟩) := ex_cons _ _
def B__law_edges_4_3 : T := .cons (.retv 2) .nil
@[simp] theorem X__law_edges_4_3 (r : List Slot) (S : Store) : ex B__law_edges_4_3 ⟨r, S⟩ = seqF .nil (ex (.retv 2) ⟨r, S⟩) := ex_cons _ _
def B__law_edges_4_2 : T := .cons (.for (.one 4) (.rg1 (.bin .add (.bor 1) (.ki 1))) B__law_edges_3_0 [4]) B__law_edges_4_3
@[simp] theorem X__law_edges_4_2 (r : List Slot) (S : Store) : ex B__law_edges_4_2 ⟨r, S⟩ = seqF B__law_edges_4_3 (ex (.for (.one 4) (.rg1 (.bin .add (.bor 1) (.ki 1))) B__law_edges_3_0 [4]) ⟨r, S⟩) := ex_cons _ _
def B__law_edges_4_1 : T := .cons (.for (.one 3) (.rg1 (.bin .add (.bor 0) (.ki 1))) B__law_edges_1_0 []) B__law_edges_4_2
@[simp] theorem X__law_edges_4_1 (r : List Slot) (S : Store) : ex B__law_edges_4_1 ⟨r, S⟩ = seqF B__law_edges_4_2 (ex (.for (.one 3) (.rg1 (.bin .add (.bor 0) (.ki 1))) B__law_edges_1_0 []) ⟨r, S⟩) := ex_cons _ _
def B__law_edges_4_0 : T := .cons (.set (.one 2) (.lst .nil)) B__law_edges_4_1
@[simp] theorem X__law_edges_4_0 (r : List Slot) (S : Store) : ex B__law_edges_4_0 ⟨r, S⟩ = seqF B__law_edges_4_1 (ex (.set (.one 2) (.lst .nil)) ⟨r, S⟩) := ex_cons _ _
def c__law_edges : T := B__law_edges_4_0
def s__law_edges : Fn := runDef 2 5 c__law_edges
theorem R__law_edges (a0 a1 : Slot) (S : Store) : s__law_edges S [a0, a1] = endD (ex B__law_edges_4_0 ⟨[a0, a1, .u, .u, .u], S⟩) := run_def _ _ _ _ _ rfl
def B__law_digits_0_0 : T := .cons (.set (.one 5) (.blt .abs (.cons (.bor 0) .nil))) .nil
@[simp] theorem X__law_digits_0_0 (r : List Slot) (S : Store) : ex B__law_digits_0_0 ⟨r, S⟩ = seqF .nil (ex (.set (.one 5) (.blt .abs (.cons (.bor 0) .nil))) ⟨r, S⟩) := ex_cons _ _
def B__law_digits_1_2 : T := .cons (.set (.one 5) (.bin .fdiv (.bor 5) (.bor 2))) .nil
@[simp] theorem X__law_digits_1_2 (r : List Slot) (S : Store) : ex B__law_digits_1_2 ⟨r, S⟩ = seqF .nil (ex (.set (.one 5) (.bin .fdiv (.bor 5) (.bor 2))) ⟨r, S⟩) := ex_cons _ _
def B__law_digits_1_1 : T := .cons (.app 3 (.bin .mod (.ix (.lst (.cons (.bin .fdiv (.bor 4) (.ki 64)) (.cons (.var 5) .nil))) (.blt .int (.cons (.cmp .gt (.bor 5) (.ki 0)) .nil))) (.bor 2))) B__law_digits_1_2
@[simp] theorem X__law_digits_1_1 (r : List Slot) (S : Store) : ex B__law_digits_1_1 ⟨r, S⟩ = seqF B__law_digits_1_2 (ex (.app 3 (.bin .mod (.ix (.lst (.cons (.bin .fdiv (.bor 4) (.ki 64)) (.cons (.var 5) .nil))) (.blt .int (.cons (.cmp .gt (.bor 5) (.ki 0)) .nil))) (.bor 2))) ⟨r, S⟩) := ex_cons _ _
def B__law_digits_1_0 : T := .cons (.set (.one 4) (.bin .mod (.bin .add (.bin .add (.bin .mul (.bor 4) (.bin .add (.bin .mod (.bor 4) (.ki 65521)) (.ki 40487))) (.bin .mul (.ki 7) (.bor 6))) (.ki 5)) (.ki 1999999973))) B__law_digits_1_1
@[simp] theorem X__law_digits_1_0 (r : List Slot) (S : Store) : ex B__law_digits_1_0 ⟨r, S⟩ = seqF B__law_digits_1_1 (ex (.set (.one 4) (.bin .mod (.bin .add (.bin .add (.bin .mul (.bor 4) (.bin .add (.bin .mod (.bor 4) (.ki 65521)) (.ki 40487))) (.bin .mul (.ki 7) (.bor 6))) (.ki 5)) (.ki 1999999973))) ⟨r, S⟩) := ex_cons _ _
def B__law_digits_2_5 : T := .cons (.retv 3) .nil
@[simp] theorem X__law_digits_2_5 (r : List Slot) (S : Store) : ex B__law_digits_2_5 ⟨r, S⟩ = seqF .nil (ex (.retv 3) ⟨r, S⟩) := ex_cons _ _
def B__law_digits_2_4 : T := .cons (.for (.one 6) (.rg1 (.bor 1)) B__law_digits_1_0 [6]) B__law_digits_2_5
@[simp] theorem X__law_digits_2_4 (r : List Slot) (S : Store) : ex B__law_digits_2_4 ⟨r, S⟩ = seqF B__law_digits_2_5 (ex (.for (.one 6) (.rg1 (.bor 1)) B__law_digits_1_0 [6]) ⟨r, S⟩) := ex_cons _ _
def B__law_digits_2_3 : T := .cons (.ife (.or (.cmp .lt (.bor 0) (.ki 0)) (.one (.cmp .ge (.bor 0) (.bin .pow (.ki 10) (.ki 18))))) B__law_digits_0_0 .nil) B__law_digits_2_4
@[simp] theorem X__law_digits_2_3 (r : List Slot) (S : Store) : ex B__law_digits_2_3 ⟨r, S⟩ = seqF B__law_digits_2_4 (ex (.ife (.or (.cmp .lt (.bor 0) (.ki 0)) (.one (.cmp .ge (.bor 0) (.bin .pow (.ki 10) (.ki 18))))) B__law_digits_0_0 .nil) ⟨r, S⟩) := ex_cons _ _
def B__law_digits_2_2 : T := .cons (.set (.one 5) (.ki 0)) B__law_digits_2_3
@[simp] theorem X__law_digits_2_2 (r : List Slot) (S : Store) : ex B__law_digits_2_2 ⟨r, S⟩ = seqF B__law_digits_2_3 (ex (.set (.one 5) (.ki 0)) ⟨r, S⟩) := ex_cons _ _
def B__law_digits_2_1 : T := .cons (.set (.one 4) (.bin .mod (.bin .mul (.bin .add (.bin .mod (.bor 0) (.ki 1999999973)) (.ki 31)) (.ki 765432101)) (.ki 1999999973))) B__law_digits_2_2
@[simp] theorem X__law_digits_2_1 (r : List Slot) (S : Store) : ex B__law_digits_2_1 ⟨r, S⟩ = seqF B__law_digits_2_2 (ex (.set (.one 4) (.bin .mod (.bin .mul (.bin .add (.bin .mod (.bor 0) (.ki 1999999973)) (.ki 31)) (.ki 765432101)) (.ki 1999999973))) ⟨r, S⟩) := ex_cons _ _
def B__law_digits_2_0 : T := .cons (.set (.one 3) (.lst .nil)) B__law_digits_2_1
@[simp] theorem X__law_digits_2_0 (r : List Slot) (S : Store) : ex B__law_digits_2_0 ⟨r, S⟩ = seqF B__law_digits_2_1 (ex (.set (.one 3) (.lst .nil)) ⟨r, S⟩) := ex_cons _ _
def c__law_digits : T := B__law_digits_2_0
def s__law_digits : Fn := runDef 3 7 c__law_digits
theorem R__law_digits (a0 a1 a2 : Slot) (S : Store) : s__law_digits S [a0, a1, a2] = endD (ex B__law_digits_2_0 ⟨[a0, a1, a2, .u, .u, .u, .u], S⟩) := run_def _ _ _ _ _ rfl
def B__law_side_0_1 : T := .cons (.set (.one 7) (.var 1)) .nil
@[simp] theorem X__law_side_0_1 (r : List Slot) (S : Store) : ex B__law_side_0_1 ⟨r, S⟩ = seqF .nil (ex (.set (.one 7) (.var 1)) ⟨r, S⟩) := ex_cons _ _
def B__law_side_0_0 : T := .cons (.set (.one 6) (.ix (.bor 2) (.ki 2))) B__law_side_0_1
@[simp] theorem X__law_side_0_0 (r : List Slot) (S : Store) : ex B__law_side_0_0 ⟨r, S⟩ = seqF B__law_side_0_1 (ex (.set (.one 6) (.ix (.bor 2) (.ki 2))) ⟨r, S⟩) := ex_cons _ _
def B__law_side_1_0 : T := .cons (.set (.one 4) (.ks [112])) .nil
@[simp] theorem X__law_side_1_0 (r : List Slot) (S : Store) : ex B__law_side_1_0 ⟨r, S⟩ = seqF .nil (ex (.set (.one 4) (.ks [112])) ⟨r, S⟩) := ex_cons _ _
def B__law_side_2_0 : T := .cons (.set (.one 5) (.ks [112])) .nil
@[simp] theorem X__law_side_2_0 (r : List Slot) (S : Store) : ex B__law_side_2_0 ⟨r, S⟩ = seqF .nil (ex (.set (.one 5) (.ks [112])) ⟨r, S⟩) := ex_cons _ _
def B__law_side_3_6 : T := .cons (.ret (.bin .add (.bor 2) (.tup (.cons (.var 4) (.cons (.var 5) .nil))))) .nil
@[simp] theorem X__law_side_3_6 (r : List Slot) (S : Store) : ex B__law_side_3_6 ⟨r, S⟩ = seqF .nil (ex (.ret (.bin .add (.bor 2) (.tup (.cons (.var 4) (.cons (.var 5) .nil))))) ⟨r, S⟩) := ex_cons _ _
def B__law_side_3_5 : T := .cons (.ife (.cmp .eq (.bor 6) (.bor 7)) B__law_side_2_0 .nil) B__law_side_3_6
@[simp] theorem X__law_side_3_5 (r : List Slot) (S : Store) : ex B__law_side_3_5 ⟨r, S⟩ = seqF B__law_side_3_6 (ex (.ife (.cmp .eq (.bor 6) (.bor 7)) B__law_side_2_0 .nil) ⟨r, S⟩) := ex_cons _ _
def B__law_side_3_4 : T := .cons (.ife (.cmp .eq (.bor 6) (.ki 0)) B__law_side_1_0 .nil) B__law_side_3_5
@[simp] theorem X__law_side_3_4 (r : List Slot) (S : Store) : ex B__law_side_3_4 ⟨r, S⟩ = seqF B__law_side_3_5 (ex (.ife (.cmp .eq (.bor 6) (.ki 0)) B__law_side_1_0 .nil) ⟨r, S⟩) := ex_cons _ _
def B__law_side_3_3 : T := .cons (.ife (.cmp .eq (.ix (.bor 2) (.ki 0)) (.ks [102, 108, 97, 116])) B__law_side_0_0 .nil) B__law_side_3_4
@[simp] theorem X__law_side_3_3 (r : List Slot) (S : Store) : ex B__law_side_3_3 ⟨r, S⟩ = seqF B__law_side_3_4 (ex (.ife (.cmp .eq (.ix (.bor 2) (.ki 0)) (.ks [102, 108, 97, 116])) B__law_side_0_0 .nil) ⟨r, S⟩) := ex_cons _ _
def B__law_side_3_2 : T := .cons (.set (.one 7) (.var 0)) B__law_side_3_3
@[simp] theorem X__law_side_3_2 (r : List Slot) (S : Store) : ex B__law_side_3_2 ⟨r, S⟩ = seqF B__law_side_3_3 (ex (.set (.one 7) (.var 0)) ⟨r, S⟩) := ex_cons _ _
def B__law_side_3_1 : T := .cons (.set (.one 6) (.ix (.bor 2) (.ki 1))) B__law_side_3_2
@[simp] theorem X__law_side_3_1 (r : List Slot) (S : Store) : ex B__law_side_3_1 ⟨r, S⟩ = seqF B__law_side_3_2 (ex (.set (.one 6) (.ix (.bor 2) (.ki 1))) ⟨r, S⟩) := ex_cons _ _
def B__law_side_3_0 : T := .cons (.set (.many [4, 5]) (.ix (.lst (.cons (.ks [109, 109]) (.cons (.ks [109, 112]) (.cons (.ks [112, 109]) (.cons (.ks [112, 112]) .nil))))) (.bin .mod (.bor 3) (.ki 4)))) B__law_side_3_1
@[simp] theorem X__law_side_3_0 (r : List Slot) (S : Store) : ex B__law_side_3_0 ⟨r, S⟩ = seqF B__law_side_3_1 (ex (.set (.many [4, 5]) (.ix (.lst (.cons (.ks [109, 109]) (.cons (.ks [109, 112]) (.cons (.ks [112, 109]) (.cons (.ks [112, 112]) .nil))))) (.bin .mod (.bor 3) (.ki 4)))) ⟨r, S⟩) := ex_cons _ _
def c__law_side : T := B__law_side_3_0
def s__law_side : Fn := runDef 4 8 c__law_side
theorem R__law_side (a0 a1 a2 a3 : Slot) (S : Store) : s__law_side S [a0, a1, a2, a3] = endD (ex B__law_side_3_0 ⟨[a0, a1, a2, a3, .u, .u, .u, .u], S⟩) := run_def _ _ _ _ _ rfl
def B__law_hall_0_0 : T := .cons (.app 7 (.call 16 s__law_side (.cons (.var 3) (.cons (.var 4) (.cons (.var 8) (.cons (.var 9) .nil)))))) .nil
@[simp] theorem X__law_hall_0_0 (r : List Slot) (S : Store) : ex B__law_hall_0_0 ⟨r, S⟩ = seqF .nil (ex (.app 7 (.call 16 s__law_side (.cons (.var 3) (.cons (.var 4) (.cons (.var 8) (.cons (.var 9) .nil)))))) ⟨r, S⟩) := ex_cons _ _
def B__law_hall_1_0 : T := .cons (.ife (.cmp .gt (.bor 9) (.ki 3)) B__law_hall_0_0 .nil) .nil
@[simp] theorem X__law_hall_1_0 (r : List Slot) (S : Store) : ex B__law_hall_1_0 ⟨r, S⟩ = seqF .nil (ex (.ife (.cmp .gt (.bor 9) (.ki 3)) B__law_hall_0_0 .nil) ⟨r, S⟩) := ex_cons _ _
def B__law_hall_2_6 : T := .cons (.ret (.tup (.cons (.var 3) (.cons (.var 4) (.cons (.blt .tuple (.cons (.bor 7) .nil)) .nil))))) .nil
@[simp] theorem X__law_hall_2_6 (r : List Slot) (S : Store) : ex B__law_hall_2_6 ⟨r, S⟩ = seqF .nil (ex (.ret (.tup (.cons (.var 3) (.cons (.var 4) (.cons (.blt .tuple (.cons (.bor 7) .nil)) .nil))))) ⟨r, S⟩) := ex_cons _ _
def B__law_hall_2_5 : T := .cons (.for (.many [8, 9]) (.zip (.var 5) (.var 6)) B__law_hall_1_0 [8, 9]) B__law_hall_2_6
@[simp] theorem X__law_hall_2_5 (r : List Slot) (S : Store) : ex B__law_hall_2_5 ⟨r, S⟩ = seqF B__law_hall_2_6 (ex (.for (.many [8, 9]) (.zip (.var 5) (.var 6)) B__law_hall_1_0 [8, 9]) ⟨r, S⟩) := ex_cons _ _
def B__law_hall_2_4 : T := .cons (.set (.one 7) (.lst .nil)) B__law_hall_2_5
@[simp] theorem X__law_hall_2_4 (r : List Slot) (S : Store) : ex B__law_hall_2_4 ⟨r, S⟩ = seqF B__law_hall_2_5 (ex (.set (.one 7) (.lst .nil)) ⟨r, S⟩) := ex_cons _ _
def B__law_hall_2_3 : T := .cons (.set (.one 6) (.call 13 s__law_digits (.cons (.var 1) (.cons (.blt .len (.cons (.bor 5) .nil)) (.cons (.ki 8) .nil))))) B__law_hall_2_4
@[simp] theorem X__law_hall_2_3 (r : List Slot) (S : Store) : ex B__law_hall_2_3 ⟨r, S⟩ = seqF B__law_hall_2_4 (ex (.set (.one 6) (.call 13 s__law_digits (.cons (.var 1) (.cons (.blt .len (.cons (.bor 5) .nil)) (.cons (.ki 8) .nil))))) ⟨r, S⟩) := ex_cons _ _
def B__law_hall_2_2 : T := .cons (.set (.one 5) (.call 15 s__law_edges (.cons (.var 3) (.cons (.var 4) .nil)))) B__law_hall_2_3
@[simp] theorem X__law_hall_2_2 (r : List Slot) (S : Store) : ex B__law_hall_2_2 ⟨r, S⟩ = seqF B__law_hall_2_3 (ex (.set (.one 5) (.call 15 s__law_edges (.cons (.var 3) (.cons (.var 4) .nil)))) ⟨r, S⟩) := ex_cons _ _
def B__law_hall_2_1 : T := .cons (.set (.one 4) (.bin .add (.ki 1) (.bin .mod (.bin .fdiv (.bor 0) (.ki 8)) (.bor 2)))) B__law_hall_2_2
@[simp] theorem X__law_hall_2_1 (r : List Slot) (S : Store) : ex B__law_hall_2_1 ⟨r, S⟩ = seqF B__law_hall_2_2 (ex (.set (.one 4) (.bin .add (.ki 1) (.bin .mod (.bin .fdiv (.bor 0) (.ki 8)) (.bor 2)))) ⟨r, S⟩) := ex_cons _ _
def B__law_hall_2_0 : T := .cons (.set (.one 3) (.bin .add (.ki 1) (.bin .mod (.bor 0) (.bor 2)))) B__law_hall_2_1
@[simp] theorem X__law_hall_2_0 (r : List Slot) (S : Store) : ex B__law_hall_2_0 ⟨r, S⟩ = seqF B__law_hall_2_1 (ex (.set (.one 3) (.bin .add (.ki 1) (.bin .mod (.bor 0) (.bor 2)))) ⟨r, S⟩) := ex_cons _ _
def c__law_hall : T := B__law_hall_2_0
def s__law_hall : Fn := runDef 3 10 c__law_hall
theorem R__law_hall (a0 a1 a2 : Slot) (S : Store) : s__law_hall S [a0, a1, a2] = endD (ex B__law_hall_2_0 ⟨[a0, a1, a2, .u, .u, .u, .u, .u, .u, .u], S⟩) := run_def _ _ _ _ _ rfl
def B__law_cell_0_0 : T := .cons (.ret (.ix (.bin .add (.sl (.bor 0) (.one (.bor 1)) (.one (.bin .add (.bor 1) (.ki 1)))) (.lst (.cons (.ki 0) .nil))) (.ki 0))) .nil
@[simp] theorem X__law_cell_0_0 (r : List Slot) (S : Store) : ex B__law_cell_0_0 ⟨r, S⟩ = seqF .nil (ex (.ret (.ix (.bin .add (.sl (.bor 0) (.one (.bor 1)) (.one (.bin .add (.bor 1) (.ki 1)))) (.lst (.cons (.ki 0) .nil))) (.ki 0))) ⟨r, S⟩) := ex_cons _ _
def c__law_cell : T := B__law_cell_0_0
def s__law_cell : Fn := runDef 2 2 c__law_cell
theorem R__law_cell (a0 a1 : Slot) (S : Store) : s__law_cell S [a0, a1] = endD (ex B__law_cell_0_0 ⟨[a0, a1], S⟩) := run_def _ _ _ _ _ rfl
def B__law_numbers_0_0 : T := .cons (.set (.one 4) (.blt .abs (.cons (.bor 0) .nil))) .nil
@[simp] theorem X__law_numbers_0_0 (r : List Slot) (S : Store) : ex B__law_numbers_0_0 ⟨r, S⟩ = seqF .nil (ex (.set (.one 4) (.blt .abs (.cons (.bor 0) .nil))) ⟨r, S⟩) := ex_cons _ _
def B__law_numbers_1_2 : T := .cons (.set (.one 4) (.bin .fdiv (.bor 4) (.ki 1000000))) .nil
@[simp] theorem X__law_numbers_1_2 (r : List Slot) (S : Store) : ex B__law_numbers_1_2 ⟨r, S⟩ = seqF .nil (ex (.set (.one 4) (.bin .fdiv (.bor 4) (.ki 1000000))) ⟨r, S⟩) := ex_cons _ _
def B__law_numbers_1_1 : T := .cons (.app 2 (.ix (.lst (.cons (.var 3) (.cons (.bin .mod (.bor 4) (.ki 1000000)) .nil))) (.blt .int (.cons (.cmp .gt (.bor 4) (.ki 0)) .nil)))) B__law_numbers_1_2
@[simp] theorem X__law_numbers_1_1 (r : List Slot) (S : Store) : ex B__law_numbers_1_1 ⟨r, S⟩ = seqF B__law_numbers_1_2 (ex (.app 2 (.ix (.lst (.cons (.var 3) (.cons (.bin .mod (.bor 4) (.ki 1000000)) .nil))) (.blt .int (.cons (.cmp .gt (.bor 4) (.ki 0)) .nil)))) ⟨r, S⟩) := ex_cons _ _
def B__law_numbers_1_0 : T := .cons (.set (.one 3) (.bin .mod (.bin .add (.bin .add (.bin .mul (.bor 3) (.bin .add (.bin .mod (.bor 3) (.ki 65521)) (.ki 40487))) (.bin .mul (.ki 7) (.bor 5))) (.ki 5)) (.ki 1999999973))) B__law_numbers_1_1
@[simp] theorem X__law_numbers_1_0 (r : List Slot) (S : Store) : ex B__law_numbers_1_0 ⟨r, S⟩ = seqF B__law_numbers_1_1 (ex (.set (.one 3) (.bin .mod (.bin .add (.bin .add (.bin .mul (.bor 3) (.bin .add (.bin .mod (.bor 3) (.ki 65521)) (.ki 40487))) (.bin .mul (.ki 7) (.bor 5))) (.ki 5)) (.ki 1999999973))) ⟨r, S⟩) := ex_cons _ _
def B__law_numbers_2_5 : T := .cons (.retv 2) .nil
@[simp] theorem X__law_numbers_2_5 (r : List Slot) (S : Store) : ex B__law_numbers_2_5 ⟨r, S⟩ = seqF .nil (ex (.retv 2) ⟨r, S⟩) := ex_cons _ _
def B__law_numbers_2_4 : T := .cons (.for (.one 5) (.rg1 (.bor 1)) B__law_numbers_1_0 [5]) B__law_numbers_2_5
@[simp] theorem X__law_numbers_2_4 (r : List Slot) (S : Store) : ex B__law_numbers_2_4 ⟨r, S⟩ = seqF B__law_numbers_2_5 (ex (.for (.one 5) (.rg1 (.bor 1)) B__law_numbers_1_0 [5]) ⟨r, S⟩) := ex_cons _ _
def B__law_numbers_2_3 : T := .cons (.ife (.or (.cmp .lt (.bor 0) (.ki 0)) (.one (.cmp .ge (.bor 0) (.bin .pow (.ki 10) (.ki 18))))) B__law_numbers_0_0 .nil) B__law_numbers_2_4
@[simp] theorem X__law_numbers_2_3 (r : List Slot) (S : Store) : ex B__law_numbers_2_3 ⟨r, S⟩ = seqF B__law_numbers_2_4 (ex (.ife (.or (.cmp .lt (.bor 0) (.ki 0)) (.one (.cmp .ge (.bor 0) (.bin .pow (.ki 10) (.ki 18))))) B__law_numbers_0_0 .nil) ⟨r, S⟩) := ex_cons _ _
def B__law_numbers_2_2 : T := .cons (.set (.one 4) (.ki 0)) B__law_numbers_2_3
@[simp] theorem X__law_numbers_2_2 (r : List Slot) (S : Store) : ex B__law_numbers_2_2 ⟨r, S⟩ = seqF B__law_numbers_2_3 (ex (.set (.one 4) (.ki 0)) ⟨r, S⟩) := ex_cons _ _
def B__law_numbers_2_1 : T := .cons (.set (.one 3) (.bin .mod (.bin .mul (.bin .add (.bin .mod (.bor 0) (.ki 1999999973)) (.ki 31)) (.ki 765432101)) (.ki 1999999973))) B__law_numbers_2_2
@[simp] theorem X__law_numbers_2_1 (r : List Slot) (S : Store) : ex B__law_numbers_2_1 ⟨r, S⟩ = seqF B__law_numbers_2_2 (ex (.set (.one 3) (.bin .mod (.bin .mul (.bin .add (.bin .mod (.bor 0) (.ki 1999999973)) (.ki 31)) (.ki 765432101)) (.ki 1999999973))) ⟨r, S⟩) := ex_cons _ _
def B__law_numbers_2_0 : T := .cons (.set (.one 2) (.lst .nil)) B__law_numbers_2_1
@[simp] theorem X__law_numbers_2_0 (r : List Slot) (S : Store) : ex B__law_numbers_2_0 ⟨r, S⟩ = seqF B__law_numbers_2_1 (ex (.set (.one 2) (.lst .nil)) ⟨r, S⟩) := ex_cons _ _
def c__law_numbers : T := B__law_numbers_2_0
def s__law_numbers : Fn := runDef 2 6 c__law_numbers
theorem R__law_numbers (a0 a1 : Slot) (S : Store) : s__law_numbers S [a0, a1] = endD (ex B__law_numbers_2_0 ⟨[a0, a1, .u, .u, .u, .u], S⟩) := run_def _ _ _ _ _ rfl
def E__law_shuffled_0 : E := (.tup (.cons (.ix (.bor 2) (.bor 3)) (.cons (.var 3) (.cons (.ix (.bor 0) (.bor 3)) .nil))))
@[simp] theorem XE__law_shuffled_0 (r : List Slot) (S : Store) : ev E__law_shuffled_0 ⟨r, S⟩ = ev (.tup (.cons (.ix (.bor 2) (.bor 3)) (.cons (.var 3) (.cons (.ix (.bor 0) (.bor 3)) .nil)))) ⟨r, S⟩ := rfl
def E__law_shuffled_1 : E := (.ix (.bor 4) (.ki 2))
@[simp] theorem XE__law_shuffled_1 (r : List Slot) (S : Store) : ev E__law_shuffled_1 ⟨r, S⟩ = ev (.ix (.bor 4) (.ki 2)) ⟨r, S⟩ := rfl
def B__law_shuffled_2_1 : T := .cons (.ret (.blt .tuple (.cons (.com [4] (.one 4) (.it (.blt .sorted (.cons (.com [3] (.one 3) (.rg1 (.blt .len (.cons (.bor 0) .nil))) (.kb true) E__law_shuffled_0) .nil))) (.kb true) E__law_shuffled_1) .nil))) .nil
@[simp] theorem X__law_shuffled_2_1 (r : List Slot) (S : Store) : ex B__law_shuffled_2_1 ⟨r, S⟩ = seqF .nil (ex (.ret (.blt .tuple (.cons (.com [4] (.one 4) (.it (.blt .sorted (.cons (.com [3] (.one 3) (.rg1 (.blt .len (.cons (.bor 0) .nil))) (.kb true) E__law_shuffled_0) .nil))) (.kb true) E__law_shuffled_1) .nil))) ⟨r, S⟩) := ex_cons _ _
def B__law_shuffled_2_0 : T := .cons (.set (.one 2) (.call 12 s__law_numbers (.cons (.var 1) (.cons (.blt .len (.cons (.bor 0) .nil)) .nil)))) B__law_shuffled_2_1
@[simp] theorem X__law_shuffled_2_0 (r : List Slot) (S : Store) : ex B__law_shuffled_2_0 ⟨r, S⟩ = seqF B__law_shuffled_2_1 (ex (.set (.one 2) (.call 12 s__law_numbers (.cons (.var 1) (.cons (.blt .len (.cons (.bor 0) .nil)) .nil)))) ⟨r, S⟩) := ex_cons _ _
def c__law_shuffled : T := B__law_shuffled_2_0
def s__law_shuffled : Fn := runDef 2 5 c__law_shuffled
theorem R__law_shuffled (a0 a1 : Slot) (S : Store) : s__law_shuffled S [a0, a1] = endD (ex B__law_shuffled_2_0 ⟨[a0, a1, .u, .u, .u], S⟩) := run_def _ _ _ _ _ rfl
def E__law_first_bad_0 : E := (.tup (.cons (.var 13) (.cons (.kb true) .nil)))
@[simp] theorem XE__law_first_bad_0 (r : List Slot) (S : Store) : ev E__law_first_bad_0 ⟨r, S⟩ = ev (.tup (.cons (.var 13) (.cons (.kb true) .nil))) ⟨r, S⟩ := rfl
def B__law_first_bad_1_0 : T := .cons (.retv 5) .nil
@[simp] theorem X__law_first_bad_1_0 (r : List Slot) (S : Store) : ex B__law_first_bad_1_0 ⟨r, S⟩ = seqF .nil (ex (.retv 5) ⟨r, S⟩) := ex_cons _ _
def B__law_first_bad_2_0 : T := .cons (.retv 5) .nil
@[simp] theorem X__law_first_bad_2_0 (r : List Slot) (S : Store) : ex B__law_first_bad_2_0 ⟨r, S⟩ = seqF .nil (ex (.retv 5) ⟨r, S⟩) := ex_cons _ _
def B__law_first_bad_3_0 : T := .cons (.retv 5) .nil
@[simp] theorem X__law_first_bad_3_0 (r : List Slot) (S : Store) : ex B__law_first_bad_3_0 ⟨r, S⟩ = seqF .nil (ex (.retv 5) ⟨r, S⟩) := ex_cons _ _
def B__law_first_bad_4_6 : T := .cons (.dput 4 (.sl (.ix (.bor 2) (.bor 5)) .gap (.one (.ki 3))) (.kb true)) .nil
@[simp] theorem X__law_first_bad_4_6 (r : List Slot) (S : Store) : ex B__law_first_bad_4_6 ⟨r, S⟩ = seqF .nil (ex (.dput 4 (.sl (.ix (.bor 2) (.bor 5)) .gap (.one (.ki 3))) (.kb true)) ⟨r, S⟩) := ex_cons _ _
def B__law_first_bad_4_5 : T := .cons (.ife (.or (.and (.cmp .eq (.bor 11) (.ki 0)) (.one (.cmp .eq (.bor 9) (.ks [109])))) (.one (.and (.cmp .eq (.bor 11) (.bor 12)) (.one (.cmp .eq (.bor 10) (.ks [109])))))) B__law_first_bad_3_0 .nil) B__law_first_bad_4_6
@[simp] theorem X__law_first_bad_4_5 (r : List Slot) (S : Store) : ex B__law_first_bad_4_5 ⟨r, S⟩ = seqF B__law_first_bad_4_6 (ex (.ife (.or (.and (.cmp .eq (.bor 11) (.ki 0)) (.one (.cmp .eq (.bor 9) (.ks [109])))) (.one (.and (.cmp .eq (.bor 11) (.bor 12)) (.one (.cmp .eq (.bor 10) (.ks [109])))))) B__law_first_bad_3_0 .nil) ⟨r, S⟩) := ex_cons _ _
def B__law_first_bad_4_4 : T := .cons (.ife (.or (.cmp .nmem (.bor 9) (.lst (.cons (.ks [109]) (.cons (.ks [112]) .nil)))) (.one (.cmp .nmem (.bor 10) (.lst (.cons (.ks [109]) (.cons (.ks [112]) .nil)))))) B__law_first_bad_2_0 .nil) B__law_first_bad_4_5
@[simp] theorem X__law_first_bad_4_4 (r : List Slot) (S : Store) : ex B__law_first_bad_4_4 ⟨r, S⟩ = seqF B__law_first_bad_4_5 (ex (.ife (.or (.cmp .nmem (.bor 9) (.lst (.cons (.ks [109]) (.cons (.ks [112]) .nil)))) (.one (.cmp .nmem (.bor 10) (.lst (.cons (.ks [109]) (.cons (.ks [112]) .nil)))))) B__law_first_bad_2_0 .nil) ⟨r, S⟩) := ex_cons _ _
def B__law_first_bad_4_3 : T := .cons (.ife (.or (.din false (.sl (.ix (.bor 2) (.bor 5)) .gap (.one (.ki 3))) 3) (.or (.cmp .mem (.sl (.ix (.bor 2) (.bor 5)) .gap (.one (.ki 3))) (.bor 4)) (.or (.isi (.bor 7) .bool) (.one (.isi (.bor 8) .bool))))) B__law_first_bad_1_0 .nil) B__law_first_bad_4_4
@[simp] theorem X__law_first_bad_4_3 (r : List Slot) (S : Store) : ex B__law_first_bad_4_3 ⟨r, S⟩ = seqF B__law_first_bad_4_4 (ex (.ife (.or (.din false (.sl (.ix (.bor 2) (.bor 5)) .gap (.one (.ki 3))) 3) (.or (.cmp .mem (.sl (.ix (.bor 2) (.bor 5)) .gap (.one (.ki 3))) (.bor 4)) (.or (.isi (.bor 7) .bool) (.one (.isi (.bor 8) .bool))))) B__law_first_bad_1_0 .nil) ⟨r, S⟩) := ex_cons _ _
def B__law_first_bad_4_2 : T := .cons (.set (.one 12) (.ix (.lst (.cons (.var 0) (.cons (.var 1) .nil))) (.blt .int (.cons (.cmp .eq (.bor 6) (.ks [102, 108, 97, 116])) .nil)))) B__law_first_bad_4_3
@[simp] theorem X__law_first_bad_4_2 (r : List Slot) (S : Store) : ex B__law_first_bad_4_2 ⟨r, S⟩ = seqF B__law_first_bad_4_3 (ex (.set (.one 12) (.ix (.lst (.cons (.var 0) (.cons (.var 1) .nil))) (.blt .int (.cons (.cmp .eq (.bor 6) (.ks [102, 108, 97, 116])) .nil)))) ⟨r, S⟩) := ex_cons _ _
def B__law_first_bad_4_1 : T := .cons (.set (.one 11) (.ix (.lst (.cons (.var 7) (.cons (.var 8) .nil))) (.blt .int (.cons (.cmp .eq (.bor 6) (.ks [102, 108, 97, 116])) .nil)))) B__law_first_bad_4_2
@[simp] theorem X__law_first_bad_4_1 (r : List Slot) (S : Store) : ex B__law_first_bad_4_1 ⟨r, S⟩ = seqF B__law_first_bad_4_2 (ex (.set (.one 11) (.ix (.lst (.cons (.var 7) (.cons (.var 8) .nil))) (.blt .int (.cons (.cmp .eq (.bor 6) (.ks [102, 108, 97, 116])) .nil)))) ⟨r, S⟩) := ex_cons _ _
def B__law_first_bad_4_0 : T := .cons (.set (.many [6, 7, 8, 9, 10]) (.ix (.bor 2) (.bor 5))) B__law_first_bad_4_1
@[simp] theorem X__law_first_bad_4_0 (r : List Slot) (S : Store) : ex B__law_first_bad_4_0 ⟨r, S⟩ = seqF B__law_first_bad_4_1 (ex (.set (.many [6, 7, 8, 9, 10]) (.ix (.bor 2) (.bor 5))) ⟨r, S⟩) := ex_cons _ _
def B__law_first_bad_5_3 : T := .cons (.ret .kn) .nil
@[simp] theorem X__law_first_bad_5_3 (r : List Slot) (S : Store) : ex B__law_first_bad_5_3 ⟨r, S⟩ = seqF .nil (ex (.ret .kn) ⟨r, S⟩) := ex_cons _ _
def B__law_first_bad_5_2 : T := .cons (.for (.one 5) (.rg1 (.blt .len (.cons (.bor 2) .nil))) B__law_first_bad_4_0 [5, 6, 7, 8, 9, 10, 11, 12]) B__law_first_bad_5_3
@[simp] theorem X__law_first_bad_5_2 (r : List Slot) (S : Store) : ex B__law_first_bad_5_2 ⟨r, S⟩ = seqF B__law_first_bad_5_3 (ex (.for (.one 5) (.rg1 (.blt .len (.cons (.bor 2) .nil))) B__law_first_bad_4_0 [5, 6, 7, 8, 9, 10, 11, 12]) ⟨r, S⟩) := ex_cons _ _
def B__law_first_bad_5_1 : T := .cons (.set (.one 4) .dnew) B__law_first_bad_5_2
@[simp] theorem X__law_first_bad_5_1 (r : List Slot) (S : Store) : ex B__law_first_bad_5_1 ⟨r, S⟩ = seqF B__law_first_bad_5_2 (ex (.set (.one 4) .dnew) ⟨r, S⟩) := ex_cons _ _
def B__law_first_bad_5_0 : T := .cons (.dset 3 (.com [13] (.one 13) (.it (.call 15 s__law_edges (.cons (.var 0) (.cons (.var 1) .nil)))) (.kb true) E__law_first_bad_0)) B__law_first_bad_5_1
@[simp] theorem X__law_first_bad_5_0 (r : List Slot) (S : Store) : ex B__law_first_bad_5_0 ⟨r, S⟩ = seqF B__law_first_bad_5_1 (ex (.dset 3 (.com [13] (.one 13) (.it (.call 15 s__law_edges (.cons (.var 0) (.cons (.var 1) .nil)))) (.kb true) E__law_first_bad_0)) ⟨r, S⟩) := ex_cons _ _
def c__law_first_bad : T := B__law_first_bad_5_0
def s__law_first_bad : Fn := runDef 3 14 c__law_first_bad
theorem R__law_first_bad (a0 a1 a2 : Slot) (S : Store) : s__law_first_bad S [a0, a1, a2] = endD (ex B__law_first_bad_5_0 ⟨[a0, a1, a2, .u, .u, .u, .u, .u, .u, .u, .u, .u, .u, .u], S⟩) := run_def _ _ _ _ _ rfl
def B__law_due_0_0 : T := .cons (.ret (.tup (.cons (.ki 0) (.cons .kn .nil)))) .nil
@[simp] theorem X__law_due_0_0 (r : List Slot) (S : Store) : ex B__law_due_0_0 ⟨r, S⟩ = seqF .nil (ex (.ret (.tup (.cons (.ki 0) (.cons .kn .nil)))) ⟨r, S⟩) := ex_cons _ _
def B__law_due_1_0 : T := .cons (.ife (.or (.not (.isi (.bor 4) .int)) (.or (.isi (.bor 4) .bool) (.one (.not (.chn .le .le (.ki 1) (.bor 4) (.ki 8)))))) B__law_due_0_0 .nil) .nil
@[simp] theorem X__law_due_1_0 (r : List Slot) (S : Store) : ex B__law_due_1_0 ⟨r, S⟩ = seqF .nil (ex (.ife (.or (.not (.isi (.bor 4) .int)) (.or (.isi (.bor 4) .bool) (.one (.not (.chn .le .le (.ki 1) (.bor 4) (.ki 8)))))) B__law_due_0_0 .nil) ⟨r, S⟩) := ex_cons _ _
def B__law_due_2_0 : T := .cons (.ret .kn) .nil
@[simp] theorem X__law_due_2_0 (r : List Slot) (S : Store) : ex B__law_due_2_0 ⟨r, S⟩ = seqF .nil (ex (.ret .kn) ⟨r, S⟩) := ex_cons _ _
def B__law_due_3_4 : T := .cons (.ret (.tup (.cons (.ki 0) (.cons (.var 5) .nil)))) .nil
@[simp] theorem X__law_due_3_4 (r : List Slot) (S : Store) : ex B__law_due_3_4 ⟨r, S⟩ = seqF .nil (ex (.ret (.tup (.cons (.ki 0) (.cons (.var 5) .nil)))) ⟨r, S⟩) := ex_cons _ _
def B__law_due_3_3 : T := .cons (.ife (.isn (.bor 5)) B__law_due_2_0 .nil) B__law_due_3_4
@[simp] theorem X__law_due_3_3 (r : List Slot) (S : Store) : ex B__law_due_3_3 ⟨r, S⟩ = seqF B__law_due_3_4 (ex (.ife (.isn (.bor 5)) B__law_due_2_0 .nil) ⟨r, S⟩) := ex_cons _ _
def B__law_due_3_2 : T := .cons (.set (.one 5) (.call 20 s__law_first_bad (.cons (.var 1) (.cons (.var 2) (.cons (.var 3) .nil))))) B__law_due_3_3
@[simp] theorem X__law_due_3_2 (r : List Slot) (S : Store) : ex B__law_due_3_2 ⟨r, S⟩ = seqF B__law_due_3_3 (ex (.set (.one 5) (.call 20 s__law_first_bad (.cons (.var 1) (.cons (.var 2) (.cons (.var 3) .nil))))) ⟨r, S⟩) := ex_cons _ _
def B__law_due_3_1 : T := .cons (.for (.one 4) (.it (.lst (.cons (.var 1) (.cons (.var 2) .nil)))) B__law_due_1_0 [4]) B__law_due_3_2
@[simp] theorem X__law_due_3_1 (r : List Slot) (S : Store) : ex B__law_due_3_1 ⟨r, S⟩ = seqF B__law_due_3_2 (ex (.for (.one 4) (.it (.lst (.cons (.var 1) (.cons (.var 2) .nil)))) B__law_due_1_0 [4]) ⟨r, S⟩) := ex_cons _ _
def B__law_due_3_0 : T := .cons (.set (.many [1, 2, 3]) (.var 0)) B__law_due_3_1
@[simp] theorem X__law_due_3_0 (r : List Slot) (S : Store) : ex B__law_due_3_0 ⟨r, S⟩ = seqF B__law_due_3_1 (ex (.set (.many [1, 2, 3]) (.var 0)) ⟨r, S⟩) := ex_cons _ _
def c__law_due : T := B__law_due_3_0
def s__law_due : Fn := runDef 1 6 c__law_due
theorem R__law_due (a0 : Slot) (S : Store) : s__law_due S [a0] = endD (ex B__law_due_3_0 ⟨[a0, .u, .u, .u, .u, .u], S⟩) := run_def _ _ _ _ _ rfl
def B__law_bent_0_1 : T := .cons (.ret (.bin .add (.bor 11) (.tup (.cons (.var 4) .nil)))) .nil
@[simp] theorem X__law_bent_0_1 (r : List Slot) (S : Store) : ex B__law_bent_0_1 ⟨r, S⟩ = seqF .nil (ex (.ret (.bin .add (.bor 11) (.tup (.cons (.var 4) .nil)))) ⟨r, S⟩) := ex_cons _ _
def B__law_bent_0_0 : T := .cons (.set (.one 11) (.ix (.lst (.cons (.tup (.cons (.ki 0) (.cons (.ki 1) .nil))) (.cons (.tup (.cons (.ki 1) (.cons (.ki 0) .nil))) (.cons (.tup (.cons (.ki 9) (.cons (.ki 1) .nil))) (.cons (.tup (.cons (.ki 1) (.cons (.ki 9) .nil))) (.cons (.tup (.cons (.kb true) (.cons (.ki 1) .nil))) (.cons (.tup (.cons (.ki 1) (.cons .kn .nil))) (.cons (.tup (.cons (.neg (.ki 1)) (.cons (.bin .pow (.ki 10) (.ki 9)) .nil))) .nil)))))))) (.bin .mod (.bor 5) (.ki 7)))) B__law_bent_0_1
@[simp] theorem X__law_bent_0_0 (r : List Slot) (S : Store) : ex B__law_bent_0_0 ⟨r, S⟩ = seqF B__law_bent_0_1 (ex (.set (.one 11) (.ix (.lst (.cons (.tup (.cons (.ki 0) (.cons (.ki 1) .nil))) (.cons (.tup (.cons (.ki 1) (.cons (.ki 0) .nil))) (.cons (.tup (.cons (.ki 9) (.cons (.ki 1) .nil))) (.cons (.tup (.cons (.ki 1) (.cons (.ki 9) .nil))) (.cons (.tup (.cons (.kb true) (.cons (.ki 1) .nil))) (.cons (.tup (.cons (.ki 1) (.cons .kn .nil))) (.cons (.tup (.cons (.neg (.ki 1)) (.cons (.bin .pow (.ki 10) (.ki 9)) .nil))) .nil)))))))) (.bin .mod (.bor 5) (.ki 7)))) ⟨r, S⟩) := ex_cons _ _
def B__law_bent_1_17 : T := .cons (.ret (.tup (.cons (.var 2) (.cons (.var 3) (.cons (.bin .add (.bin .add (.sl (.bor 4) .gap (.one (.bor 10))) (.tup (.cons (.var 9) .nil))) (.sl (.bor 4) (.one (.bor 10)) .gap)) .nil))))) .nil
@[simp] theorem X__law_bent_1_17 (r : List Slot) (S : Store) : ex B__law_bent_1_17 ⟨r, S⟩ = seqF .nil (ex (.ret (.tup (.cons (.var 2) (.cons (.var 3) (.cons (.bin .add (.bin .add (.sl (.bor 4) .gap (.one (.bor 10))) (.tup (.cons (.var 9) .nil))) (.sl (.bor 4) (.one (.bor 10)) .gap)) .nil))))) ⟨r, S⟩) := ex_cons _ _
def B__law_bent_1_16 : T := .cons (.kill [11]) B__law_bent_1_17
@[simp] theorem X__law_bent_1_16 (r : List Slot) (S : Store) : ex B__law_bent_1_16 ⟨r, S⟩ = seqF B__law_bent_1_17 (ex (.kill [11]) ⟨r, S⟩) := ex_cons _ _
def B__law_bent_1_15 : T := .cons (.ife (.cmp .eq (.bin .mod (.bor 1) (.ki 16)) (.ki 15)) B__law_bent_0_0 .nil) B__law_bent_1_16
@[simp] theorem X__law_bent_1_15 (r : List Slot) (S : Store) : ex B__law_bent_1_15 ⟨r, S⟩ = seqF B__law_bent_1_16 (ex (.ife (.cmp .eq (.bin .mod (.bor 1) (.ki 16)) (.ki 15)) B__law_bent_0_0 .nil) ⟨r, S⟩) := ex_cons _ _
def B__law_bent_1_14 : T := .cons (.set (.one 10) (.bin .mod (.bin .fdiv (.bor 5) (.ki 32)) (.bin .add (.blt .len (.cons (.bor 4) .nil)) (.ki 1)))) B__law_bent_1_15
@[simp] theorem X__law_bent_1_14 (r : List Slot) (S : Store) : ex B__law_bent_1_14 ⟨r, S⟩ = seqF B__law_bent_1_15 (ex (.set (.one 10) (.bin .mod (.bin .fdiv (.bor 5) (.ki 32)) (.bin .add (.blt .len (.cons (.bor 4) .nil)) (.ki 1)))) ⟨r, S⟩) := ex_cons _ _
def B__law_bent_1_13 : T := .cons (.set (.one 9) (.ix (.bor 8) (.bin .mod (.bor 5) (.blt .len (.cons (.bor 8) .nil))))) B__law_bent_1_14
@[simp] theorem X__law_bent_1_13 (r : List Slot) (S : Store) : ex B__law_bent_1_13 ⟨r, S⟩ = seqF B__law_bent_1_14 (ex (.set (.one 9) (.ix (.bor 8) (.bin .mod (.bor 5) (.blt .len (.cons (.bor 8) .nil))))) ⟨r, S⟩) := ex_cons _ _
def B__law_bent_1_12 : T := .cons (.app 8 (.tup (.cons (.ks [102, 108, 97, 116]) (.cons (.ki 0) (.cons (.kb false) (.cons (.ks [112]) (.cons (.ks [112]) .nil))))))) B__law_bent_1_13
@[simp] theorem X__law_bent_1_12 (r : List Slot) (S : Store) : ex B__law_bent_1_12 ⟨r, S⟩ = seqF B__law_bent_1_13 (ex (.app 8 (.tup (.cons (.ks [102, 108, 97, 116]) (.cons (.ki 0) (.cons (.kb false) (.cons (.ks [112]) (.cons (.ks [112]) .nil))))))) ⟨r, S⟩) := ex_cons _ _
def B__law_bent_1_11 : T := .cons (.set (.one 8) (.bin .add (.bor 8) (.lst (.cons (.tup (.cons (.ks [117, 112]) (.cons .kn (.cons (.ki 0) (.cons (.ks [112]) (.cons (.ks [112]) .nil)))))) (.cons (.tup (.cons (.ks [102, 108, 97, 116]) (.cons (.ki 0) (.cons .kn (.cons (.ks [112]) (.cons (.ks [112]) .nil)))))) (.cons (.tup (.cons (.ks [117, 112]) (.cons (.kb true) (.cons (.ki 0) (.cons (.ks [112]) (.cons (.ks [112]) .nil)))))) .nil)))))) B__law_bent_1_12
@[simp] theorem X__law_bent_1_11 (r : List Slot) (S : Store) : ex B__law_bent_1_11 ⟨r, S⟩ = seqF B__law_bent_1_12 (ex (.set (.one 8) (.bin .add (.bor 8) (.lst (.cons (.tup (.cons (.ks [117, 112]) (.cons .kn (.cons (.ki 0) (.cons (.ks [112]) (.cons (.ks [112]) .nil)))))) (.cons (.tup (.cons (.ks [102, 108, 97, 116]) (.cons (.ki 0) (.cons .kn (.cons (.ks [112]) (.cons (.ks [112]) .nil)))))) (.cons (.tup (.cons (.ks [117, 112]) (.cons (.kb true) (.cons (.ki 0) (.cons (.ks [112]) (.cons (.ks [112]) .nil)))))) .nil)))))) ⟨r, S⟩) := ex_cons _ _
def B__law_bent_1_10 : T := .cons (.set (.one 8) (.bin .add (.bin .add (.bor 8) (.lst (.cons (.bin .add (.bor 7) (.tup (.cons (.ks [120]) (.cons (.ks [112]) .nil)))) (.cons (.bin .add (.bor 7) (.tup (.cons (.ks [112]) (.cons (.ks []) .nil)))) (.cons (.bin .add (.bor 7) (.tup (.cons (.ks [109]) (.cons (.ks [112]) .nil)))) .nil))))) (.blt .list (.cons (.sl (.bor 4) .gap (.one (.ki 1))) .nil)))) B__law_bent_1_11
@[simp] theorem X__law_bent_1_10 (r : List Slot) (S : Store) : ex B__law_bent_1_10 ⟨r, S⟩ = seqF B__law_bent_1_11 (ex (.set (.one 8) (.bin .add (.bin .add (.bor 8) (.lst (.cons (.bin .add (.bor 7) (.tup (.cons (.ks [120]) (.cons (.ks [112]) .nil)))) (.cons (.bin .add (.bor 7) (.tup (.cons (.ks [112]) (.cons (.ks []) .nil)))) (.cons (.bin .add (.bor 7) (.tup (.cons (.ks [109]) (.cons (.ks [112]) .nil)))) .nil))))) (.blt .list (.cons (.sl (.bor 4) .gap (.one (.ki 1))) .nil)))) ⟨r, S⟩) := ex_cons _ _
def B__law_bent_1_9 : T := .cons (.set (.one 8) (.bin .add (.bor 8) (.lst (.cons (.tup (.cons (.ks [102, 108, 97, 116]) (.cons (.ki 0) (.cons (.var 3) (.cons (.ks [112]) (.cons (.ks [109]) .nil)))))) (.cons (.tup (.cons (.ks [117, 112]) (.cons (.ki 0) (.cons (.neg (.ki 1)) (.cons (.ks [112]) (.cons (.ks [112]) .nil)))))) (.cons (.tup (.cons (.ks [102, 108, 97, 116]) (.cons (.neg (.ki 1)) (.cons (.ki 0) (.cons (.ks [112]) (.cons (.ks [112]) .nil)))))) .nil)))))) B__law_bent_1_10
@[simp] theorem X__law_bent_1_9 (r : List Slot) (S : Store) : ex B__law_bent_1_9 ⟨r, S⟩ = seqF B__law_bent_1_10 (ex (.set (.one 8) (.bin .add (.bor 8) (.lst (.cons (.tup (.cons (.ks [102, 108, 97, 116]) (.cons (.ki 0) (.cons (.var 3) (.cons (.ks [112]) (.cons (.ks [109]) .nil)))))) (.cons (.tup (.cons (.ks [117, 112]) (.cons (.ki 0) (.cons (.neg (.ki 1)) (.cons (.ks [112]) (.cons (.ks [112]) .nil)))))) (.cons (.tup (.cons (.ks [102, 108, 97, 116]) (.cons (.neg (.ki 1)) (.cons (.ki 0) (.cons (.ks [112]) (.cons (.ks [112]) .nil)))))) .nil)))))) ⟨r, S⟩) := ex_cons _ _
def B__law_bent_1_8 : T := .cons (.set (.one 8) (.bin .add (.bor 8) (.lst (.cons (.tup (.cons (.ks [117, 112]) (.cons (.ki 0) (.cons (.ki 0) (.cons (.ks [109]) (.cons (.ks [112]) .nil)))))) (.cons (.tup (.cons (.ks [117, 112]) (.cons (.var 2) (.cons (.ki 0) (.cons (.ks [112]) (.cons (.ks [109]) .nil)))))) (.cons (.tup (.cons (.ks [102, 108, 97, 116]) (.cons (.ki 0) (.cons (.ki 0) (.cons (.ks [109]) (.cons (.ks [109]) .nil)))))) .nil)))))) B__law_bent_1_9
@[simp] theorem X__law_bent_1_8 (r : List Slot) (S : Store) : ex B__law_bent_1_8 ⟨r, S⟩ = seqF B__law_bent_1_9 (ex (.set (.one 8) (.bin .add (.bor 8) (.lst (.cons (.tup (.cons (.ks [117, 112]) (.cons (.ki 0) (.cons (.ki 0) (.cons (.ks [109]) (.cons (.ks [112]) .nil)))))) (.cons (.tup (.cons (.ks [117, 112]) (.cons (.var 2) (.cons (.ki 0) (.cons (.ks [112]) (.cons (.ks [109]) .nil)))))) (.cons (.tup (.cons (.ks [102, 108, 97, 116]) (.cons (.ki 0) (.cons (.ki 0) (.cons (.ks [109]) (.cons (.ks [109]) .nil)))))) .nil)))))) ⟨r, S⟩) := ex_cons _ _
def B__law_bent_1_7 : T := .cons (.set (.one 8) (.bin .add (.bor 8) (.lst (.cons (.tup (.cons (.ks [102, 108, 97, 116]) (.cons (.ki 0) (.cons (.bin .add (.bor 3) (.ki 1)) (.cons (.ks [112]) (.cons (.ks [112]) .nil)))))) (.cons (.tup (.cons (.ks [117, 112]) (.cons (.neg (.ki 1)) (.cons (.ki 0) (.cons (.ks [112]) (.cons (.ks [112]) .nil)))))) (.cons (.tup (.cons (.ks [102, 108, 97, 116]) (.cons (.ki 0) (.cons (.neg (.ki 1)) (.cons (.ks [112]) (.cons (.ks [112]) .nil)))))) .nil)))))) B__law_bent_1_8
@[simp] theorem X__law_bent_1_7 (r : List Slot) (S : Store) : ex B__law_bent_1_7 ⟨r, S⟩ = seqF B__law_bent_1_8 (ex (.set (.one 8) (.bin .add (.bor 8) (.lst (.cons (.tup (.cons (.ks [102, 108, 97, 116]) (.cons (.ki 0) (.cons (.bin .add (.bor 3) (.ki 1)) (.cons (.ks [112]) (.cons (.ks [112]) .nil)))))) (.cons (.tup (.cons (.ks [117, 112]) (.cons (.neg (.ki 1)) (.cons (.ki 0) (.cons (.ks [112]) (.cons (.ks [112]) .nil)))))) (.cons (.tup (.cons (.ks [102, 108, 97, 116]) (.cons (.ki 0) (.cons (.neg (.ki 1)) (.cons (.ks [112]) (.cons (.ks [112]) .nil)))))) .nil)))))) ⟨r, S⟩) := ex_cons _ _
def B__law_bent_1_6 : T := .cons (.set (.one 8) (.bin .add (.bor 8) (.lst (.cons (.tup (.cons (.ks [117, 112]) (.cons (.bin .add (.bor 2) (.ki 1)) (.cons (.ki 0) (.cons (.ks [112]) (.cons (.ks [112]) .nil)))))) (.cons (.tup (.cons (.ks [117, 112]) (.cons (.ki 0) (.cons (.var 3) (.cons (.ks [112]) (.cons (.ks [112]) .nil)))))) (.cons (.tup (.cons (.ks [102, 108, 97, 116]) (.cons (.var 2) (.cons (.ki 0) (.cons (.ks [112]) (.cons (.ks [112]) .nil)))))) .nil)))))) B__law_bent_1_7
@[simp] theorem X__law_bent_1_6 (r : List Slot) (S : Store) : ex B__law_bent_1_6 ⟨r, S⟩ = seqF B__law_bent_1_7 (ex (.set (.one 8) (.bin .add (.bor 8) (.lst (.cons (.tup (.cons (.ks [117, 112]) (.cons (.bin .add (.bor 2) (.ki 1)) (.cons (.ki 0) (.cons (.ks [112]) (.cons (.ks [112]) .nil)))))) (.cons (.tup (.cons (.ks [117, 112]) (.cons (.ki 0) (.cons (.var 3) (.cons (.ks [112]) (.cons (.ks [112]) .nil)))))) (.cons (.tup (.cons (.ks [102, 108, 97, 116]) (.cons (.var 2) (.cons (.ki 0) (.cons (.ks [112]) (.cons (.ks [112]) .nil)))))) .nil)))))) ⟨r, S⟩) := ex_cons _ _
def B__law_bent_1_5 : T := .cons (.app 8 (.bin .add (.bin .add (.tup (.cons (.ks [108, 101, 102, 116]) .nil)) (.sl (.bor 7) (.one (.ki 1)) .gap)) (.tup (.cons (.ks [112]) (.cons (.ks [112]) .nil))))) B__law_bent_1_6
@[simp] theorem X__law_bent_1_5 (r : List Slot) (S : Store) : ex B__law_bent_1_5 ⟨r, S⟩ = seqF B__law_bent_1_6 (ex (.app 8 (.bin .add (.bin .add (.tup (.cons (.ks [108, 101, 102, 116]) .nil)) (.sl (.bor 7) (.one (.ki 1)) .gap)) (.tup (.cons (.ks [112]) (.cons (.ks [112]) .nil))))) ⟨r, S⟩) := ex_cons _ _
def B__law_bent_1_4 : T := .cons (.set (.one 8) (.lst (.cons (.bin .add (.bor 7) (.tup (.cons (.ks [109]) (.cons (.ks [109]) .nil)))) (.cons (.bin .add (.bor 7) (.tup (.cons (.ks [112]) (.cons (.ks [112]) .nil)))) (.cons (.bin .add (.bor 7) (.tup (.cons (.ks [112]) (.cons (.ks [120]) .nil)))) (.cons (.bin .add (.bor 7) (.tup (.cons (.ks []) (.cons (.ks [112]) .nil)))) .nil)))))) B__law_bent_1_5
@[simp] theorem X__law_bent_1_4 (r : List Slot) (S : Store) : ex B__law_bent_1_4 ⟨r, S⟩ = seqF B__law_bent_1_5 (ex (.set (.one 8) (.lst (.cons (.bin .add (.bor 7) (.tup (.cons (.ks [109]) (.cons (.ks [109]) .nil)))) (.cons (.bin .add (.bor 7) (.tup (.cons (.ks [112]) (.cons (.ks [112]) .nil)))) (.cons (.bin .add (.bor 7) (.tup (.cons (.ks [112]) (.cons (.ks [120]) .nil)))) (.cons (.bin .add (.bor 7) (.tup (.cons (.ks []) (.cons (.ks [112]) .nil)))) .nil)))))) ⟨r, S⟩) := ex_cons _ _
def B__law_bent_1_3 : T := .cons (.set (.one 7) (.ix (.bor 6) (.bin .mod (.bor 5) (.blt .len (.cons (.bor 6) .nil))))) B__law_bent_1_4
@[simp] theorem X__law_bent_1_3 (r : List Slot) (S : Store) : ex B__law_bent_1_3 ⟨r, S⟩ = seqF B__law_bent_1_4 (ex (.set (.one 7) (.ix (.bor 6) (.bin .mod (.bor 5) (.blt .len (.cons (.bor 6) .nil))))) ⟨r, S⟩) := ex_cons _ _
def B__law_bent_1_2 : T := .cons (.set (.one 6) (.call 15 s__law_edges (.cons (.var 2) (.cons (.var 3) .nil)))) B__law_bent_1_3
@[simp] theorem X__law_bent_1_2 (r : List Slot) (S : Store) : ex B__law_bent_1_2 ⟨r, S⟩ = seqF B__law_bent_1_3 (ex (.set (.one 6) (.call 15 s__law_edges (.cons (.var 2) (.cons (.var 3) .nil)))) ⟨r, S⟩) := ex_cons _ _
def B__law_bent_1_1 : T := .cons (.set (.one 5) (.bin .fdiv (.bor 1) (.ki 16))) B__law_bent_1_2
@[simp] theorem X__law_bent_1_1 (r : List Slot) (S : Store) : ex B__law_bent_1_1 ⟨r, S⟩ = seqF B__law_bent_1_2 (ex (.set (.one 5) (.bin .fdiv (.bor 1) (.ki 16))) ⟨r, S⟩) := ex_cons _ _
def B__law_bent_1_0 : T := .cons (.set (.many [2, 3, 4]) (.var 0)) B__law_bent_1_1
@[simp] theorem X__law_bent_1_0 (r : List Slot) (S : Store) : ex B__law_bent_1_0 ⟨r, S⟩ = seqF B__law_bent_1_1 (ex (.set (.many [2, 3, 4]) (.var 0)) ⟨r, S⟩) := ex_cons _ _
def c__law_bent : T := B__law_bent_1_0
def s__law_bent : Fn := runDef 2 12 c__law_bent
theorem R__law_bent (a0 a1 : Slot) (S : Store) : s__law_bent S [a0, a1] = endD (ex B__law_bent_1_0 ⟨[a0, a1, .u, .u, .u, .u, .u, .u, .u, .u, .u, .u], S⟩) := run_def _ _ _ _ _ rfl
def B_is_whole_0_0 : T := .cons (.ret (.and (.isi (.bor 0) .int) (.one (.not (.isi (.bor 0) .bool))))) .nil
@[simp] theorem X_is_whole_0_0 (r : List Slot) (S : Store) : ex B_is_whole_0_0 ⟨r, S⟩ = seqF .nil (ex (.ret (.and (.isi (.bor 0) .int) (.one (.not (.isi (.bor 0) .bool))))) ⟨r, S⟩) := ex_cons _ _
def c_is_whole : T := B_is_whole_0_0
def s_is_whole : Fn := runDef 1 1 c_is_whole
theorem R_is_whole (a0 : Slot) (S : Store) : s_is_whole S [a0] = endD (ex B_is_whole_0_0 ⟨[a0], S⟩) := run_def _ _ _ _ _ rfl
def B_is_size_0_0 : T := .cons (.ret (.and (.call 5 s_is_whole (.cons (.var 0) .nil)) (.one (.chn .le .le (.ki 1) (.bor 0) (.glo 0 k_MOST))))) .nil
@[simp] theorem X_is_size_0_0 (r : List Slot) (S : Store) : ex B_is_size_0_0 ⟨r, S⟩ = seqF .nil (ex (.ret (.and (.call 5 s_is_whole (.cons (.var 0) .nil)) (.one (.chn .le .le (.ki 1) (.bor 0) (.glo 0 k_MOST))))) ⟨r, S⟩) := ex_cons _ _
def c_is_size : T := B_is_size_0_0
def s_is_size : Fn := runDef 1 1 c_is_size
theorem R_is_size (a0 : Slot) (S : Store) : s_is_size S [a0] = endD (ex B_is_size_0_0 ⟨[a0], S⟩) := run_def _ _ _ _ _ rfl
def B_is_edge_0_0 : T := .cons (.ret (.kb false)) .nil
@[simp] theorem X_is_edge_0_0 (r : List Slot) (S : Store) : ex B_is_edge_0_0 ⟨r, S⟩ = seqF .nil (ex (.ret (.kb false)) ⟨r, S⟩) := ex_cons _ _
def B_is_edge_1_0 : T := .cons (.ret (.and (.chn .le .le (.ki 0) (.bor 3) (.bor 0)) (.one (.chn .le .lt (.ki 0) (.bor 4) (.bor 1))))) .nil
@[simp] theorem X_is_edge_1_0 (r : List Slot) (S : Store) : ex B_is_edge_1_0 ⟨r, S⟩ = seqF .nil (ex (.ret (.and (.chn .le .le (.ki 0) (.bor 3) (.bor 0)) (.one (.chn .le .lt (.ki 0) (.bor 4) (.bor 1))))) ⟨r, S⟩) := ex_cons _ _
def B_is_edge_2_2 : T := .cons (.ret (.and (.cmp .eq (.bor 2) (.ks [102, 108, 97, 116])) (.and (.chn .le .lt (.ki 0) (.bor 3) (.bor 0)) (.one (.chn .le .le (.ki 0) (.bor 4) (.bor 1)))))) .nil
@[simp] theorem X_is_edge_2_2 (r : List Slot) (S : Store) : ex B_is_edge_2_2 ⟨r, S⟩ = seqF .nil (ex (.ret (.and (.cmp .eq (.bor 2) (.ks [102, 108, 97, 116])) (.and (.chn .le .lt (.ki 0) (.bor 3) (.bor 0)) (.one (.chn .le .le (.ki 0) (.bor 4) (.bor 1)))))) ⟨r, S⟩) := ex_cons _ _
def B_is_edge_2_1 : T := .cons (.ife (.cmp .eq (.bor 2) (.ks [117, 112])) B_is_edge_1_0 .nil) B_is_edge_2_2
@[simp] theorem X_is_edge_2_1 (r : List Slot) (S : Store) : ex B_is_edge_2_1 ⟨r, S⟩ = seqF B_is_edge_2_2 (ex (.ife (.cmp .eq (.bor 2) (.ks [117, 112])) B_is_edge_1_0 .nil) ⟨r, S⟩) := ex_cons _ _
def B_is_edge_2_0 : T := .cons (.ife (.or (.not (.call 5 s_is_whole (.cons (.var 3) .nil))) (.one (.not (.call 5 s_is_whole (.cons (.var 4) .nil))))) B_is_edge_0_0 .nil) B_is_edge_2_1
@[simp] theorem X_is_edge_2_0 (r : List Slot) (S : Store) : ex B_is_edge_2_0 ⟨r, S⟩ = seqF B_is_edge_2_1 (ex (.ife (.or (.not (.call 5 s_is_whole (.cons (.var 3) .nil))) (.one (.not (.call 5 s_is_whole (.cons (.var 4) .nil))))) B_is_edge_0_0 .nil) ⟨r, S⟩) := ex_cons _ _
def c_is_edge : T := B_is_edge_2_0
def s_is_edge : Fn := runDef 5 5 c_is_edge
theorem R_is_edge (a0 a1 a2 a3 a4 : Slot) (S : Store) : s_is_edge S [a0, a1, a2, a3, a4] = endD (ex B_is_edge_2_0 ⟨[a0, a1, a2, a3, a4], S⟩) := run_def _ _ _ _ _ rfl
def B_looks_in_0_0 : T := .cons (.par [8, 9] (.cons (.var 5) (.cons (.var 1) .nil))) .nil
@[simp] theorem X_looks_in_0_0 (r : List Slot) (S : Store) : ex B_looks_in_0_0 ⟨r, S⟩ = seqF .nil (ex (.par [8, 9] (.cons (.var 5) (.cons (.var 1) .nil))) ⟨r, S⟩) := ex_cons _ _
def B_looks_in_1_3 : T := .cons (.ret (.and (.or (.cmp .gt (.bor 8) (.ki 0)) (.one (.cmp .eq (.bor 6) (.ks [112])))) (.one (.or (.cmp .lt (.bor 8) (.bor 9)) (.one (.cmp .eq (.bor 7) (.ks [112]))))))) .nil
@[simp] theorem X_looks_in_1_3 (r : List Slot) (S : Store) : ex B_looks_in_1_3 ⟨r, S⟩ = seqF .nil (ex (.ret (.and (.or (.cmp .gt (.bor 8) (.ki 0)) (.one (.cmp .eq (.bor 6) (.ks [112])))) (.one (.or (.cmp .lt (.bor 8) (.bor 9)) (.one (.cmp .eq (.bor 7) (.ks [112]))))))) ⟨r, S⟩) := ex_cons _ _
def B_looks_in_1_2 : T := .cons (.ife (.cmp .eq (.bor 3) (.ks [102, 108, 97, 116])) B_looks_in_0_0 .nil) B_looks_in_1_3
@[simp] theorem X_looks_in_1_2 (r : List Slot) (S : Store) : ex B_looks_in_1_2 ⟨r, S⟩ = seqF B_looks_in_1_3 (ex (.ife (.cmp .eq (.bor 3) (.ks [102, 108, 97, 116])) B_looks_in_0_0 .nil) ⟨r, S⟩) := ex_cons _ _
def B_looks_in_1_1 : T := .cons (.par [8, 9] (.cons (.var 4) (.cons (.var 0) .nil))) B_looks_in_1_2
@[simp] theorem X_looks_in_1_1 (r : List Slot) (S : Store) : ex B_looks_in_1_1 ⟨r, S⟩ = seqF B_looks_in_1_2 (ex (.par [8, 9] (.cons (.var 4) (.cons (.var 0) .nil))) ⟨r, S⟩) := ex_cons _ _
def B_looks_in_1_0 : T := .cons (.set (.many [3, 4, 5, 6, 7]) (.var 2)) B_looks_in_1_1
@[simp] theorem X_looks_in_1_0 (r : List Slot) (S : Store) : ex B_looks_in_1_0 ⟨r, S⟩ = seqF B_looks_in_1_1 (ex (.set (.many [3, 4, 5, 6, 7]) (.var 2)) ⟨r, S⟩) := ex_cons _ _
def c_looks_in : T := B_looks_in_1_0
def s_looks_in : Fn := runDef 3 10 c_looks_in
theorem R_looks_in (a0 a1 a2 : Slot) (S : Store) : s_looks_in S [a0, a1, a2] = endD (ex B_looks_in_1_0 ⟨[a0, a1, a2, .u, .u, .u, .u, .u, .u, .u], S⟩) := run_def _ _ _ _ _ rfl
def B_is_side_0_0 : T := .cons (.ret (.kb false)) .nil
@[simp] theorem X_is_side_0_0 (r : List Slot) (S : Store) : ex B_is_side_0_0 ⟨r, S⟩ = seqF .nil (ex (.ret (.kb false)) ⟨r, S⟩) := ex_cons _ _
def B_is_side_1_2 : T := .cons (.ret (.call 8 s_looks_in (.cons (.var 0) (.cons (.var 1) (.cons (.var 2) .nil))))) .nil
@[simp] theorem X_is_side_1_2 (r : List Slot) (S : Store) : ex B_is_side_1_2 ⟨r, S⟩ = seqF .nil (ex (.ret (.call 8 s_looks_in (.cons (.var 0) (.cons (.var 1) (.cons (.var 2) .nil))))) ⟨r, S⟩) := ex_cons _ _
def B_is_side_1_1 : T := .cons (.ife (.or (.not (.call 7 s_is_edge (.cons (.var 0) (.cons (.var 1) (.cons (.var 3) (.cons (.var 4) (.cons (.var 5) .nil))))))) (.or (.cmp .nmem (.bor 6) (.glo 1 k_FACES)) (.one (.cmp .nmem (.bor 7) (.glo 1 k_FACES))))) B_is_side_0_0 .nil) B_is_side_1_2
@[simp] theorem X_is_side_1_1 (r : List Slot) (S : Store) : ex B_is_side_1_1 ⟨r, S⟩ = seqF B_is_side_1_2 (ex (.ife (.or (.not (.call 7 s_is_edge (.cons (.var 0) (.cons (.var 1) (.cons (.var 3) (.cons (.var 4) (.cons (.var 5) .nil))))))) (.or (.cmp .nmem (.bor 6) (.glo 1 k_FACES)) (.one (.cmp .nmem (.bor 7) (.glo 1 k_FACES))))) B_is_side_0_0 .nil) ⟨r, S⟩) := ex_cons _ _
def B_is_side_1_0 : T := .cons (.set (.many [3, 4, 5, 6, 7]) (.var 2)) B_is_side_1_1
@[simp] theorem X_is_side_1_0 (r : List Slot) (S : Store) : ex B_is_side_1_0 ⟨r, S⟩ = seqF B_is_side_1_1 (ex (.set (.many [3, 4, 5, 6, 7]) (.var 2)) ⟨r, S⟩) := ex_cons _ _
def c_is_side : T := B_is_side_1_0
def s_is_side : Fn := runDef 3 8 c_is_side
theorem R_is_side (a0 a1 a2 : Slot) (S : Store) : s_is_side S [a0, a1, a2] = endD (ex B_is_side_1_0 ⟨[a0, a1, a2, .u, .u, .u, .u, .u], S⟩) := run_def _ _ _ _ _ rfl
def B_checked_0_0 : T := .cons (.raise [78, 111, 72, 97, 108, 108] [[115, 105, 100, 101]] (.cons .kn .nil)) .nil
@[simp] theorem X_checked_0_0 (r : List Slot) (S : Store) : ex B_checked_0_0 ⟨r, S⟩ = seqF .nil (ex (.raise [78, 111, 72, 97, 108, 108] [[115, 105, 100, 101]] (.cons .kn .nil)) ⟨r, S⟩) := ex_cons _ _
def B_checked_1_0 : T := .cons (.raise [78, 111, 72, 97, 108, 108] [[115, 105, 100, 101]] (.cons (.var 5) .nil)) .nil
@[simp] theorem X_checked_1_0 (r : List Slot) (S : Store) : ex B_checked_1_0 ⟨r, S⟩ = seqF .nil (ex (.raise [78, 111, 72, 97, 108, 108] [[115, 105, 100, 101]] (.cons (.var 5) .nil)) ⟨r, S⟩) := ex_cons _ _
def B_checked_2_1 : T := .cons (.dput 4 (.sl (.ix (.bor 3) (.bor 5)) .gap (.one (.ki 3))) (.kb true)) .nil
@[simp] theorem X_checked_2_1 (r : List Slot) (S : Store) : ex B_checked_2_1 ⟨r, S⟩ = seqF .nil (ex (.dput 4 (.sl (.ix (.bor 3) (.bor 5)) .gap (.one (.ki 3))) (.kb true)) ⟨r, S⟩) := ex_cons _ _
def B_checked_2_0 : T := .cons (.ife (.or (.not (.call 9 s_is_side (.cons (.var 1) (.cons (.var 2) (.cons (.ix (.bor 3) (.bor 5)) .nil))))) (.one (.cmp .mem (.sl (.ix (.bor 3) (.bor 5)) .gap (.one (.ki 3))) (.bor 4)))) B_checked_1_0 .nil) B_checked_2_1
@[simp] theorem X_checked_2_0 (r : List Slot) (S : Store) : ex B_checked_2_0 ⟨r, S⟩ = seqF B_checked_2_1 (ex (.ife (.or (.not (.call 9 s_is_side (.cons (.var 1) (.cons (.var 2) (.cons (.ix (.bor 3) (.bor 5)) .nil))))) (.one (.cmp .mem (.sl (.ix (.bor 3) (.bor 5)) .gap (.one (.ki 3))) (.bor 4)))) B_checked_1_0 .nil) ⟨r, S⟩) := ex_cons _ _
def B_checked_3_4 : T := .cons (.ret (.tup (.cons (.var 1) (.cons (.var 2) (.cons (.blt .tuple (.cons (.blt .sorted (.cons (.bor 3) .nil)) .nil)) .nil))))) .nil
@[simp] theorem X_checked_3_4 (r : List Slot) (S : Store) : ex B_checked_3_4 ⟨r, S⟩ = seqF .nil (ex (.ret (.tup (.cons (.var 1) (.cons (.var 2) (.cons (.blt .tuple (.cons (.blt .sorted (.cons (.bor 3) .nil)) .nil)) .nil))))) ⟨r, S⟩) := ex_cons _ _
def B_checked_3_3 : T := .cons (.for (.one 5) (.rg1 (.blt .len (.cons (.bor 3) .nil))) B_checked_2_0 [5]) B_checked_3_4
@[simp] theorem X_checked_3_3 (r : List Slot) (S : Store) : ex B_checked_3_3 ⟨r, S⟩ = seqF B_checked_3_4 (ex (.for (.one 5) (.rg1 (.blt .len (.cons (.bor 3) .nil))) B_checked_2_0 [5]) ⟨r, S⟩) := ex_cons _ _
def B_checked_3_2 : T := .cons (.set (.one 4) .dnew) B_checked_3_3
@[simp] theorem X_checked_3_2 (r : List Slot) (S : Store) : ex B_checked_3_2 ⟨r, S⟩ = seqF B_checked_3_3 (ex (.set (.one 4) .dnew) ⟨r, S⟩) := ex_cons _ _
def B_checked_3_1 : T := .cons (.ife (.or (.not (.call 6 s_is_size (.cons (.var 1) .nil))) (.one (.not (.call 6 s_is_size (.cons (.var 2) .nil))))) B_checked_0_0 .nil) B_checked_3_2
@[simp] theorem X_checked_3_1 (r : List Slot) (S : Store) : ex B_checked_3_1 ⟨r, S⟩ = seqF B_checked_3_2 (ex (.ife (.or (.not (.call 6 s_is_size (.cons (.var 1) .nil))) (.one (.not (.call 6 s_is_size (.cons (.var 2) .nil))))) B_checked_0_0 .nil) ⟨r, S⟩) := ex_cons _ _
def B_checked_3_0 : T := .cons (.set (.many [1, 2, 3]) (.var 0)) B_checked_3_1
@[simp] theorem X_checked_3_0 (r : List Slot) (S : Store) : ex B_checked_3_0 ⟨r, S⟩ = seqF B_checked_3_1 (ex (.set (.many [1, 2, 3]) (.var 0)) ⟨r, S⟩) := ex_cons _ _
def c_checked : T := B_checked_3_0
def s_checked : Fn := runDef 1 6 c_checked
theorem R_checked (a0 : Slot) (S : Store) : s_checked S [a0] = endD (ex B_checked_3_0 ⟨[a0, .u, .u, .u, .u, .u], S⟩) := run_def _ _ _ _ _ rfl
def E__law_only_0 : E := (.cmp .eq (.bor 3) (.bor 1))
@[simp] theorem XE__law_only_0 (r : List Slot) (S : Store) : ev E__law_only_0 ⟨r, S⟩ = ev (.cmp .eq (.bor 3) (.bor 1)) ⟨r, S⟩ := rfl
def B__law_only_1_2 : T := .cons (.ret (.and (.isx (.bor 0) [83, 105, 103, 104, 116, 69, 114, 114, 111, 114] [[78, 111, 72, 97, 108, 108]] []) (.and (.isx (.bor 0) [86, 97, 108, 117, 101, 69, 114, 114, 111, 114] [[78, 111, 72, 97, 108, 108]] []) (.one (.cmp .eq (.bor 2) (.com [3] (.one 3) (.rg1 (.ki 7)) (.kb true) E__law_only_0)))))) .nil
@[simp] theorem X__law_only_1_2 (r : List Slot) (S : Store) : ex B__law_only_1_2 ⟨r, S⟩ = seqF .nil (ex (.ret (.and (.isx (.bor 0) [83, 105, 103, 104, 116, 69, 114, 114, 111, 114] [[78, 111, 72, 97, 108, 108]] []) (.and (.isx (.bor 0) [86, 97, 108, 117, 101, 69, 114, 114, 111, 114] [[78, 111, 72, 97, 108, 108]] []) (.one (.cmp .eq (.bor 2) (.com [3] (.one 3) (.rg1 (.ki 7)) (.kb true) E__law_only_0)))))) ⟨r, S⟩) := ex_cons _ _
def B__law_only_1_1 : T := .cons (.set (.one 2) (.bin .add (.bor 2) (.lst (.cons (.isx (.bor 0) [78, 111, 82, 105, 110, 103] [] [[78, 111, 72, 97, 108, 108]]) (.cons (.isx (.bor 0) [78, 111, 82, 111, 119] [] [[78, 111, 72, 97, 108, 108]]) (.cons (.isx (.bor 0) [78, 111, 78, 97, 109, 101] [] [[78, 111, 72, 97, 108, 108]]) .nil)))))) B__law_only_1_2
@[simp] theorem X__law_only_1_1 (r : List Slot) (S : Store) : ex B__law_only_1_1 ⟨r, S⟩ = seqF B__law_only_1_2 (ex (.set (.one 2) (.bin .add (.bor 2) (.lst (.cons (.isx (.bor 0) [78, 111, 82, 105, 110, 103] [] [[78, 111, 72, 97, 108, 108]]) (.cons (.isx (.bor 0) [78, 111, 82, 111, 119] [] [[78, 111, 72, 97, 108, 108]]) (.cons (.isx (.bor 0) [78, 111, 78, 97, 109, 101] [] [[78, 111, 72, 97, 108, 108]]) .nil)))))) ⟨r, S⟩) := ex_cons _ _
def B__law_only_1_0 : T := .cons (.set (.one 2) (.lst (.cons (.isx (.bor 0) [78, 111, 72, 97, 108, 108] [[78, 111, 72, 97, 108, 108]] []) (.cons (.isx (.bor 0) [78, 111, 84, 101, 120, 116] [] [[78, 111, 72, 97, 108, 108]]) (.cons (.isx (.bor 0) [78, 111, 80, 101, 114, 115, 111, 110] [] [[78, 111, 72, 97, 108, 108]]) (.cons (.isx (.bor 0) [78, 111, 72, 105, 100, 105, 110, 103] [] [[78, 111, 72, 97, 108, 108]]) .nil)))))) B__law_only_1_1
@[simp] theorem X__law_only_1_0 (r : List Slot) (S : Store) : ex B__law_only_1_0 ⟨r, S⟩ = seqF B__law_only_1_1 (ex (.set (.one 2) (.lst (.cons (.isx (.bor 0) [78, 111, 72, 97, 108, 108] [[78, 111, 72, 97, 108, 108]] []) (.cons (.isx (.bor 0) [78, 111, 84, 101, 120, 116] [] [[78, 111, 72, 97, 108, 108]]) (.cons (.isx (.bor 0) [78, 111, 80, 101, 114, 115, 111, 110] [] [[78, 111, 72, 97, 108, 108]]) (.cons (.isx (.bor 0) [78, 111, 72, 105, 100, 105, 110, 103] [] [[78, 111, 72, 97, 108, 108]]) .nil)))))) ⟨r, S⟩) := ex_cons _ _
def c__law_only : T := B__law_only_1_0
def s__law_only : Fn := runDef 2 4 c__law_only
theorem R__law_only (a0 a1 : Slot) (S : Store) : s__law_only S [a0, a1] = endD (ex B__law_only_1_0 ⟨[a0, a1, .u, .u], S⟩) := run_def _ _ _ _ _ rfl
def B_law_0_0 : T := .cons (.set (.one 1) (.call 19 s__law_bent (.cons (.var 1) (.cons (.call 11 s__law_cell (.cons (.var 0) (.cons (.bin .add (.ki 4) (.bor 2)) .nil))) .nil)))) .nil
@[simp] theorem X_law_0_0 (r : List Slot) (S : Store) : ex B_law_0_0 ⟨r, S⟩ = seqF .nil (ex (.set (.one 1) (.call 19 s__law_bent (.cons (.var 1) (.cons (.call 11 s__law_cell (.cons (.var 0) (.cons (.bin .add (.ki 4) (.bor 2)) .nil))) .nil)))) ⟨r, S⟩) := ex_cons _ _
def B_law_1_0 : T := .cons (.ife (.cmp .ne (.call 21 s__law_due (.cons (.var 1) .nil)) (.tup (.cons (.ki 0) (.cons .kn .nil)))) B_law_0_0 .nil) .nil
@[simp] theorem X_law_1_0 (r : List Slot) (S : Store) : ex B_law_1_0 ⟨r, S⟩ = seqF .nil (ex (.ife (.cmp .ne (.call 21 s__law_due (.cons (.var 1) .nil)) (.tup (.cons (.ki 0) (.cons .kn .nil)))) B_law_0_0 .nil) ⟨r, S⟩) := ex_cons _ _
def B_law_2_0 : T := .cons (.ife (.cmp .eq (.bin .mod (.bin .fdiv (.call 11 s__law_cell (.cons (.var 0) (.cons (.ki 3) .nil))) (.bin .add (.ki 1) (.bin .mul (.ki 2) (.bor 2)))) (.ki 3)) (.ki 1)) B_law_1_0 .nil) .nil
@[simp] theorem X_law_2_0 (r : List Slot) (S : Store) : ex B_law_2_0 ⟨r, S⟩ = seqF .nil (ex (.ife (.cmp .eq (.bin .mod (.bin .fdiv (.call 11 s__law_cell (.cons (.var 0) (.cons (.ki 3) .nil))) (.bin .add (.ki 1) (.bin .mul (.ki 2) (.bor 2)))) (.ki 3)) (.ki 1)) B_law_1_0 .nil) ⟨r, S⟩) := ex_cons _ _
def B_law_3_0 : T := .cons (.set (.one 4) (.call 10 s_checked (.cons (.var 1) .nil))) .nil
@[simp] theorem X_law_3_0 (r : List Slot) (S : Store) : ex B_law_3_0 ⟨r, S⟩ = seqF .nil (ex (.set (.one 4) (.call 10 s_checked (.cons (.var 1) .nil))) ⟨r, S⟩) := ex_cons _ _
def B_law_4_0 : T := .cons (.ret (.and (.isn (.bor 5)) (.one (.cmp .eq (.bor 4) (.bin .add (.sl (.bor 1) .gap (.one (.ki 2))) (.tup (.cons (.blt .tuple (.cons (.blt .sorted (.cons (.ix (.bor 1) (.ki 2)) .nil)) .nil)) .nil))))))) .nil
@[simp] theorem X_law_4_0 (r : List Slot) (S : Store) : ex B_law_4_0 ⟨r, S⟩ = seqF .nil (ex (.ret (.and (.isn (.bor 5)) (.one (.cmp .eq (.bor 4) (.bin .add (.sl (.bor 1) .gap (.one (.ki 2))) (.tup (.cons (.blt .tuple (.cons (.blt .sorted (.cons (.ix (.bor 1) (.ki 2)) .nil)) .nil)) .nil))))))) ⟨r, S⟩) := ex_cons _ _
def B_law_5_8 : T := .cons (.ret (.and (.isnn (.bor 5)) (.and (.call 14 s__law_only (.cons (.var 5) (.cons (.ki 0) .nil))) (.one (.cmp .eq (.xf (.var 5) [115, 105, 100, 101] [[78, 111, 72, 97, 108, 108]]) (.ix (.bor 3) (.ki 1))))))) .nil
@[simp] theorem X_law_5_8 (r : List Slot) (S : Store) : ex B_law_5_8 ⟨r, S⟩ = seqF .nil (ex (.ret (.and (.isnn (.bor 5)) (.and (.call 14 s__law_only (.cons (.var 5) (.cons (.ki 0) .nil))) (.one (.cmp .eq (.xf (.var 5) [115, 105, 100, 101] [[78, 111, 72, 97, 108, 108]]) (.ix (.bor 3) (.ki 1))))))) ⟨r, S⟩) := ex_cons _ _
def B_law_5_7 : T := .cons (.ife (.isn (.bor 3)) B_law_4_0 .nil) B_law_5_8
@[simp] theorem X_law_5_7 (r : List Slot) (S : Store) : ex B_law_5_7 ⟨r, S⟩ = seqF B_law_5_8 (ex (.ife (.isn (.bor 3)) B_law_4_0 .nil) ⟨r, S⟩) := ex_cons _ _
def B_law_5_6 : T := .cons (.tri B_law_3_0 [⟨[83, 105, 103, 104, 116, 69, 114, 114, 111, 114], [[78, 111, 72, 97, 108, 108]], [], (some 6), (.set 5 (.var 6))⟩]) B_law_5_7
@[simp] theorem X_law_5_6 (r : List Slot) (S : Store) : ex B_law_5_6 ⟨r, S⟩ = seqF B_law_5_7 (ex (.tri B_law_3_0 [⟨[83, 105, 103, 104, 116, 69, 114, 114, 111, 114], [[78, 111, 72, 97, 108, 108]], [], (some 6), (.set 5 (.var 6))⟩]) ⟨r, S⟩) := ex_cons _ _
def B_law_5_5 : T := .cons (.set (.one 5) .kn) B_law_5_6
@[simp] theorem X_law_5_5 (r : List Slot) (S : Store) : ex B_law_5_5 ⟨r, S⟩ = seqF B_law_5_6 (ex (.set (.one 5) .kn) ⟨r, S⟩) := ex_cons _ _
def B_law_5_4 : T := .cons (.set (.one 4) .kn) B_law_5_5
@[simp] theorem X_law_5_4 (r : List Slot) (S : Store) : ex B_law_5_4 ⟨r, S⟩ = seqF B_law_5_5 (ex (.set (.one 4) .kn) ⟨r, S⟩) := ex_cons _ _
def B_law_5_3 : T := .cons (.set (.one 3) (.call 21 s__law_due (.cons (.var 1) .nil))) B_law_5_4
@[simp] theorem X_law_5_3 (r : List Slot) (S : Store) : ex B_law_5_3 ⟨r, S⟩ = seqF B_law_5_4 (ex (.set (.one 3) (.call 21 s__law_due (.cons (.var 1) .nil))) ⟨r, S⟩) := ex_cons _ _
def B_law_5_2 : T := .cons (.for (.one 2) (.rg1 (.ki 2)) B_law_2_0 [2]) B_law_5_3
@[simp] theorem X_law_5_2 (r : List Slot) (S : Store) : ex B_law_5_2 ⟨r, S⟩ = seqF B_law_5_3 (ex (.for (.one 2) (.rg1 (.ki 2)) B_law_2_0 [2]) ⟨r, S⟩) := ex_cons _ _
def B_law_5_1 : T := .cons (.set (.one 1) (.bin .add (.sl (.bor 1) .gap (.one (.ki 2))) (.tup (.cons (.call 18 s__law_shuffled (.cons (.ix (.bor 1) (.ki 2)) (.cons (.call 11 s__law_cell (.cons (.var 0) (.cons (.ki 2) .nil))) .nil))) .nil)))) B_law_5_2
@[simp] theorem X_law_5_1 (r : List Slot) (S : Store) : ex B_law_5_1 ⟨r, S⟩ = seqF B_law_5_2 (ex (.set (.one 1) (.bin .add (.sl (.bor 1) .gap (.one (.ki 2))) (.tup (.cons (.call 18 s__law_shuffled (.cons (.ix (.bor 1) (.ki 2)) (.cons (.call 11 s__law_cell (.cons (.var 0) (.cons (.ki 2) .nil))) .nil))) .nil)))) ⟨r, S⟩) := ex_cons _ _
def B_law_5_0 : T := .cons (.set (.one 1) (.call 17 s__law_hall (.cons (.call 11 s__law_cell (.cons (.var 0) (.cons (.ki 0) .nil))) (.cons (.call 11 s__law_cell (.cons (.var 0) (.cons (.ki 1) .nil))) (.cons (.ix (.lst (.cons (.ki 8) (.cons (.ki 3) .nil))) (.bin .mod (.bin .fdiv (.call 11 s__law_cell (.cons (.var 0) (.cons (.ki 0) .nil))) (.ki 64)) (.ki 2))) .nil))))) B_law_5_1
@[simp] theorem X_law_5_0 (r : List Slot) (S : Store) : ex B_law_5_0 ⟨r, S⟩ = seqF B_law_5_1 (ex (.set (.one 1) (.call 17 s__law_hall (.cons (.call 11 s__law_cell (.cons (.var 0) (.cons (.ki 0) .nil))) (.cons (.call 11 s__law_cell (.cons (.var 0) (.cons (.ki 1) .nil))) (.cons (.ix (.lst (.cons (.ki 8) (.cons (.ki 3) .nil))) (.bin .mod (.bin .fdiv (.call 11 s__law_cell (.cons (.var 0) (.cons (.ki 0) .nil))) (.ki 64)) (.ki 2))) .nil))))) ⟨r, S⟩) := ex_cons _ _
def c_law : T := B_law_5_0
def s_law : Fn := runDef 1 7 c_law
theorem R_law (a0 : Slot) (S : Store) : s_law S [a0] = endD (ex B_law_5_0 ⟨[a0, .u, .u, .u, .u, .u, .u], S⟩) := run_def _ _ _ _ _ rfl
theorem f_cell (S : Store) (ns : List Int) (k : Nat) : s__law_cell S [.v (.scr (ns.map D.int)) false, .v (.int k) false] = .ok (.sh (.int (ns.getD k 0))) S := by
  simp [R__law_cell, slop, cut1]
  cases h : ns[k]? <;> simp
theorem f_numbers (S : Store) (c : Int) (m : Nat) (hm : m ≤ 1000000) : s__law_numbers S [.v (.int c) false, .v (.int m) false] = .ok (.fr (.lst ((numsOf c m).map D.int))) S := by
  have m0 : mulOk (c % 1999999973 + 31) 765432101 = true := mulOk_of 160 160 (by omega) (by omega) (by decide) (by decide) (by decide)
  have key : ∀ (n k : Nat) (x z : Int) (ys : List Int), k + n ≤ 1000000 → ys.length = k → 0 ≤ x → x < 1999999973 → 0 ≤ z → ∃ (x1 z1 : Int) , loopF (.one 5) B__law_numbers_1_0 [5] ((List.range' k n).map fun k => D.int (k : Nat)) ⟨[.v (.int c) false, .v (.int m) false, .v (.lst (ys.map D.int)) true, .v (.int x) false, .v (.int z) false, .u], S⟩ =
      .ok .nxt ⟨[.v (.int c) false, .v (.int m) false, .v (.lst ((ys ++ numsGo numG (fun z => z / 1000000) n k x z).map D.int)) true, .v (.int x1) false, .v (.int z1) false, .u], S⟩ := by
    intro n
    induction n with
    | zero => intro k x z ys _ _ _ _ _; exact ⟨x, z, by simp [numsGo]⟩
    | succ n ih =>
      intro k x z ys hk hy h1 h2 h3
      have y1 : 0 ≤ x % 65521 := Int.emod_nonneg _ (by decide)
      have y2 : x % 65521 < 65521 := Int.emod_lt_of_pos _ (by decide)
      have m1 : mulOk x (x % 65521 + 40487) = true := mulOk_s (by omega) (by omega) (by omega) (by omega)
      have m2 : mulOk 7 (k : Int) = true := mulOk_s (by decide) (by decide) (by omega) (by omega)
      have w1 : 0 ≤ (x * (x % 65521 + 40487) + 7 * (k : Int) + 5) % 1999999973 := Int.emod_nonneg _ (by decide)
      have w2 : (x * (x % 65521 + 40487) + 7 * (k : Int) + 5) % 1999999973 < 1999999973 := Int.emod_lt_of_pos _ (by decide)
      have z4 : 0 ≤ z / 1000000 := Int.ediv_nonneg h3 (by omega)
      have fl : ys.length + 1 ≤ 16777216 := by omega
      obtain ⟨x1, z1, e⟩ := ih (k + 1) ((x * (x % 65521 + 40487) + 7 * (k : Int) + 5) % 1999999973) (z / 1000000) (ys ++ [numG ((x * (x % 65521 + 40487) + 7 * (k : Int) + 5) % 1999999973) z]) (by omega) (by simp [hy]) w1 w2 z4
      refine ⟨x1, z1, ?_⟩
      rw [List.range'_succ, List.map_cons, loopF_turn, numsGo]
      have e2 : turnB (.one 5) B__law_numbers_1_0 [5] (.int (k : Nat)) ⟨[.v (.int c) false, .v (.int m) false, .v (.lst (ys.map D.int)) true, .v (.int x) false, .v (.int z) false, .u], S⟩ = .ok .nxt ⟨[.v (.int c) false, .v (.int m) false, .v (.lst ((ys ++ [numG ((x * (x % 65521 + 40487) + 7 * (k : Int) + 5) % 1999999973) z]).map D.int)) true, .v (.int ((x * (x % 65521 + 40487) + 7 * (k : Int) + 5) % 1999999973)) false, .v (.int (z / 1000000)) false, .u], S⟩ := by
        have fl' : ys.length ≤ 16777215 := by omega
        unfold numG
        by_cases hz : 0 < z <;> simp [turnB, m1, m2, hz, lstAt, wrL, fl']
      rw [e2, bind_ok, nextF_nxt, e]
      simp
  obtain ⟨x1, z1, e⟩ := key m 0 (seed c) (rest c) [] (by omega) rfl (seed_lo c) (seed_hi c) (rest_lo c)
  have r1 : rgOk (m : Int) = true := rgOk_nat (by omega)
  have e' := e
  rw [← range_map_eq] at e'
  unfold seed rest at e'
  simp only [List.map_nil, List.nil_append] at e'
  unfold numsOf seed rest
  by_cases h0 : c < 0
  · simp [h0] at e' ⊢
    simp [R__law_numbers, m0, h0, r1, e']
  · by_cases h1 : 1000000000000000000 ≤ c
    · simp [h0, h1] at e' ⊢
      simp [R__law_numbers, m0, h0, h1, r1, e']
    · simp [h0, h1] at e' ⊢
      simp [R__law_numbers, m0, h0, h1, r1, e']
theorem f_digits (S : Store) (c b : Int) (m : Nat) (hm : m ≤ 1000000) (hb : 0 < b) (hb2 : b < 1000000) : ∃ ds : List Int, s__law_digits S [.v (.int c) false, .v (.int m) false, .v (.int b) false] = .ok (.fr (.lst (ds.map D.int))) S ∧ ds.length = m ∧ ∀ d ∈ ds, 0 ≤ d ∧ d < b := by
  have m0 : mulOk (c % 1999999973 + 31) 765432101 = true := mulOk_of 160 160 (by omega) (by omega) (by decide) (by decide) (by decide)
  have d0 : divOk b = true := divOk_of 64 hb (by omega) (by decide) (by decide)
  -- the loop
  have key : ∀ (x0 z : Int) , 0 ≤ x0 → x0 < 1999999973 → 0 ≤ z → ∃ (ds : List Int) (x1 z1 : Int) (u : Slot), loopF (.one 6) B__law_digits_1_0 [6] ((List.range m).map fun k => D.int (k : Nat)) ⟨[.v (.int c) false, .v (.int m) false, .v (.int b) false, .v (.lst []) true, .v (.int x0) false, .v (.int z) false, .u], S⟩ =
      .ok .nxt ⟨[.v (.int c) false, .v (.int m) false, .v (.int b) false, .v (.lst (ds.map D.int)) true, .v (.int x1) false, .v (.int z1) false, .u], S⟩ ∧ ds.length = m ∧ ∀ d ∈ ds, 0 ≤ d ∧ d < b := by
    intro x0 z h1 h2 h3
    obtain ⟨s', e, ds, x1, z1, e2, l, p, q1, q2, q3⟩ := loopF_ix (t := .one 6) (b := B__law_digits_1_0) (ks := [6]) (xs := (List.range m).map fun k => D.int (k : Nat))
      (fun k s => ∃ (ds : List Int) (x1 z1 : Int), s = ⟨[.v (.int c) false, .v (.int m) false, .v (.int b) false, .v (.lst (ds.map D.int)) true, .v (.int x1) false, .v (.int z1) false, .u], S⟩ ∧ ds.length = k ∧ (∀ d ∈ ds, 0 ≤ d ∧ d < b) ∧ 0 ≤ x1 ∧ x1 < 1999999973 ∧ 0 ≤ z1)
      (s := ⟨[.v (.int c) false, .v (.int m) false, .v (.int b) false, .v (.lst []) true, .v (.int x0) false, .v (.int z) false, .u], S⟩) ⟨[], x0, z, rfl, rfl, by simp, h1, h2, h3⟩ (fun k x s hx ⟨ds, x1, z1, e, l, p, q1, q2, q3⟩ => by
        subst e
        have hk : k < m := by simpa using (List.getElem?_eq_some_iff.mp hx).1
        have hx : x = .int k := by
          rw [List.getElem?_map, List.getElem?_range hk] at hx
          simpa using hx.symm
        subst hx
        have y1 : 0 ≤ x1 % 65521 := Int.emod_nonneg _ (by decide)
        have y2 : x1 % 65521 < 65521 := Int.emod_lt_of_pos _ (by decide)
        have m1 : mulOk x1 (x1 % 65521 + 40487) = true := mulOk_s (by omega) (by omega) (by omega) (by omega)
        have m2 : mulOk 7 (k : Int) = true := mulOk_s (by decide) (by decide) (by omega) (by omega)
        have y3 : 0 ≤ x1 * (x1 % 65521 + 40487) := Int.mul_nonneg q1 (by omega)
        generalize hw : (x1 * (x1 % 65521 + 40487) + 7 * (k : Int) + 5) % 1999999973 = w
        have w1 : 0 ≤ w := by rw [← hw]; exact Int.emod_nonneg _ (by decide)
        have w2 : w < 1999999973 := by rw [← hw]; exact Int.emod_lt_of_pos _ (by decide)
        have z4 : 0 ≤ z1 / b := Int.ediv_nonneg q3 (by omega)
        have fl : ds.length ≤ 16777215 := by omega
        by_cases hz : 0 < z1
        · refine ⟨_, ?_, ds ++ [z1 % b], w, z1 / b, rfl, by simp [l], fun d hd => ?_, w1, w2, z4⟩
          · simp [turnB, m1, m2, hw, hz, d0, hb, lstAt, wrL, fl]
          · rcases List.mem_append.mp hd with hd | hd
            · exact p d hd
            · simp at hd; subst hd; exact ⟨Int.emod_nonneg _ (by omega), Int.emod_lt_of_pos _ hb⟩
        · refine ⟨_, ?_, ds ++ [w / 64 % b], w, z1 / b, rfl, by simp [l], fun d hd => ?_, w1, w2, z4⟩
          · simp [turnB, m1, m2, hw, hz, d0, hb, lstAt, wrL, fl]
          · rcases List.mem_append.mp hd with hd | hd
            · exact p d hd
            · simp at hd; subst hd; exact ⟨Int.emod_nonneg _ (by omega), Int.emod_lt_of_pos _ hb⟩)
    subst e2
    exact ⟨ds, x1, z1, .u, e, by simpa using l, p⟩
  have x0 : 0 ≤ (c % 1999999973 + 31) * 765432101 % 1999999973 := Int.emod_nonneg _ (by decide)
  have x1 : (c % 1999999973 + 31) * 765432101 % 1999999973 < 1999999973 := Int.emod_lt_of_pos _ (by decide)
  have r1 : rgOk (m : Int) = true := rgOk_nat (by omega)
  by_cases h : c < 0 ∨ 1000000000000000000 ≤ c
  · obtain ⟨ds, x2, z2, _, e, l, p⟩ := key _ (c.natAbs : Int) x0 x1 (by omega)
    refine ⟨ds, ?_, l, p⟩
    by_cases h0 : c < 0
    · simp [R__law_digits, m0, h0, r1, e]
    · have h1 : 1000000000000000000 ≤ c := by omega
      simp [R__law_digits, m0, h0, h1, r1, e]
  · obtain ⟨ds, x2, z2, _, e, l, p⟩ := key _ 0 x0 x1 (by omega)
    refine ⟨ds, ?_, l, p⟩
    have h0 : ¬ c < 0 := by omega
    have h1 : ¬ 1000000000000000000 ≤ c := by omega
    simp [R__law_digits, m0, h0, h1, r1, e]
def kS (b : Bool) : List Nat := if b = true then [102, 108, 97, 116] else [117, 112]
abbrev Ed := Bool × Int × Int
def eD (e : Ed) : D := .tup [.str (kS e.1), .int e.2.1, .int e.2.2]
def ups (n H : Nat) : List Ed := (List.range n).flatMap fun x => (List.range H).map fun (y : Nat) => (false, ((x : Nat) : Int), (y : Int))
def flats (n W : Nat) : List Ed := (List.range n).flatMap fun y => (List.range W).map fun (x : Nat) => (true, (x : Int), ((y : Nat) : Int))
theorem ups_succ (n H : Nat) : ups (n + 1) H = ups n H ++ (List.range H).map (fun (y : Nat) => (false, (n : Int), (y : Int))) := by simp [ups, List.range_succ]
theorem flats_succ (n H : Nat) : flats (n + 1) H = flats n H ++ (List.range H).map (fun (x : Nat) => (true, (x : Int), (n : Int))) := by simp [flats, List.range_succ]
def edges (W H : Nat) : List Ed := ups (W + 1) H ++ flats (H + 1) W
theorem f_edges (S : Store) (W H : Nat) (hW : W ≤ 8) (hH : H ≤ 8) : s__law_edges S [.v (.int W) false, .v (.int H) false] = .ok (.fr (.lst ((edges W H).map eD))) S := by
  have r1 : rgOk (W : Int) = true := rgOk_nat (by omega)
  have r2 : rgOk (H : Int) = true := rgOk_nat (by omega)
  have r3 : rgOk ((W : Int) + 1) = true := rgOk_nat (m := W + 1) (by omega)
  have r4 : rgOk ((H : Int) + 1) = true := rgOk_nat (m := H + 1) (by omega)
  have t3 : ((W : Int) + 1).toNat = W + 1 := by omega
  have t4 : ((H : Int) + 1).toNat = H + 1 := by omega
  have c1 : ∀ (x : Int) (l : Slot), loopC [4] (.one 4) (.kb true) E__law_edges_0 ((List.range H).map fun k => D.int (k : Nat)) ⟨[.v (.int W) false, .v (.int H) false, l, .v (.int x) false, .u], S⟩ = .ok ((List.range H).map fun (y : Nat) => eD (false, x, (y : Int))) ⟨[.v (.int W) false, .v (.int H) false, l, .v (.int x) false, .u], S⟩ := by
    intro x l
    rw [loopC_fm (fun d => match d with | .int y => some (eD (false, x, y)) | _ => none)]
    · rw [List.filterMap_map]
      simp [Function.comp_def, List.filterMap_eq_map']
    · intro d hd
      obtain ⟨y, _, rfl⟩ := List.mem_map.mp hd
      simp [eD, kS]
  have c2 : ∀ (y : Int) (l : Slot), loopC [3] (.one 3) (.kb true) E__law_edges_2 ((List.range W).map fun k => D.int (k : Nat)) ⟨[.v (.int W) false, .v (.int H) false, l, .u, .v (.int y) false], S⟩ = .ok ((List.range W).map fun (x : Nat) => eD (true, (x : Int), y)) ⟨[.v (.int W) false, .v (.int H) false, l, .u, .v (.int y) false], S⟩ := by
    intro y l
    rw [loopC_fm (fun d => match d with | .int x => some (eD (true, x, y)) | _ => none)]
    · rw [List.filterMap_map]
      simp [Function.comp_def, List.filterMap_eq_map']
    · intro d hd
      obtain ⟨y, _, rfl⟩ := List.mem_map.mp hd
      simp [eD, kS]
  obtain ⟨s1, e1, u1, rfl, l1⟩ := loopF_ix (t := .one 3) (b := B__law_edges_1_0) (ks := []) (xs := (List.range (W + 1)).map fun k => D.int (k : Nat))
    (fun k s => ∃ u : Slot, s = ⟨[.v (.int W) false, .v (.int H) false, .v (.lst ((ups k H).map eD)) true, u, .u], S⟩ ∧ (ups k H).length ≤ k * 8)
    (s := ⟨[.v (.int W) false, .v (.int H) false, .v (.lst []) true, .u, .u], S⟩) ⟨.u, by simp [ups], by simp [ups]⟩ (fun k x s hx ⟨u, e, l⟩ => by
      subst e
      have hk : k < W + 1 := by simpa using (List.getElem?_eq_some_iff.mp hx).1
      have hx : x = .int k := by
        rw [List.getElem?_map, List.getElem?_range hk] at hx
        simpa using hx.symm
      subst hx
      have z : (ups k H).length + H ≤ 16777216 := by omega
      have z' : H ≤ 16777216 := by omega
      refine ⟨_, ?_, .v (.int k) false, rfl, ?_⟩
      · simp [turnB, r2, c1, lstAt, wrL, z, z', ups_succ]
      · rw [ups_succ, List.length_append, List.length_map, List.length_range]; omega)
  obtain ⟨s2, e2, u2, rfl, l2⟩ := loopF_ix (t := .one 4) (b := B__law_edges_3_0) (ks := [4]) (xs := (List.range (H + 1)).map fun k => D.int (k : Nat))
    (fun k s => ∃ u : Slot, s = ⟨[.v (.int W) false, .v (.int H) false, .v (.lst ((ups (W + 1) H ++ flats k W).map eD)) true, u, .u], S⟩ ∧ (ups (W + 1) H ++ flats k W).length ≤ (W + 1) * 8 + k * 8)
    (s := ⟨[.v (.int W) false, .v (.int H) false, .v (.lst ((ups (W + 1) H).map eD)) true, u1, .u], S⟩) ⟨u1, by simp [flats], by simpa [flats] using l1⟩ (fun k x s hx ⟨u, e, l⟩ => by
      subst e
      have hk : k < H + 1 := by simpa using (List.getElem?_eq_some_iff.mp hx).1
      have hx : x = .int k := by
        rw [List.getElem?_map, List.getElem?_range hk] at hx
        simpa using hx.symm
      subst hx
      have z : (ups (W + 1) H ++ flats k W).length + W ≤ 16777216 := by omega
      rw [List.length_append] at z
      have z' : W ≤ 16777216 := by omega
      refine ⟨_, ?_, .u, rfl, ?_⟩
      · simp [turnB, r1, c2, lstAt, wrL, z, z', flats_succ]
      · rw [flats_succ, ← List.append_assoc, List.length_append, List.length_map, List.length_range]; omega)
  simp at e1 e2
  simp [R__law_edges, r3, r4, t3, t4, e1, e2, edges]
abbrev Sd := Ed × List Nat × List Nat
def sD (s : Sd) : D := .tup [.str (kS s.1.1), .int s.1.2.1, .int s.1.2.2, .str s.2.1, .str s.2.2]
def PM (a : List Nat) : Prop := a = [109] ∨ a = [112]
theorem f_side (S : Store) (W H : Int) (e : Ed) (d : Int) (h0 : 3 < d) (h1 : d < 8) : ∃ a b : List Nat, PM a ∧ PM b ∧ s__law_side S [.v (.int W) false, .v (.int H) false, .v (eD e) false, .v (.int d) false] = .ok (.sh (sD (e, a, b))) S := by
  obtain ⟨k, x, y⟩ := e
  have key : ∀ (a b : List Nat), PM a → PM b → ∃ a' b' : List Nat, PM a' ∧ PM b' ∧ endD (ex B__law_side_3_1 ⟨[.v (.int W) false, .v (.int H) false, .v (eD (k, x, y)) false, .v (.int d) false, .v (.str a) false, .v (.str b) false, .u, .u], S⟩) = .ok (.sh (sD ((k, x, y), a', b'))) S := by
    intro a b ha hb
    cases k
    · by_cases c1 : x = 0
      · subst c1
        by_cases c2 : 0 = W
        · subst c2
          exact ⟨[112], [112], .inr rfl, .inr rfl, by simp [eD, sD, kS, cmp_eq]⟩
        · exact ⟨[112], b, .inr rfl, hb, by simp [eD, sD, kS, c2, cmp_eq]⟩
      · by_cases c2 : x = W
        · subst c2
          exact ⟨a, [112], ha, .inr rfl, by simp [eD, sD, kS, c1, cmp_eq]⟩
        · exact ⟨a, b, ha, hb, by simp [eD, sD, kS, c1, c2, cmp_eq]⟩
    · by_cases c1 : y = 0
      · subst c1
        by_cases c2 : 0 = H
        · subst c2
          exact ⟨[112], [112], .inr rfl, .inr rfl, by simp [eD, sD, kS, cmp_eq]⟩
        · exact ⟨[112], b, .inr rfl, hb, by simp [eD, sD, kS, c2, cmp_eq]⟩
      · by_cases c2 : y = H
        · subst c2
          exact ⟨a, [112], ha, .inr rfl, by simp [eD, sD, kS, c1, cmp_eq]⟩
        · exact ⟨a, b, ha, hb, by simp [eD, sD, kS, c1, c2, cmp_eq]⟩
  have hd : d = 4 ∨ d = 5 ∨ d = 6 ∨ d = 7 := by omega
  rcases hd with rfl | rfl | rfl | rfl
  · obtain ⟨a, b, p, q, e⟩ := key [109] [109] (.inl rfl) (.inl rfl)
    exact ⟨a, b, p, q, by simp [R__law_side, -X__law_side_3_1, setMany]; exact e⟩
  · obtain ⟨a, b, p, q, e⟩ := key [109] [112] (.inl rfl) (.inr rfl)
    exact ⟨a, b, p, q, by simp [R__law_side, -X__law_side_3_1, setMany]; exact e⟩
  · obtain ⟨a, b, p, q, e⟩ := key [112] [109] (.inr rfl) (.inl rfl)
    exact ⟨a, b, p, q, by simp [R__law_side, -X__law_side_3_1, setMany]; exact e⟩
  · obtain ⟨a, b, p, q, e⟩ := key [112] [112] (.inr rfl) (.inr rfl)
    exact ⟨a, b, p, q, by simp [R__law_side, -X__law_side_3_1, setMany]; exact e⟩
theorem zipD_get {xs ys : List D} {k : Nat} {z : D} (h : (zipD xs ys)[k]? = some z) : ∃ x y, x ∈ xs ∧ y ∈ ys ∧ z = .tup [x, y] := by
  unfold zipD at h
  rw [List.getElem?_zipWith] at h
  split at h
  · next a b ha hb =>
    exact ⟨a, b, List.mem_of_getElem? ha, List.mem_of_getElem? hb, by simpa using h.symm⟩
  · cases h
def okSd (W H : Nat) (s : Sd) : Prop := s.1 ∈ edges W H ∧ PM s.2.1 ∧ PM s.2.2
theorem ups_len (n H : Nat) : (ups n H).length = n * H := by
  induction n with
  | zero => simp [ups]
  | succ n ih => rw [ups_succ, List.length_append, ih, List.length_map, List.length_range, Nat.succ_mul]
theorem flats_len (n H : Nat) : (flats n H).length = n * H := by
  induction n with
  | zero => simp [flats]
  | succ n ih => rw [flats_succ, List.length_append, ih, List.length_map, List.length_range, Nat.succ_mul]
theorem edges_len (W H : Nat) (hW : W ≤ 8) (hH : H ≤ 8) : (edges W H).length ≤ 144 := by
  unfold edges
  rw [List.length_append, ups_len, flats_len]
  have h1 : (W + 1) * H ≤ 9 * 8 := Nat.mul_le_mul (by omega) hH
  have h2 : (H + 1) * W ≤ 9 * 8 := Nat.mul_le_mul (by omega) hW
  omega
theorem f_hall (S : Store) (size cell most : Int) (h0 : 0 < most) (h1 : most ≤ 8) : ∃ (W H : Nat) (ss : List Sd), 1 ≤ W ∧ W ≤ 8 ∧ 1 ≤ H ∧ H ≤ 8 ∧ (∀ s ∈ ss, okSd W H s) ∧ ss.length ≤ 144 ∧
    s__law_hall S [.v (.int size) false, .v (.int cell) false, .v (.int most) false] = .ok (.sh (.tup [.int W, .int H, .tup (ss.map sD)])) S := by
  have a1 : 0 ≤ size % most := Int.emod_nonneg _ (by omega)
  have a2 : size % most < most := Int.emod_lt_of_pos _ h0
  have b1 : 0 ≤ size / 8 % most := Int.emod_nonneg _ (by omega)
  have b2 : size / 8 % most < most := Int.emod_lt_of_pos _ h0
  obtain ⟨W, hW⟩ : ∃ W : Nat, 1 + size % most = (W : Int) := ⟨(1 + size % most).toNat, by omega⟩
  obtain ⟨H, hH⟩ : ∃ H : Nat, 1 + size / 8 % most = (H : Int) := ⟨(1 + size / 8 % most).toNat, by omega⟩
  have w8 : W ≤ 8 := by omega
  have h8 : H ≤ 8 := by omega
  obtain ⟨ds, dd, dl, dp⟩ := f_digits S cell 8 (edges W H).length (by have := edges_len W H w8 h8; omega) (by decide) (by decide)
  have el := edges_len W H w8 h8
  obtain ⟨s1, e1, ss, rfl, l1, l2⟩ := loopF_ix (t := .many [8, 9]) (b := B__law_hall_1_0) (ks := [8, 9]) (xs := zipD ((edges W H).map eD) (ds.map D.int))
    (fun k s => ∃ ss : List Sd, s = ⟨[.v (.int size) false, .v (.int cell) false, .v (.int most) false, .v (.int W) false, .v (.int H) false, .v (.lst ((edges W H).map eD)) false, .v (.lst (ds.map D.int)) false, .v (.lst (ss.map sD)) true, .u, .u], S⟩ ∧ ss.length ≤ k ∧ ∀ s ∈ ss, okSd W H s)
    (s := ⟨[.v (.int size) false, .v (.int cell) false, .v (.int most) false, .v (.int W) false, .v (.int H) false, .v (.lst ((edges W H).map eD)) false, .v (.lst (ds.map D.int)) false, .v (.lst []) true, .u, .u], S⟩) ⟨[], rfl, by simp, by simp⟩ (fun k x s hx ⟨ss, e, l, p⟩ => by
      subst e
      have hk := (List.getElem?_eq_some_iff.mp hx).1
      have hk : k < 144 := by
        unfold zipD at hk
        rw [List.length_zipWith, List.length_map] at hk
        omega
      obtain ⟨ed, dg, m1, m2, rfl⟩ := zipD_get hx
      obtain ⟨e, me, rfl⟩ := List.mem_map.mp m1
      obtain ⟨d, md, rfl⟩ := List.mem_map.mp m2
      have d8 := (dp d md).2
      by_cases hd : 3 < d
      · obtain ⟨a, b, pa, pb, fs⟩ := f_side S W H e d hd d8
        have fl : ss.length + 1 ≤ 16777216 := by omega
        refine ⟨_, ?_, ss ++ [(e, a, b)], rfl, by simpa using l, fun s hs => ?_⟩
        · have fl' : ss.length ≤ 16777215 := by omega
          simp [turnB, setMany, hd, callF, fs, lstAt, wrL, fl']
        · rcases List.mem_append.mp hs with hs | hs
          · exact p s hs
          · simp at hs; subst hs; exact ⟨me, pa, pb⟩
      · refine ⟨_, ?_, ss, rfl, by omega, p⟩
        simp [turnB, setMany, hd])
  refine ⟨W, H, ss, by omega, w8, by omega, h8, l2, ?_, ?_⟩
  · have : (zipD ((edges W H).map eD) (ds.map D.int)).length ≤ 144 := by
      unfold zipD
      rw [List.length_zipWith, List.length_map]
      omega
    omega
  · have fe := f_edges S W H w8 h8
    simp [R__law_hall, h0, hW, hH, callF_eq fe, callF_eq dd, e1]
theorem mem_edges (W H : Nat) (k : Bool) (x y : Int) : (k, x, y) ∈ edges W H ↔ (k = false ∧ 0 ≤ x ∧ x ≤ W ∧ 0 ≤ y ∧ y < H) ∨ (k = true ∧ 0 ≤ x ∧ x < W ∧ 0 ≤ y ∧ y ≤ H) := by
  unfold edges ups flats
  simp only [List.mem_append, List.mem_flatMap, List.mem_map, List.mem_range]
  constructor
  · rintro (⟨a, ha, b, hb, e⟩ | ⟨a, ha, b, hb, e⟩)
    · cases e; left; refine ⟨rfl, ?_⟩; omega
    · cases e; right; refine ⟨rfl, ?_⟩; omega
  · rintro (⟨rfl, h1, h2, h3, h4⟩ | ⟨rfl, h1, h2, h3, h4⟩)
    · left; refine ⟨x.toNat, by omega, y.toNat, by omega, ?_⟩
      rw [Int.toNat_of_nonneg h1, Int.toNat_of_nonneg h3]
    · right; refine ⟨y.toNat, by omega, x.toNat, by omega, ?_⟩
      rw [Int.toNat_of_nonneg h1, Int.toNat_of_nonneg h3]
--cut
inductive Cd where
  | i (n : Int) | b (v : Bool) | n
def cD : Cd → D
  | .i n => .int n | .b v => .bl v | .n => .non
def isI : Cd → Bool
  | .i _ => true | _ => false
def szB : Cd → Bool
  | .i n => decide (1 ≤ n ∧ n ≤ 8) | _ => false
theorem x_whole (S : Store) (c : Cd) : s_is_whole S [.v (cD c) false] = .ok (.sh (.bl (isI c))) S := by
  cases c <;> simp [R_is_whole, cD, isI, isiD]
theorem x_size (S : Store) (c : Cd) : s_is_size S [.v (cD c) false] = .ok (.sh (.bl (szB c))) S := by
  have w := x_whole S c
  cases c with
  | i m =>
    unfold cD at *
    by_cases h : 1 ≤ m
    · simp [R_is_size, callF_eq w, h, k_MOST, szB, isI]
    · simp [R_is_size, callF_eq w, h, szB, isI]
  | b v => simp [R_is_size, callF_eq w, szB, isI]
  | n => simp [R_is_size, callF_eq w, szB, isI]
abbrev Sx := List Nat × Cd × Cd × List Nat × List Nat
def xD (s : Sx) : D := .tup [.str s.1, cD s.2.1, cD s.2.2.1, .str s.2.2.2.1, .str s.2.2.2.2]
def okT (a : List Nat) : Prop := a.all (fun c => decide (c < 1114112)) = true
structure OkX (s : Sx) : Prop where
  k : okT s.1
  f : okT s.2.2.2.1
  g : okT s.2.2.2.2
theorem eq_str {a b : List Nat} (ha : okT a) (hb : okT b) : cmpop .eq (.str a) (.str b) = some (decide (a = b)) := by
  rw [cmp_eq, DEEP_def, okd_str, okd_str, show a.all (fun c => decide (c < 1114112)) = true from ha, show b.all (fun c => decide (c < 1114112)) = true from hb]
  rfl
abbrev upT : List Nat := [117, 112]
abbrev flT : List Nat := [102, 108, 97, 116]
def edgeI (W H : Int) (k : List Nat) (a b : Int) : Bool := if k = upT then decide (0 ≤ a) && decide (a ≤ W) && (decide (0 ≤ b) && decide (b < H)) else decide (k = flT) && (decide (0 ≤ a) && decide (a < W) && (decide (0 ≤ b) && decide (b ≤ H)))
def edgeB (W H : Int) (k : List Nat) : Cd → Cd → Bool
  | .i a, .i b => edgeI W H k a b
  | _, _ => false
theorem x_edge (S : Store) (W H : Int) (k : List Nat) (x y : Cd) (hk : okT k) : s_is_edge S [.v (.int W) false, .v (.int H) false, .v (.str k) false, .v (cD x) false, .v (cD y) false] = .ok (.sh (.bl (edgeB W H k x y))) S := by
  have w1 := x_whole S x
  have w2 := x_whole S y
  have e1 := eq_str hk (b := upT) rfl
  have e2 := eq_str hk (b := flT) rfl
  cases hx : isI x with
  | false =>
    have z : edgeB W H k x y = false := by cases x <;> cases y <;> first | rfl | cases hx
    rw [hx] at w1
    simp [R_is_edge, callF_eq w1, z]
  | true =>
    rw [hx] at w1
    cases hy : isI y with
    | false =>
      have z : edgeB W H k x y = false := by cases x <;> cases y <;> first | rfl | cases hy
      rw [hy] at w2
      simp [R_is_edge, callF_eq w1, callF_eq w2, z]
    | true =>
      rw [hy] at w2
      cases x <;> first | (cases hx; done) | skip
      cases y <;> first | (cases hy; done) | skip
      rename_i a b
      have w1 : s_is_whole S [.v (.int a) false] = .ok (.sh (.bl true)) S := w1
      have w2 : s_is_whole S [.v (.int b) false] = .ok (.sh (.bl true)) S := w2
      show s_is_edge S [.v (.int W) false, .v (.int H) false, .v (.str k) false, .v (.int a) false, .v (.int b) false] = .ok (.sh (.bl (edgeI W H k a b))) S
      unfold edgeI
      by_cases c1 : k = upT
      · rw [decide_eq_true c1] at e1
        rw [if_pos c1]
        by_cases h1 : 0 ≤ a <;> by_cases h2 : a ≤ W <;> by_cases h3 : 0 ≤ b <;> simp [R_is_edge, callF_eq w1, callF_eq w2, e1, h1, h2, h3]
      · rw [decide_eq_false c1] at e1
        rw [if_neg c1]
        by_cases c2 : k = flT
        · rw [decide_eq_true c2] at e2 ⊢
          by_cases h1 : 0 ≤ a <;> by_cases h2 : a < W <;> by_cases h3 : 0 ≤ b <;> simp [R_is_edge, callF_eq w1, callF_eq w2, e1, e2, h1, h2, h3]
        · rw [decide_eq_false c2] at e2 ⊢
          simp [R_is_edge, callF_eq w1, callF_eq w2, e1, e2]
def PMb (a : List Nat) : Bool := decide (a = [109]) || decide (a = [112])
def looksB (W H : Int) (s : Sx) (a b : Int) : Bool :=
  let at_ := if s.1 = flT then b else a
  let end_ := if s.1 = flT then H else W
  (decide (0 < at_) || decide (s.2.2.2.1 = [112])) && (decide (at_ < end_) || decide (s.2.2.2.2 = [112]))
theorem x_looks (S : Store) (W H : Int) (k : List Nat) (a b : Int) (f g : List Nat) (o : OkX (k, .i a, .i b, f, g)) : s_looks_in S [.v (.int W) false, .v (.int H) false, .v (xD (k, .i a, .i b, f, g)) false] = .ok (.sh (.bl (looksB W H (k, .i a, .i b, f, g) a b))) S := by
  have e1 := eq_str o.k (b := flT) rfl
  have e2 := eq_str o.f (b := [112]) rfl
  have e3 := eq_str o.g (b := [112]) rfl
  unfold looksB xD cD
  dsimp only at *
  by_cases c1 : k = flT
  · rw [decide_eq_true c1] at e1
    simp only [if_pos c1]
    by_cases h1 : 0 < b <;> by_cases h2 : b < H <;> simp [R_looks_in, setMany, e1, e2, e3, h1, h2] <;> cases decide (f = [112]) <;> simp [e3, h2]
  · rw [decide_eq_false c1] at e1
    simp only [if_neg c1]
    by_cases h1 : 0 < a <;> by_cases h2 : a < W <;> simp [R_looks_in, setMany, e1, e2, e3, h1, h2] <;> cases decide (f = [112]) <;> simp [e3, h2]
theorem x_face {a : List Nat} : cmpop .nmem (.str a) k_FACES = some (!PMb a) := by
  have e : memD (.str a) [.str [109], .str [112]] = PMb a := by
    unfold memD PMb
    simp [D.eqv]
    congr 1 <;> simp [eq_comm]
  show (gd _ (!memD (.str a) [.str [109], .str [112]])) = _
  rw [e]; rfl
def sideB (W H : Int) (s : Sx) : Bool := match s.2.1, s.2.2.1 with
  | .i a, .i b => edgeI W H s.1 a b && (PMb s.2.2.2.1 && (PMb s.2.2.2.2 && looksB W H s a b))
  | _, _ => false
theorem x_side (S : Store) (W H : Int) (s : Sx) (o : OkX s) : s_is_side S [.v (.int W) false, .v (.int H) false, .v (xD s) false] = .ok (.sh (.bl (sideB W H s))) S := by
  obtain ⟨k, x, y, f, g⟩ := s
  have e := x_edge S W H k x y o.k
  have m1 := x_face (a := f)
  have m2 := x_face (a := g)
  cases he : edgeB W H k x y with
  | false =>
    rw [he] at e
    have z : sideB W H (k, x, y, f, g) = false := by
      unfold sideB
      cases x <;> cases y <;> first | rfl | skip
      unfold edgeB at he
      simp [he]
    rw [z]
    unfold xD
    simp [R_is_side, setMany, callF_eq e]
  | true =>
    rw [he] at e
    cases x <;> cases y <;> first | (simp [edgeB] at he; done) | skip
    rename_i a b
    have l := x_looks S W H k a b f g o
    unfold edgeB at he
    unfold sideB
    dsimp only at *
    rw [he]
    unfold xD cD at *
    dsimp only at *
    cases h1 : PMb f with
    | false => rw [h1] at m1; simp [R_is_side, setMany, callF_eq e, m1]
    | true =>
      rw [h1] at m1
      cases h2 : PMb g with
      | false => rw [h2] at m2; simp [R_is_side, setMany, callF_eq e, m1, m2]
      | true =>
        rw [h2] at m2
        simp [R_is_side, setMany, callF_eq e, m1, m2, callF_eq l]
--cut
abbrev Ke := List Nat × Int × Int
def keD (e : Ke) : D := .tup [.str e.1, .int e.2.1, .int e.2.2]
def keyX (s : Sx) : Ke := match s.2.1, s.2.2.1 with
  | .i a, .i b => (s.1, a, b)
  | _, _ => (s.1, 0, 0)
theorem eqv_keD (a b : Ke) : D.eqv (keD a) (keD b) = decide (a = b) := by
  obtain ⟨a1, a2, a3⟩ := a
  obtain ⟨b1, b2, b3⟩ := b
  simp [keD, D.eqv, D.eqvs]
theorem memD_keD (e : Ke) (es : List Ke) : memD (keD e) (es.map keD) = decide (e ∈ es) := by
  induction es with
  | nil => rfl
  | cons x xs ih =>
    unfold memD at ih ⊢
    rw [List.map_cons, List.any_cons, ih, eqv_keD]
    by_cases h : x = e
    · simp [h]
    · have h' : ¬ e = x := fun z => h z.symm
      simp [h, h']
theorem mem_dctK (e : Ke) (es : List Ke) (vs : List D) : cmpop .mem (keD e) (.dct (es.map keD) vs) = some (decide (e ∈ es)) := by
  show gd _ (memD (keD e) (es.map keD)) = _
  rw [memD_keD]; rfl
theorem putD_keD (e : Ke) (x : D) (es : List Ke) (vs : List D) (h : e ∉ es) : putD (keD e) x (es.map keD) vs = ((es ++ [e]).map keD, vs ++ [x]) := by
  unfold putD
  rw [memD_keD, decide_eq_false h]
  simp
theorem wr_keD (i : Nat) (e : Ke) (x : D) (r : List Slot) (S : Store) (es : List Ke) (vs : List D) (hr : r[i]? = some (.v (.dct (es.map keD) vs) true)) (hl : es.length ≤ 1000) (h : e ∉ es) : wrD i (keD e) x ⟨r, S⟩ = .ok .nxt ⟨r.set i (.v (.dct ((es ++ [e]).map keD) (vs ++ [x])) true), S⟩ := by
  unfold wrD
  dsimp only
  rw [hr]
  dsimp only
  rw [putD_keD e x es vs h, show (keD e).keyok = true from rfl, List.length_map, fits_def, decide_eq_true (by omega : es.length + 1 ≤ 16777216)]
  rfl
def badX (W H : Int) (known : List Ke) (s : Sx) : Bool := !sideB W H s || decide (keyX s ∈ known)
def fbad (W H : Int) : List Ke → List Sx → Nat → Option Nat
  | _, [], _ => none
  | known, s :: r, k => if badX W H known s = true then some k else fbad W H (known ++ [keyX s]) r (k + 1)
def exnH (v : D) : Exn := ⟨[78, 111, 72, 97, 108, 108], [[115, 105, 100, 101]], [v]⟩
theorem good_i {W H : Int} {s : Sx} (h : sideB W H s = true) : ∃ a b, s.2.1 = .i a ∧ s.2.2.1 = .i b := by
  obtain ⟨k, x, y, f, g⟩ := s
  cases x <;> cases y <;> first | exact ⟨_, _, rfl, rfl⟩ | (simp [sideB] at h)
theorem cut_x (s : Sx) {a b : Int} (h1 : s.2.1 = .i a) (h2 : s.2.2.1 = .i b) : slop (xD s) none (some 3) = some (.sh (keD (keyX s))) := by
  obtain ⟨k, x, y, f, g⟩ := s
  dsimp only at h1 h2
  subst h1 h2
  rfl
theorem key_x {i j kn : Nat} {r : List Slot} {S : Store} {L : List D} {s : Sx} {a b : Int} (h1 : s.2.1 = .i a) (h2 : s.2.2.1 = .i b) (hi : r[i]? = some (.v (.tup L) false)) (hj : r[j]? = some (.v (.int (kn : Int)) false)) (at_ : atI L (kn : Int) = some (xD s)) :
    keyE ev evA evO (.sl (.ix (.bor i) (.bor j)) .gap (.one (.ki 3))) ⟨r, S⟩ = .ok (keD (keyX s)) ⟨r, S⟩ := by
  obtain ⟨k, x, y, f, g⟩ := s
  dsimp only at h1 h2
  subst h1 h2
  simp [keyE, hi, hj, at_]
  simp [xD, cut_03, keD, keyX, cD]
theorem chk_turn (S : Store) (W H : Int) (z : Slot) (ss : List Sx) (k : Nat) (hk : k < ss.length) (o : OkX ss[k]) (known : List Ke) (vs : List D) (hl : known.length ≤ 1000) :
    turnB (.one 5) B_checked_2_0 [5] (.int k) ⟨[z, .v (.int W) false, .v (.int H) false, .v (.tup (ss.map xD)) false, .v (.dct (known.map keD) vs) true, .u], S⟩ =
      if badX W H known ss[k] = true then .exc (exnH (.int k)) ⟨[z, .v (.int W) false, .v (.int H) false, .v (.tup (ss.map xD)) false, .v (.dct (known.map keD) vs) true, .v (.int k) false], S⟩
      else .ok .nxt ⟨[z, .v (.int W) false, .v (.int H) false, .v (.tup (ss.map xD)) false, .v (.dct ((known ++ [keyX ss[k]]).map keD) (vs ++ [.bl true])) true, .u], S⟩ := by
  have at_ : atI (ss.map xD) (k : Int) = some (xD ss[k]) := by
    rw [at_nat _ k (by simpa using hk), List.getElem?_map, List.getElem?_eq_getElem hk]; rfl
  have fs := x_side S W H ss[k] o
  generalize ss[k] = s at *
  generalize ss.map xD = L at *
  unfold badX
  cases hs : sideB W H s with
  | false =>
    rw [hs] at fs
    simp [turnB, at_, callF_eq fs, exnH]
  | true =>
    rw [hs] at fs
    obtain ⟨a, b, h1, h2⟩ := good_i hs
    have c3 := cut_x s h1 h2
    have md := mem_dctK (keyX s) known vs
    by_cases hm : keyX s ∈ known
    · rw [decide_eq_true hm] at md ⊢
      simp [turnB, at_, callF_eq fs, c3, md, exnH]
    · rw [decide_eq_false hm] at md ⊢
      have w : ∀ r : List Slot, r[4]? = some (.v (.dct (known.map keD) vs) true) → wrD 4 (keD (keyX s)) (.bl true) ⟨r, S⟩ = .ok .nxt ⟨r.set 4 (.v (.dct ((known ++ [keyX s]).map keD) (vs ++ [.bl true])) true), S⟩ := fun r hr => wr_keD 4 (keyX s) (.bl true) r S known vs hr hl hm
      have kE : ∀ r : List Slot, r[3]? = some (.v (.tup L) false) → r[5]? = some (.v (.int k) false) → keyE ev evA evO (.sl (.ix (.bor 3) (.bor 5)) .gap (.one (.ki 3))) ⟨r, S⟩ = .ok (keD (keyX s)) ⟨r, S⟩ := fun r q1 q2 => key_x h1 h2 q1 q2 at_
      simp [turnB, at_, callF_eq fs, c3, md, dctAt, kE, w]
theorem chk_loop (S : Store) (W H : Int) (z : Slot) (ss : List Sx) (o : ∀ s ∈ ss, OkX s) (hl : ss.length ≤ 900) : ∀ (m k : Nat) (known : List Ke) (vs : List D), k + m = ss.length → known.length ≤ k →
    match fbad W H known (ss.drop k) k with
    | none => ∃ known' vs', loopF (.one 5) B_checked_2_0 [5] ((List.range' k m).map fun j => D.int (j : Nat)) ⟨[z, .v (.int W) false, .v (.int H) false, .v (.tup (ss.map xD)) false, .v (.dct (known.map keD) vs) true, .u], S⟩ = .ok .nxt ⟨[z, .v (.int W) false, .v (.int H) false, .v (.tup (ss.map xD)) false, .v (.dct known' vs') true, .u], S⟩
    | some j => ∃ r', loopF (.one 5) B_checked_2_0 [5] ((List.range' k m).map fun j => D.int (j : Nat)) ⟨[z, .v (.int W) false, .v (.int H) false, .v (.tup (ss.map xD)) false, .v (.dct (known.map keD) vs) true, .u], S⟩ = .exc (exnH (.int j)) ⟨r', S⟩ := by
  intro m
  induction m with
  | zero =>
    intro k known vs e _
    rw [List.drop_eq_nil_of_le (by omega)]
    exact ⟨known.map keD, vs, by simp⟩
  | succ m ih =>
    intro k known vs e hn
    have hk : k < ss.length := by omega
    have t := chk_turn S W H z ss k hk (o _ (List.getElem_mem hk)) known vs (by omega)
    rw [List.drop_eq_getElem_cons hk]
    unfold fbad
    rw [List.range'_succ, List.map_cons, loopF_turn]
    by_cases b : badX W H known ss[k] = true
    · rw [if_pos b] at t ⊢
      rw [t]
      exact ⟨_, rfl⟩
    · rw [if_neg b] at t ⊢
      rw [t]
      have := ih (k + 1) (known ++ [keyX ss[k]]) (vs ++ [.bl true]) (by omega) (by simp; omega)
      cases q : fbad W H (known ++ [keyX ss[k]]) (ss.drop (k + 1)) (k + 1) with
      | none =>
        rw [q] at this
        obtain ⟨a, c, h⟩ := this
        exact ⟨a, c, by rw [bind_ok, nextF_nxt, h]⟩
      | some j =>
        rw [q] at this
        obtain ⟨a, h⟩ := this
        exact ⟨a, by rw [bind_ok, nextF_nxt, h]⟩
theorem fbad_good {W H : Int} : ∀ {ss : List Sx} {known : List Ke} {k : Nat}, fbad W H known ss k = none → ∀ s ∈ ss, sideB W H s = true
  | [], _, _, _, s, h => by cases h
  | x :: ss, known, k, e, s, h => by
    unfold fbad at e
    split at e
    · cases e
    · next b =>
      rcases List.mem_cons.mp h with rfl | h
      · unfold badX at b
        cases q : sideB W H s with
        | true => rfl
        | false => rw [q] at b; exact absurd rfl b
      · exact fbad_good e s h
theorem hs_x {W H : Int} {ss : List Sx} (g : ∀ s ∈ ss, sideB W H s = true) : ∀ x ∈ ss.map xD, x.hs (.t [.s, .i, .i, .s, .s]) = true := by
  intro x hx
  obtain ⟨s, hs, rfl⟩ := List.mem_map.mp hx
  obtain ⟨a, b, h1, h2⟩ := good_i (g s hs)
  obtain ⟨k, x, y, f, g⟩ := s
  dsimp only at h1 h2
  subst h1 h2
  rfl
theorem okd_x {s : Sx} (o : OkX s) (n : Nat) : (xD s).okd (n + 2) = true := by
  obtain ⟨k, x, y, f, g⟩ := s
  unfold xD
  have h1 : k.all (fun c => decide (c < 1114112)) = true := o.k
  have h2 : f.all (fun c => decide (c < 1114112)) = true := o.f
  have h3 : g.all (fun c => decide (c < 1114112)) = true := o.g
  rw [okd_tup, okds_cons, okds_cons, okds_cons, okds_cons, okds_cons, okd_str, okd_str, okd_str]
  dsimp only
  rw [h1, h2, h3]
  cases x <;> cases y <;> rfl
def dueX (w h : Cd) (ss : List Sx) : Option D := match w, h with
  | .i W, .i H => if (szB w && szB h) = true then (fbad W H [] ss 0).map (fun (k : Nat) => D.int k) else some .non
  | _, _ => some .non
abbrev hallX (w h : Cd) (ss : List Sx) : D := .tup [cD w, cD h, .tup (ss.map xD)]
theorem x_checked (S : Store) (w h : Cd) (ss : List Sx) (o : ∀ s ∈ ss, OkX s) (hl : ss.length ≤ 900) : s_checked S [.v (hallX w h ss) false] = match dueX w h ss with
    | none => .ok (.sh (.tup [cD w, cD h, .tup (sortD (ss.map xD))])) S
    | some v => .exc (exnH v) S := by
  have f1 := x_size S w
  have f2 := x_size S h
  cases z1 : szB w with
  | false =>
    rw [z1] at f1
    have : dueX w h ss = some .non := by
      unfold dueX
      cases w <;> cases h <;> first | rfl | skip
      rw [z1]; rfl
    rw [this]
    simp [R_checked, setMany, callF_eq f1, exnH]
  | true =>
    rw [z1] at f1
    cases z2 : szB h with
    | false =>
      rw [z2] at f2
      have : dueX w h ss = some .non := by
        unfold dueX
        cases w <;> cases h <;> first | rfl | skip
        rw [z2, Bool.and_false]; rfl
      rw [this]
      simp [R_checked, setMany, callF_eq f1, callF_eq f2, exnH]
    | true =>
      rw [z2] at f2
      cases w <;> first | (cases z1; done) | skip
      cases h <;> first | (cases z2; done) | skip
      rename_i W H
      have e : dueX (.i W) (.i H) ss = (fbad W H [] ss 0).map (fun (k : Nat) => D.int k) := by
        unfold dueX
        dsimp only
        rw [z1, z2]; rfl
      rw [e]
      have lp := chk_loop S W H (.v (hallX (.i W) (.i H) ss) false) ss o hl ss.length 0 [] [] (by omega) (Nat.le_refl 0)
      rw [List.drop_zero, ← List.range_eq_range'] at lp
      have rg : rgOk (ss.length : Int) = true := rgOk_nat (by omega)
      cases q : fbad W H [] ss 0 with
      | none =>
        rw [q] at lp
        obtain ⟨kn, vs, lp⟩ := lp
        have so := blt_sorted_tupt (xs := ss.map xD) (ss := [.s, .i, .i, .s, .s]) (by simp) (hs_x (fbad_good q)) (fun x hx => by obtain ⟨s, hs, rfl⟩ := List.mem_map.mp hx; exact okd_x (o s hs) 58)
        simp at lp
        simp only [R_checked]
        unfold hallX cD at *
        simp [setMany, callF_eq f1, callF_eq f2, rg, lp, so]
      | some j =>
        rw [q] at lp
        obtain ⟨r', lp⟩ := lp
        simp at lp
        simp only [R_checked]
        unfold hallX cD at *
        simp [setMany, callF_eq f1, callF_eq f2, rg, lp]
--cut
theorem kS_inj (a b : Bool) : kS a = kS b ↔ a = b := by cases a <;> cases b <;> decide
theorem eqv_edL (a b : Ed) : D.eqvs [.str (kS a.1), .int a.2.1, .int a.2.2] [.str (kS b.1), .int b.2.1, .int b.2.2] = decide (a = b) := by
  obtain ⟨a1, a2, a3⟩ := a
  obtain ⟨b1, b2, b3⟩ := b
  simp [D.eqvs, D.eqv, kS_inj]
theorem edges_nodup (W H : Nat) : (edges W H).Nodup := by
  have hr : ∀ n : Nat, (List.range n).Pairwise (· ≠ ·) := fun n => List.nodup_range
  unfold edges ups flats
  rw [List.nodup_append]
  refine ⟨?_, ?_, ?_⟩
  · unfold List.Nodup
    rw [List.pairwise_flatMap]
    refine ⟨fun a _ => List.pairwise_map.mpr ((hr H).imp fun h e => h (by simp at e; omega)), (hr _).imp fun {a b} h x hx y hy e => ?_⟩
    obtain ⟨u, _, rfl⟩ := List.mem_map.mp hx
    obtain ⟨v, _, rfl⟩ := List.mem_map.mp hy
    simp at e
    exact h (by omega)
  · unfold List.Nodup
    rw [List.pairwise_flatMap]
    refine ⟨fun a _ => List.pairwise_map.mpr ((hr W).imp fun h e => h (by simp at e; omega)), (hr _).imp fun {a b} h x hx y hy e => ?_⟩
    obtain ⟨u, _, rfl⟩ := List.mem_map.mp hx
    obtain ⟨v, _, rfl⟩ := List.mem_map.mp hy
    simp at e
    exact h (by omega)
  · intro a ha b hb e
    obtain ⟨_, _, h1⟩ := List.mem_flatMap.mp ha
    obtain ⟨_, _, h2⟩ := List.mem_flatMap.mp hb
    obtain ⟨u, _, rfl⟩ := List.mem_map.mp h1
    obtain ⟨v, _, rfl⟩ := List.mem_map.mp h2
    simp at e
/-- the rim's place of an edge: nought, one, or within -/
theorem edK_nodup (W H : Nat) : (edges W H).Nodup := edges_nodup W H
def edL (e : Ed) : List D := [.str (kS e.1), .int e.2.1, .int e.2.2]
theorem edL_eqvs (a b : Ed) : D.eqvs (edL a) (edL b) = decide (a = b) := eqv_edL a b
theorem pairs_ed : ∀ L : List Ed, pairsD (L.map fun e => .tup [eD e, .bl true]) = some (L.map fun e => (edL e, .bl true))
  | [] => rfl
  | a :: L => by
    have e : pairD (.tup [eD a, .bl true]) = some (edL a, .bl true) := rfl
    rw [List.map_cons, List.map_cons]
    unfold pairsD
    rw [e, pairs_ed L]
theorem nodupK_ed : ∀ L : List Ed, L.Nodup → nodupK (L.map fun e => (edL e, D.bl true)) = true
  | [], _ => rfl
  | a :: L, h => by
    rw [List.nodup_cons] at h
    rw [List.map_cons]
    unfold nodupK
    rw [nodupK_ed L h.2, Bool.and_true, Bool.not_eq_true', List.any_eq_false]
    intro q hq
    obtain ⟨b, hb, rfl⟩ := List.mem_map.mp hq
    dsimp only
    rw [edL_eqvs, decide_eq_true_iff]
    rintro rfl
    exact h.1 hb
theorem dq_ed (W H : Nat) : dqA (.lst ((edges W H).map fun e => .tup [eD e, .bl true])) = some ((edges W H).map fun e => (edL e, D.bl true)) := by
  show ((pairsD ((edges W H).map fun e => .tup [eD e, .bl true])).bind fun ps => if nodupK ps = true then some ps else none) = _
  rw [pairs_ed]
  show (if nodupK ((edges W H).map fun e => (edL e, D.bl true)) = true then _ else _) = _
  rw [if_pos (nodupK_ed _ (edK_nodup W H))]
def kxD (s : Sx) : D := .tup [.str s.1, cD s.2.1, cD s.2.2.1]
theorem kx_ok (s : Sx) : (kxD s).keyokN = true := by
  obtain ⟨k, x, y, f, g⟩ := s
  cases x <;> cases y <;> rfl
theorem memK_any (d : D) (L : List Ed) : memK d (L.map edL) = L.any fun e => D.eqv (.tup (edL e)) d := by
  unfold memK
  rw [List.any_map]
  rfl
theorem memK_n (s : Sx) (L : List Ed) (h : s.2.1 = .n ∨ s.2.2.1 = .n) : memK (kxD s) (L.map edL) = false := by
  rw [memK_any, List.any_eq_false]
  intro e _
  obtain ⟨k, x, y, f, g⟩ := s
  dsimp only at h
  rcases h with rfl | rfl
  · cases y <;> simp [kxD, cD, edL, D.eqv, D.eqvs]
  · cases x <;> simp [kxD, cD, edL, D.eqv, D.eqvs]
theorem memK_i (W H : Nat) (s : Sx) {a b : Int} (h1 : s.2.1 = .i a) (h2 : s.2.2.1 = .i b) : memK (kxD s) ((edges W H).map edL) = edgeI W H s.1 a b := by
  obtain ⟨k, x, y, f, g⟩ := s
  dsimp only at h1 h2
  subst h1 h2
  rw [memK_any]
  have e : (fun e : Ed => D.eqv (.tup (edL e)) (kxD (k, .i a, .i b, f, g))) = fun e => decide (kS e.1 = k ∧ e.2.1 = a ∧ e.2.2 = b) := by
    funext e
    simp [kxD, cD, edL, D.eqv, D.eqvs]
  rw [e, Bool.eq_iff_iff, List.any_eq_true]
  constructor
  · rintro ⟨⟨c, x, y⟩, hm, hd⟩
    obtain ⟨rfl, rfl, rfl⟩ := of_decide_eq_true hd
    have := (mem_edges W H c x y).mp hm
    rcases this with ⟨rfl, h1, h2, h3, h4⟩ | ⟨rfl, h1, h2, h3, h4⟩
    · unfold edgeI
      dsimp only
      rw [if_pos (show kS false = upT from rfl)]
      simp [h1, h2, h3, h4]
    · unfold edgeI
      dsimp only
      rw [if_neg (show ¬ kS true = upT by decide)]
      simp [h1, h2, h3, h4, kS]
  · intro h
    unfold edgeI at h
    dsimp only at h
    split at h
    · next c =>
      simp at h
      exact ⟨(false, a, b), (mem_edges W H false a b).mpr (.inl ⟨rfl, by omega, by omega, by omega, by omega⟩), decide_eq_true ⟨c.symm, rfl, rfl⟩⟩
    · next c =>
      simp at h
      exact ⟨(true, a, b), (mem_edges W H true a b).mpr (.inr ⟨rfl, by omega, by omega, by omega, by omega⟩), decide_eq_true ⟨h.1.symm, rfl, rfl⟩⟩
theorem bad_face {a : List Nat} (h : okT a) : cmpop .nmem (.str a) (.lst [.str [109], .str [112]]) = some (!PMb a) := by
  have e : memD (.str a) [.str [109], .str [112]] = PMb a := by
    unfold memD PMb
    simp [D.eqv]
    congr 1 <;> simp [eq_comm]
  show (gd ((D.str a).okd DEEP && (D.lst [.str [109], .str [112]]).okd DEEP) (!memD (.str a) [.str [109], .str [112]])) = _
  rw [e, DEEP_def, okd_str, show a.all (fun c => decide (c < 1114112)) = true from h]
  rfl
theorem sl_x (s : Sx) : slop (xD s) none (some 3) = some (.sh (kxD s)) := by
  obtain ⟨k, x, y, f, g⟩ := s
  rfl
--cut
abbrev fst (W H : Nat) (L : List D) (known : List Ke) (vs : List D) : List Slot := [.v (.int W) false, .v (.int H) false, .v (.tup L) false, .d ((edges W H).map edL), .v (.dct (known.map keD) vs) true, .u, .u, .u, .u, .u, .u, .u, .u, .u]
theorem first_turn (S : Store) (W H : Nat) (ss : List Sx) (k : Nat) (hk : k < ss.length) (o : OkX ss[k]) (known : List Ke) (vs : List D) (hl : known.length ≤ 1000) :
    if badX W H known ss[k] = true then ∃ r', turnB (.one 5) B__law_first_bad_4_0 [5, 6, 7, 8, 9, 10, 11, 12] (.int k) ⟨fst W H (ss.map xD) known vs, S⟩ = .ok (.ret (.sh (.int k))) ⟨r', S⟩
      else turnB (.one 5) B__law_first_bad_4_0 [5, 6, 7, 8, 9, 10, 11, 12] (.int k) ⟨fst W H (ss.map xD) known vs, S⟩ = .ok .nxt ⟨fst W H (ss.map xD) (known ++ [keyX ss[k]]) (vs ++ [.bl true]), S⟩ := by
  have at_ : atI (ss.map xD) (k : Int) = some (xD ss[k]) := by
    rw [at_nat _ k (by simpa using hk), List.getElem?_map, List.getElem?_eq_getElem hk]; rfl
  generalize ss[k] = s at *
  generalize ss.map xD = L at *
  have iB : ∀ (x y : D) (c : Bool), ixop (.lst [x, y]) (.int (if c = true then 1 else 0)) = some (if c = true then y else x) := fun x y c => by cases c <;> rfl
  unfold fst
  have eF := eq_str o.k (b := flT) rfl
  have sl := sl_x s
  have ko := kx_ok s
  have kn := memK_n s (edges W H)
  have ki := memK_i W H s (a := 0) (b := 0)
  have ki : ∀ {a b : Int}, s.2.1 = .i a → s.2.2.1 = .i b → memK (kxD s) ((edges W H).map edL) = edgeI W H s.1 a b := fun h1 h2 => memK_i W H s h1 h2
  have md : ∃ b, cmpop .mem (kxD s) (.dct (known.map keD) vs) = some b ∧ (∀ {x y : Int}, s.2.1 = .i x → s.2.2.1 = .i y → b = decide (keyX s ∈ known)) := by
    refine ⟨memD (kxD s) (known.map keD), ?_, fun h1 h2 => ?_⟩
    · show gd ((kxD s).keyokN) _ = _
      rw [ko]; rfl
    · have : kxD s = keD (keyX s) := by
        obtain ⟨k, x, y, f, g⟩ := s
        dsimp only at h1 h2
        subst h1 h2
        rfl
      rw [this, memD_keD]
  obtain ⟨mb, md, mdi⟩ := md
  have ey : ∀ {x y : Cd} {a b : List Nat}, s = (s.1, x, y, a, b) → xD s = .tup [.str s.1, cD x, cD y, .str a, .str b] := fun h => by rw [h]; rfl
  by_cases gi : (∃ a b, s.2.1 = .i a ∧ s.2.2.1 = .i b)
  · obtain ⟨a, b, h1, h2⟩ := gi
    have ki := ki h1 h2
    have mdi := mdi h1 h2
    have fF := bad_face o.f
    have fG := bad_face o.g
    have eM := eq_str o.f (b := [109]) rfl
    have eN := eq_str o.g (b := [109]) rfl
    have kE : ∀ r : List Slot, r[2]? = some (.v (.tup L) false) → r[5]? = some (.v (.int k) false) → keyE ev evA evO (.sl (.ix (.bor 2) (.bor 5)) .gap (.one (.ki 3))) ⟨r, S⟩ = .ok (keD (keyX s)) ⟨r, S⟩ := fun r q1 q2 => key_x h1 h2 q1 q2 at_
    have w : keyX s ∉ known → ∀ r : List Slot, r[4]? = some (.v (.dct (known.map keD) vs) true) → wrD 4 (keD (keyX s)) (.bl true) ⟨r, S⟩ = .ok .nxt ⟨r.set 4 (.v (.dct ((known ++ [keyX s]).map keD) (vs ++ [.bl true])) true), S⟩ := fun hm r hr => wr_keD 4 (keyX s) (.bl true) r S known vs hr hl hm
    have dX : xD s = .tup [.str s.1, .int a, .int b, .str s.2.2.2.1, .str s.2.2.2.2] := by
      obtain ⟨k, x, y, f, g⟩ := s
      dsimp only at h1 h2
      subst h1 h2
      rfl
    have hb : badX W H known s = (!(edgeI W H s.1 a b && (PMb s.2.2.2.1 && (PMb s.2.2.2.2 && looksB W H s a b))) || decide (keyX s ∈ known)) := by
      unfold badX sideB
      rw [h1, h2]
    rw [hb]
    rw [dX] at at_ sl
    have rng : edgeI W H s.1 a b = true → 0 ≤ (if decide (s.1 = flT) = true then b else a) ∧ (if decide (s.1 = flT) = true then b else a) ≤ (if decide (s.1 = flT) = true then (H : Int) else W) := fun e1 => by
      unfold edgeI at e1
      by_cases c : s.1 = flT
      · rw [if_neg (by rw [c]; decide)] at e1
        simp at e1
        rw [decide_eq_true c]
        simp
        omega
      · rw [decide_eq_false c]
        simp
        split at e1
        · simp at e1; omega
        · simp at e1; exact absurd e1.1 c
    have lk : looksB W H s a b = ((decide (0 < (if decide (s.1 = flT) = true then b else a)) || decide (s.2.2.2.1 = [112])) && (decide ((if decide (s.1 = flT) = true then b else a) < (if decide (s.1 = flT) = true then (H : Int) else W)) || decide (s.2.2.2.2 = [112]))) := by
      unfold looksB
      simp only [decide_eq_true_eq]
    rw [lk]
    have j1 : ixop (.lst [.int a, .int b]) (.int (if decide (s.1 = flT) = true then 1 else 0)) = some (.int (if decide (s.1 = flT) = true then b else a)) := by rw [iB]; cases decide (s.1 = flT) <;> rfl
    have j2 : ixop (.lst [.int W, .int H]) (.int (if decide (s.1 = flT) = true then 1 else 0)) = some (.int (if decide (s.1 = flT) = true then (H : Int) else W)) := by rw [iB]; cases decide (s.1 = flT) <;> rfl
    generalize (if decide (s.1 = flT) = true then b else a) = A at *
    generalize (if decide (s.1 = flT) = true then (H : Int) else W) = E at *
    generalize decide (s.1 = flT) = cF at *
    generalize kxD s = kd at *
    generalize (edges W H).map edL = EL at *
    cases e1 : edgeI W H s.1 a b with
    | false =>
      rw [e1] at ki
      rw [Bool.false_and, Bool.not_false, Bool.true_or, if_pos rfl]
      exact ⟨_, by simp [turnB, setMany, at_, eF, j1, j2, sl, ki, ko]; rfl⟩
    | true =>
      rw [e1] at ki
      have rng := rng e1
      by_cases hm : keyX s ∈ known
      · rw [decide_eq_true hm] at mdi ⊢
        rw [mdi] at md
        rw [Bool.or_true, if_pos rfl]
        exact ⟨_, by simp [turnB, setMany, at_, eF, j1, j2, sl, ki, ko, md]; rfl⟩
      · rw [decide_eq_false hm] at mdi ⊢
        rw [mdi] at md
        have w := w hm
        rw [Bool.or_false, Bool.true_and]
        cases p1 : PMb s.2.2.2.1 with
        | false =>
          rw [p1] at fF
          rw [Bool.false_and, Bool.not_false, if_pos rfl]
          exact ⟨_, by simp [turnB, setMany, at_, eF, j1, j2, sl, ki, ko, md, isiD, fF]; rfl⟩
        | true =>
          rw [p1] at fF
          cases p2 : PMb s.2.2.2.2 with
          | false =>
            rw [p2] at fG
            rw [Bool.false_and, Bool.and_false, Bool.not_false, if_pos rfl]
            exact ⟨_, by simp [turnB, setMany, at_, eF, j1, j2, sl, ki, ko, md, isiD, fF, fG]; rfl⟩
          | true =>
            rw [p2] at fG
            rw [Bool.true_and, Bool.true_and]
            have q1 : decide (s.2.2.2.1 = [112]) = !decide (s.2.2.2.1 = [109]) := by
              unfold PMb at p1
              by_cases z : s.2.2.2.1 = [109]
              · rw [z]; rfl
              · rw [decide_eq_false z, Bool.false_or] at p1
                rw [decide_eq_false z, p1]; rfl
            have q2 : decide (s.2.2.2.2 = [112]) = !decide (s.2.2.2.2 = [109]) := by
              unfold PMb at p2
              by_cases z : s.2.2.2.2 = [109]
              · rw [z]; rfl
              · rw [decide_eq_false z, Bool.false_or] at p2
                rw [decide_eq_false z, p2]; rfl
            rw [q1, q2]
            generalize decide (s.2.2.2.1 = [109]) = m1 at *
            generalize decide (s.2.2.2.2 = [109]) = m2 at *
            by_cases g1 : A = 0
            · have g1' : ¬ 0 < A := by omega
              cases m1
              · by_cases g2 : A = E
                · have g2' : ¬ A < E := by omega
                  have g3 : E = 0 := by omega
                  cases m2
                  · rw [if_neg (by simp)]
                    simp [turnB, setMany, at_, eF, j1, j2, sl, ki, ko, md, isiD, fF, fG, g1, g3, eM, eN, dctAt, kE, w]
                  · rw [if_pos (by simp [g2'])]
                    exact ⟨_, by simp [turnB, setMany, at_, eF, j1, j2, sl, ki, ko, md, isiD, fF, fG, g1, g3, eM, eN]; rfl⟩
                · have g2' : A < E := by omega
                  have g3 : ¬ 0 = E := by omega
                  rw [if_neg (by simp [g2'])]
                  simp [turnB, setMany, at_, eF, j1, j2, sl, ki, ko, md, isiD, fF, fG, g1, g3, eM, eN, dctAt, kE, w]
              · rw [if_pos (by simp [g1'])]
                exact ⟨_, by simp [turnB, setMany, at_, eF, j1, j2, sl, ki, ko, md, isiD, fF, fG, g1, eM, eN]; rfl⟩
            · have g1' : 0 < A := by omega
              by_cases g2 : A = E
              · have g2' : ¬ A < E := by omega
                have g3 : ¬ E = 0 := by omega
                cases m2
                · rw [if_neg (by simp [g1'])]
                  simp [turnB, setMany, at_, eF, j1, j2, sl, ki, ko, md, isiD, fF, fG, g1, g2, g3, eM, eN, dctAt, kE, w]
                · rw [if_pos (by simp [g2'])]
                  exact ⟨_, by simp [turnB, setMany, at_, eF, j1, j2, sl, ki, ko, md, isiD, fF, fG, g1, g2, g3, eM, eN]; rfl⟩
              · have g2' : A < E := by omega
                rw [if_neg (by simp [g1', g2'])]
                simp [turnB, setMany, at_, eF, j1, j2, sl, ki, ko, md, isiD, fF, fG, g1, g2, eM, eN, dctAt, kE, w]
  · have hb : badX W H known s = true := by
      unfold badX
      cases q : sideB W H s with
      | false => rfl
      | true => exact absurd (good_i q) gi
    rw [hb, if_pos rfl]
    have kn' : s.2.1 = .n ∨ s.2.2.1 = .n → memK (kxD s) ((edges W H).map edL) = false := kn
    obtain ⟨kk, x, y, f, g⟩ := s
    have dX : xD (kk, x, y, f, g) = .tup [.str kk, cD x, cD y, .str f, .str g] := rfl
    rw [dX] at at_ sl
    dsimp only at *
    generalize kxD (kk, x, y, f, g) = kd at *
    generalize (edges W H).map edL = EL at *
    have j1 := iB (cD x) (cD y) (decide (kk = flT))
    have j2 := iB (.int W) (.int H) (decide (kk = flT))
    generalize decide (kk = flT) = cF at *
    by_cases z : x = .n ∨ y = .n
    · have kf := kn' z
      generalize cD x = xd at *
      generalize cD y = yd at *
      exact ⟨_, by simp [turnB, setMany, at_, eF, j1, j2, sl, kf, ko]; rfl⟩
    · cases m0 : memK kd EL with
      | false =>
        generalize cD x = xd at *
        generalize cD y = yd at *
        exact ⟨_, by simp [turnB, setMany, at_, eF, j1, j2, sl, m0, ko]; rfl⟩
      | true =>
        cases mb with
        | true =>
          generalize cD x = xd at *
          generalize cD y = yd at *
          exact ⟨_, by simp [turnB, setMany, at_, eF, j1, j2, sl, m0, ko, md]; rfl⟩
        | false =>
          cases x with
          | n => exact absurd (.inl rfl) z
          | b v =>
            unfold cD at at_ sl j1
            generalize cD y = yd at *
            dsimp only at at_ sl j1
            refine ⟨_, by simp [turnB, setMany, at_, eF, j1, j2, sl, m0, ko, md, isiD]; rfl⟩
          | i a =>
            cases y with
            | n => exact absurd (.inr rfl) z
            | i b => exact absurd ⟨a, b, rfl, rfl⟩ gi
            | b v =>
              unfold cD at at_ sl j1
              dsimp only at at_ sl j1
              refine ⟨_, by simp [turnB, setMany, at_, eF, j1, j2, sl, m0, ko, md, isiD]; rfl⟩
--cut
theorem first_loop (S : Store) (W H : Nat) (ss : List Sx) (o : ∀ s ∈ ss, OkX s) (hl : ss.length ≤ 900) : ∀ (m k : Nat) (known : List Ke) (vs : List D), k + m = ss.length → known.length ≤ k →
    match fbad W H known (ss.drop k) k with
    | none => ∃ known' vs', loopF (.one 5) B__law_first_bad_4_0 [5, 6, 7, 8, 9, 10, 11, 12] ((List.range' k m).map fun j => D.int (j : Nat)) ⟨fst W H (ss.map xD) known vs, S⟩ = .ok .nxt ⟨fst W H (ss.map xD) known' vs', S⟩
    | some j => ∃ r', loopF (.one 5) B__law_first_bad_4_0 [5, 6, 7, 8, 9, 10, 11, 12] ((List.range' k m).map fun j => D.int (j : Nat)) ⟨fst W H (ss.map xD) known vs, S⟩ = .ok (.ret (.sh (.int j))) ⟨r', S⟩ := by
  intro m
  induction m with
  | zero =>
    intro k known vs e _
    rw [List.drop_eq_nil_of_le (by omega)]
    exact ⟨known, vs, by simp⟩
  | succ m ih =>
    intro k known vs e hn
    have hk : k < ss.length := by omega
    have t := first_turn S W H ss k hk (o _ (List.getElem_mem hk)) known vs (by omega)
    rw [List.drop_eq_getElem_cons hk]
    unfold fbad
    rw [List.range'_succ, List.map_cons, loopF_turn]
    by_cases b : badX W H known ss[k] = true
    · rw [if_pos b] at t ⊢
      obtain ⟨r', t⟩ := t
      rw [t]
      exact ⟨r', rfl⟩
    · rw [if_neg b] at t ⊢
      rw [t]
      have := ih (k + 1) (known ++ [keyX ss[k]]) (vs ++ [.bl true]) (by omega) (by simp; omega)
      cases q : fbad W H (known ++ [keyX ss[k]]) (ss.drop (k + 1)) (k + 1) with
      | none =>
        rw [q] at this
        obtain ⟨a, c, h⟩ := this
        exact ⟨a, c, by rw [bind_ok, nextF_nxt, h]⟩
      | some j =>
        rw [q] at this
        obtain ⟨a, h⟩ := this
        exact ⟨a, by rw [bind_ok, nextF_nxt, h]⟩
def fbD (o : Option Nat) : D := match o with
  | none => .non
  | some j => .int j
theorem f_first_bad (S : Store) (W H : Nat) (hW : W ≤ 8) (hH : H ≤ 8) (ss : List Sx) (o : ∀ s ∈ ss, OkX s) (hl : ss.length ≤ 900) : s__law_first_bad S [.v (.int W) false, .v (.int H) false, .v (.tup (ss.map xD)) false] = .ok (.sh (fbD (fbad W H [] ss 0))) S := by
  have fe := f_edges S W H hW hH
  have lc : ∀ r : List Slot, r.length = 14 → loopC [13] (.one 13) (.kb true) E__law_first_bad_0 ((edges W H).map eD) ⟨r.set 13 .u, S⟩ = .ok (((edges W H).map eD).map fun x => .tup [x, .bl true]) ⟨r.set 13 .u, S⟩ := by
    intro r hr
    refine loopC_map (fun x => .tup [x, .bl true]) fun x hx => ?_
    match r, hr with
    | [a0, a1, a2, a3, a4, a5, a6, a7, a8, a9, a10, a11, a12, a13], _ => simp [asg, wipeR]
  have lc := lc [.v (.int W) false, .v (.int H) false, .v (.tup (ss.map xD)) false, .u, .u, .u, .u, .u, .u, .u, .u, .u, .u, .u] rfl
  have dq := dq_ed W H
  have mm : (((edges W H).map eD).map fun x => D.tup [x, .bl true]) = (edges W H).map fun e => .tup [eD e, .bl true] := by rw [List.map_map]; rfl
  rw [mm] at lc
  have fl : fits ((edges W H).map eD).length = true := by
    have := edges_len W H hW hH
    rw [List.length_map, fits_def]
    exact decide_eq_true (by omega)
  have ml : ((edges W H).map fun e => (edL e, D.bl true)).map (·.1) = (edges W H).map edL := by rw [List.map_map]; rfl
  have lp := first_loop S W H ss o hl ss.length 0 [] [] (by omega) (Nat.le_refl 0)
  rw [List.drop_zero, ← List.range_eq_range'] at lp
  unfold fst at lp
  have rg : rgOk (ss.length : Int) = true := rgOk_nat (by omega)
  generalize (edges W H).map (fun e => D.tup [eD e, .bl true]) = EP at *
  generalize (edges W H).map (fun e => (edL e, D.bl true)) = EK at *
  generalize (edges W H).map eD = ED at *
  generalize (edges W H).map edL = EL at *
  cases q : fbad W H [] ss 0 with
  | none =>
    rw [q] at lp
    obtain ⟨kn, vs, lp⟩ := lp
    simp at lp lc fl
    simp [R__law_first_bad, callF_eq fe, fl, lc, dq, ml, rg, lp, fbD]
  | some j =>
    rw [q] at lp
    obtain ⟨r', lp⟩ := lp
    simp at lp lc fl
    simp [R__law_first_bad, callF_eq fe, fl, lc, dq, ml, rg, lp, fbD]
theorem due_turn (S : Store) (z : Slot) (w h : Cd) (L : D) (c : Cd) : turnB (.one 4) B__law_due_1_0 [4] (cD c) ⟨[z, .v (cD w) false, .v (cD h) false, .v L false, .u, .u], S⟩ =
    if szB c = true then .ok .nxt ⟨[z, .v (cD w) false, .v (cD h) false, .v L false, .u, .u], S⟩ else .ok (.ret (.sh (.tup [.int 0, .non]))) ⟨[z, .v (cD w) false, .v (cD h) false, .v L false, .v (cD c) false, .u], S⟩ := by
  generalize cD w = wd
  generalize cD h = hd
  cases c with
  | n => simp [turnB, cD, szB, isiD]
  | b v => simp [turnB, cD, szB, isiD]
  | i m =>
    unfold szB
    dsimp only
    by_cases h1 : 1 ≤ m
    · by_cases h2 : m ≤ 8
      · simp [turnB, cD, isiD, h1, h2]
      · simp [turnB, cD, isiD, h1, h2]
    · simp [turnB, cD, isiD, h1]
def dueT (o : Option D) : D := match o with
  | none => .non
  | some v => .tup [.int 0, v]
theorem isNon_fb (j : Nat) : isNon (D.int (j : Int)) = false := rfl
theorem x_due (S : Store) (w h : Cd) (ss : List Sx) (o : ∀ s ∈ ss, OkX s) (hl : ss.length ≤ 900) : s__law_due S [.v (hallX w h ss) false] = .ok (.sh (dueT (dueX w h ss))) S := by
  have t1 := due_turn S (.v (hallX w h ss) false) w h (.tup (ss.map xD)) w
  have t2 := due_turn S (.v (hallX w h ss) false) w h (.tup (ss.map xD)) h
  unfold hallX at *
  cases z1 : szB w with
  | false =>
    rw [z1, if_neg (by decide)] at t1
    have : dueX w h ss = some .non := by
      unfold dueX
      cases w <;> cases h <;> first | rfl | skip
      rw [z1]; rfl
    rw [this]
    generalize cD w = wd at *
    generalize cD h = hd at *
    simp [R__law_due, setMany, loopF_turn, t1, dueT]
  | true =>
    rw [z1, if_pos rfl] at t1
    cases z2 : szB h with
    | false =>
      rw [z2, if_neg (by decide)] at t2
      have : dueX w h ss = some .non := by
        unfold dueX
        cases w <;> cases h <;> first | rfl | skip
        rw [z2, Bool.and_false]; rfl
      rw [this]
      generalize cD w = wd at *
      generalize cD h = hd at *
      simp [R__law_due, setMany, loopF_turn, t1, t2, dueT]
    | true =>
      rw [z2, if_pos rfl] at t2
      cases w <;> first | (cases z1; done) | skip
      cases h <;> first | (cases z2; done) | skip
      rename_i W H
      have e : dueX (.i W) (.i H) ss = (fbad W H [] ss 0).map (fun (k : Nat) => D.int k) := by
        unfold dueX
        dsimp only
        rw [z1, z2]; rfl
      have b1 := of_decide_eq_true z1
      have b2 := of_decide_eq_true z2
      obtain ⟨W', rfl⟩ : ∃ n : Nat, W = n := ⟨W.toNat, by omega⟩
      obtain ⟨H', rfl⟩ : ∃ n : Nat, H = n := ⟨H.toNat, by omega⟩
      have fb := f_first_bad S W' H' (by omega) (by omega) ss o hl
      rw [e]
      unfold cD at *
      dsimp only at *
      cases q : fbad W' H' [] ss 0 with
      | none =>
        rw [q] at fb
        unfold fbD at fb
        dsimp only at fb
        simp [R__law_due, setMany, loopF_turn, t1, t2, callF_eq fb, dueT, isNon]
      | some j =>
        rw [q] at fb
        unfold fbD at fb
        dsimp only at fb
        simp [R__law_due, setMany, loopF_turn, t1, t2, callF_eq fb, dueT, isNon_fb]
--cut
def toX (s : Sd) : Sx := (kS s.1.1, .i s.1.2.1, .i s.1.2.2, s.2.1, s.2.2)
theorem toX_D (s : Sd) : xD (toX s) = sD s := rfl
theorem kS_okT (b : Bool) : okT (kS b) := by cases b <;> rfl
theorem toX_ok {W H : Nat} {s : Sd} (h : okSd W H s) : OkX (toX s) := ⟨kS_okT _, by rcases h.2.1 with e | e <;> (unfold toX; rw [e]; rfl), by rcases h.2.2 with e | e <;> (unfold toX; rw [e]; rfl)⟩
theorem toX_map (ss : List Sd) : ss.map sD = (ss.map toX).map xD := by rw [List.map_map]; rfl
theorem img {α : Type} {f : α → D} {P : α → Prop} : ∀ {ds : List D}, (∀ d ∈ ds, ∃ a, P a ∧ d = f a) → ∃ as : List α, ds = as.map f ∧ ∀ a ∈ as, P a
  | [], _ => ⟨[], rfl, by simp⟩
  | d :: ds, h => by
    obtain ⟨a, pa, rfl⟩ := h d List.mem_cons_self
    obtain ⟨as, e, p⟩ := img (fun x hx => h x (List.mem_cons_of_mem _ hx))
    exact ⟨a :: as, by rw [e]; rfl, fun x hx => by
      rcases List.mem_cons.mp hx with rfl | hx
      · exact pa
      · exact p x hx⟩
def thirdD : D → D
  | .tup [_, _, x] => x
  | _ => .non
theorem x_shuffled (S : Store) {W H : Nat} (ss : List Sd) (c : Int) (hs : ∀ s ∈ ss, okSd W H s) (hl : ss.length ≤ 144) : ∃ ss' : List Sd, (∀ s ∈ ss', okSd W H s) ∧ ss'.length = ss.length ∧ s__law_shuffled S [.v (.tup (ss.map sD)) false, .v (.int c) false] = .ok (.sh (.tup (ss'.map sD))) S := by
  have fn := f_numbers S c ss.length (by omega)
  have nl : (numsOf c ss.length).length = ss.length := numsOf_len _ _
  obtain ⟨ns, hn, nl⟩ : ∃ ns : List Int, numsOf c ss.length = ns ∧ ns.length = ss.length := ⟨_, rfl, nl⟩
  rw [hn] at fn
  let F : Nat → D := fun k => .tup [.int (ns.getD k 0), .int (k : Int), (ss.map sD).getD k .non]
  have lc : loopC [3] (.one 3) (.kb true) E__law_shuffled_0 ((List.range ss.length).map fun k => D.int (k : Nat)) ⟨[.v (.tup (ss.map sD)) false, .v (.int c) false, .v (.lst (ns.map D.int)) true, .u, .u], S⟩ = .ok ((List.range ss.length).map F) ⟨[.v (.tup (ss.map sD)) false, .v (.int c) false, .v (.lst (ns.map D.int)) true, .u, .u], S⟩ := by
    rw [loopC_map (fun d => match d with | .int k => F k.toNat | _ => .non) (fun x hx => ?_), List.map_map]
    · rfl
    · obtain ⟨k, hk, rfl⟩ := List.mem_map.mp hx
      have hk := List.mem_range.mp hk
      have a1 : atI (ns.map D.int) (k : Int) = some (.int (ns.getD k 0)) := by
        rw [at_nat _ k (by simp; omega), List.getElem?_map, List.getElem?_eq_getElem (by omega), List.getD_eq_getElem?_getD, List.getElem?_eq_getElem (by omega)]; rfl
      have a2 : atI (ss.map sD) (k : Int) = some ((ss.map sD).getD k .non) := by
        rw [at_nat _ k (by simp; omega), List.getD_eq_getElem?_getD, List.getElem?_eq_getElem (by simp; omega)]; rfl
      simp only [F, Int.toNat_natCast]
      generalize (ss.map sD).getD k .non = sd at *
      generalize ns.getD k 0 = nk at *
      generalize ss.map sD = L at *
      generalize ns.map D.int = NL at *
      simp [asg, wipeR, a1, a2]
  have mem : ∀ d ∈ (List.range ss.length).map F, ∃ (a b : Int) (s : Sd), s ∈ ss ∧ d = .tup [.int a, .int b, sD s] := by
    intro d hd
    obtain ⟨k, hk, rfl⟩ := List.mem_map.mp hd
    have hk := List.mem_range.mp hk
    refine ⟨ns.getD k 0, k, ss[k], List.getElem_mem hk, ?_⟩
    simp only [F]
    rw [List.getD_eq_getElem?_getD (l := ss.map sD), List.getElem?_map, List.getElem?_eq_getElem hk]; rfl
  have so := blt_sorted_tups (xs := (List.range ss.length).map F) (ss := [.i, .i, .t [.s, .i, .i, .s, .s]]) (by simp) (fun x hx => by
      obtain ⟨a, b, s, _, rfl⟩ := mem x hx; rfl) (fun x hx => by
      obtain ⟨a, b, s, h, rfl⟩ := mem x hx
      rw [okd_tup, okds_cons, okds_cons, okds_cons, okd_int, okd_int, okds_nil, ← toX_D, okd_x (toX_ok (hs s h)) 57]; rfl)
  have mem2 : ∀ d ∈ sortD ((List.range ss.length).map F), ∃ (a b : Int) (s : Sd), s ∈ ss ∧ d = .tup [.int a, .int b, sD s] := fun d hd => mem d (sortD_mem.mp hd)
  have len2 : (sortD ((List.range ss.length).map F)).length = ss.length := by rw [sortD_len]; simp
  generalize (List.range ss.length).map F = L0 at *
  generalize sortD L0 = L1 at *
  have lc2 : loopC [4] (.one 4) (.kb true) E__law_shuffled_1 L1 ⟨[.v (.tup (ss.map sD)) false, .v (.int c) false, .v (.lst (ns.map D.int)) true, .u, .u], S⟩ = .ok (L1.map thirdD) ⟨[.v (.tup (ss.map sD)) false, .v (.int c) false, .v (.lst (ns.map D.int)) true, .u, .u], S⟩ := by
    refine loopC_map thirdD fun x hx => ?_
    obtain ⟨a, b, s, _, rfl⟩ := mem2 x hx
    have i2 : ∀ a b c : D, atI [a, b, c] 2 = some c := fun _ _ _ => rfl
    simp [asg, wipeR, i2, thirdD]
  obtain ⟨ss', e, p⟩ := img (f := sD) (P := fun s => okSd W H s) (ds := L1.map thirdD) (fun d hd => by
    obtain ⟨x, hx, rfl⟩ := List.mem_map.mp hd
    obtain ⟨a, b, s, h, rfl⟩ := mem2 x hx
    exact ⟨s, hs s h, rfl⟩)
  have l3 : ss'.length = ss.length := by rw [← len2, ← List.length_map (f := thirdD), e, List.length_map]
  refine ⟨ss', p, l3, ?_⟩
  rw [e] at lc2
  have fl : L1.length ≤ 16777216 := by omega
  have fl2 : ss.length ≤ 16777216 := by omega
  have rg : rgOk (ss.length : Int) = true := rgOk_nat (by omega)
  try simp at lc
  try simp at lc2
  simp [R__law_shuffled, callF_eq fn, rg, lc, so, fl, lc2, fl2]
theorem x_only (S : Store) (v : D) : s__law_only S [.v (.exn [78, 111, 72, 97, 108, 108] [[115, 105, 100, 101]] [v]) false, .v (.int 0) false] = .ok (.sh (.bl true)) S := by
  have r : (List.range 7).map (fun k => D.int (k : Nat)) = [.int 0, .int 1, .int 2, .int 3, .int 4, .int 5, .int 6] := rfl
  have r7 : rgOk 7 = true := by decide
  simp [R__law_only, isxR, r, r7, loopC_cons, cmp_eq]
theorem cut_13 (a b c : D) : cutD [a, b, c] (some 1) none = [b, c] := rfl
theorem cut_takeX {α : Type} (xs : List α) (k : Nat) (h : k ≤ xs.length) : cutD xs none (some (k : Int)) = xs.take k := by
  unfold cutD sIx
  simp only
  rw [if_neg (by omega), Int.toNat_natCast, Nat.min_eq_left h]
  simp
theorem cut_dropX {α : Type} (xs : List α) (k : Nat) (h : k ≤ xs.length) : cutD xs (some (k : Int)) none = xs.drop k := by
  unfold cutD sIx
  simp only
  rw [if_neg (by omega), Int.toNat_natCast, Nat.min_eq_left h]
  rw [List.take_of_length_le (by simp)]
def OkXs (ts : List Sx) : Prop := ∀ s ∈ ts, OkX s
def isX (d : D) : Prop := ∃ t, OkX t ∧ d = xD t
theorem bent_tail (S : Store) (W H : Nat) (ss : List Sx) (o : ∀ s ∈ ss, OkX s) (hl : ss.length ≤ 800) (c p : Int) (z0 z6 z7 : Slot) (LS : List D) (h0 : LS ≠ []) (hL : LS.length ≤ 100) (hx : ∀ d ∈ LS, isX d) : ∃ (w h : Cd) (ts : List Sx), OkXs ts ∧ ts.length ≤ ss.length + 1 ∧
    endD (ex B__law_bent_1_13 ⟨[z0, .v (.int c) false, .v (.int W) false, .v (.int H) false, .v (.tup (ss.map xD)) false, .v (.int p) false, z6, z7, .v (.lst LS) true, .u, .u, .u], S⟩) = .ok (.sh (hallX w h ts)) S := by
  have lp : 0 < LS.length := List.length_pos_iff.mpr h0
  have m1 : 0 ≤ p % (LS.length : Int) := Int.emod_nonneg _ (by omega)
  have m2 : p % (LS.length : Int) < LS.length := Int.emod_lt_of_pos _ (by omega)
  obtain ⟨j, hj⟩ : ∃ j : Nat, p % (LS.length : Int) = j := ⟨(p % (LS.length : Int)).toNat, by omega⟩
  have jl : j < LS.length := by omega
  obtain ⟨t, ot, et⟩ := hx LS[j] (List.getElem_mem jl)
  have a1 : atI LS (j : Int) = some (xD t) := by rw [at_nat _ j jl, List.getElem?_eq_getElem jl, et]
  have n1 : 0 ≤ p / 32 % ((ss.length : Int) + 1) := Int.emod_nonneg _ (by omega)
  have n2 : p / 32 % ((ss.length : Int) + 1) < (ss.length : Int) + 1 := Int.emod_lt_of_pos _ (by omega)
  obtain ⟨k, hk⟩ : ∃ k : Nat, p / 32 % ((ss.length : Int) + 1) = k := ⟨(p / 32 % ((ss.length : Int) + 1)).toNat, by omega⟩
  have kl : k ≤ ss.length := by omega
  have lpI : (0 : Int) < LS.length := by omega
  have s1 : slop (.tup (ss.map xD)) none (some (k : Int)) = some (.sh (.tup ((ss.take k).map xD))) := by
    show some (EV.sh (.tup (cutD (ss.map xD) none (some (k : Int))))) = _
    rw [cut_takeX _ k (by simpa using kl), List.map_take]
  have s2 : slop (.tup (ss.map xD)) (some (k : Int)) none = some (.sh (.tup ((ss.drop k).map xD))) := by
    show some (EV.sh (.tup (cutD (ss.map xD) (some (k : Int)) none))) = _
    rw [cut_dropX _ k (by simpa using kl), List.map_drop]
  have len0 : blt .len [.tup (ss.map xD)] = some (.sh (.int ss.length)) := by
    show some (EV.sh (.int ((ss.map xD).length : Nat))) = _
    rw [List.length_map]
  have b1 : binop .add (.tup ((ss.take k).map xD)) (.tup [xD t]) = some (.sh (.tup ((ss.take k ++ [t]).map xD))) := by
    show gd (fits (((ss.take k).map xD).length + [xD t].length)) (EV.sh (.tup ((ss.take k).map xD ++ [xD t]))) = _
    rw [List.length_map, List.length_take, fits_def, decide_eq_true (by simp; omega), List.map_append]; rfl
  have b2 : binop .add (.tup ((ss.take k ++ [t]).map xD)) (.tup ((ss.drop k).map xD)) = some (.sh (.tup ((ss.take k ++ [t] ++ ss.drop k).map xD))) := by
    show gd (fits (((ss.take k ++ [t]).map xD).length + ((ss.drop k).map xD).length)) (EV.sh (.tup ((ss.take k ++ [t]).map xD ++ (ss.drop k).map xD))) = _
    rw [List.length_map, List.length_map, List.length_append, List.length_take, List.length_drop, fits_def, decide_eq_true (by simp; omega), ← List.map_append]; rfl
  have b3 : ∀ a b : D, binop .add (.tup [a, b]) (.tup [.tup (ss.map xD)]) = some (.sh (.tup [a, b, .tup (ss.map xD)])) := fun _ _ => rfl
  by_cases c15 : c % 16 = 15
  · have q1 : 0 ≤ p % 7 := by omega
    have q2 : p % 7 < 7 := by omega
    obtain ⟨i, hi⟩ : ∃ i : Nat, p % 7 = i := ⟨(p % 7).toNat, by omega⟩
    have i7 : i = 0 ∨ i = 1 ∨ i = 2 ∨ i = 3 ∨ i = 4 ∨ i = 5 ∨ i = 6 := by omega
    have pw : binop .pow (.int 10) (.int 9) = some (.sh (.int 1000000000)) := rfl
    generalize hLL : ss.map xD = L at *
    have gen : ∀ (wd hd : D), ixop (.lst [.tup [.int 0, .int 1], .tup [.int 1, .int 0], .tup [.int 9, .int 1], .tup [.int 1, .int 9], .tup [.bl true, .int 1], .tup [.int 1, .non], .tup [.int (-1), .int 1000000000]]) (.int (i : Int)) = some (.tup [wd, hd]) →
        endD (ex B__law_bent_1_13 ⟨[z0, .v (.int c) false, .v (.int W) false, .v (.int H) false, .v (.tup L) false, .v (.int p) false, z6, z7, .v (.lst LS) true, .u, .u, .u], S⟩) = .ok (.sh (.tup [wd, hd, .tup L])) S := by
      intro wd hd e
      simp [lp, hj, a1, len0, n1, hk, c15, hi, pw, e, b3]
    rcases i7 with rfl | rfl | rfl | rfl | rfl | rfl | rfl
    · exact ⟨.i 0, .i 1, ss, o, by omega, by unfold hallX; rw [hLL]; exact gen _ _ rfl⟩
    · exact ⟨.i 1, .i 0, ss, o, by omega, by unfold hallX; rw [hLL]; exact gen _ _ rfl⟩
    · exact ⟨.i 9, .i 1, ss, o, by omega, by unfold hallX; rw [hLL]; exact gen _ _ rfl⟩
    · exact ⟨.i 1, .i 9, ss, o, by omega, by unfold hallX; rw [hLL]; exact gen _ _ rfl⟩
    · exact ⟨.b true, .i 1, ss, o, by omega, by unfold hallX; rw [hLL]; exact gen _ _ rfl⟩
    · exact ⟨.i 1, .n, ss, o, by omega, by unfold hallX; rw [hLL]; exact gen _ _ rfl⟩
    · exact ⟨.i (-1), .i 1000000000, ss, o, by omega, by unfold hallX; rw [hLL]; exact gen _ _ rfl⟩
  · refine ⟨.i W, .i H, ss.take k ++ [t] ++ ss.drop k, ?_, ?_, ?_⟩
    · intro s hs
      rcases List.mem_append.mp hs with hs | hs
      · rcases List.mem_append.mp hs with hs | hs
        · exact o s (List.mem_of_mem_take hs)
        · simp at hs; subst hs; exact ot
      · exact o s (List.mem_of_mem_drop hs)
    · simp; omega
    · unfold hallX cD
      generalize (ss.take k ++ [t] ++ ss.drop k).map xD = A4 at *
      generalize (ss.take k ++ [t]).map xD = A2 at *
      generalize (ss.take k).map xD = A1 at *
      generalize (ss.drop k).map xD = A3 at *
      generalize ss.map xD = L at *
      simp [lp, hj, a1, len0, n1, hk, c15, s1, s2, b1, b2]
theorem x_bent (S : Store) (W H : Nat) (w1 : 1 ≤ W) (w8 : W ≤ 8) (h1 : 1 ≤ H) (h8 : H ≤ 8) (ss : List Sx) (o : ∀ s ∈ ss, OkX s) (hl : ss.length ≤ 800) (c : Int) : ∃ (w h : Cd) (ts : List Sx), OkXs ts ∧ ts.length ≤ ss.length + 1 ∧
    s__law_bent S [.v (hallX (.i W) (.i H) ss) false, .v (.int c) false] = .ok (.sh (hallX w h ts)) S := by
  have fe := f_edges S W H w8 h8
  have el := edges_len W H w8 h8
  have e0 : 0 < (edges W H).length := by
    have : (false, (0 : Int), (0 : Int)) ∈ edges W H := (mem_edges W H false 0 0).mpr (.inl ⟨rfl, by omega, by omega, by omega, by omega⟩)
    exact List.length_pos_of_mem this
  have m1 : 0 ≤ c / 16 % ((edges W H).length : Int) := Int.emod_nonneg _ (by omega)
  have m2 : c / 16 % ((edges W H).length : Int) < (edges W H).length := Int.emod_lt_of_pos _ (by omega)
  obtain ⟨j, hj⟩ : ∃ j : Nat, c / 16 % ((edges W H).length : Int) = j := ⟨(c / 16 % ((edges W H).length : Int)).toNat, by omega⟩
  have jl : j < (edges W H).length := by omega
  obtain ⟨e, he⟩ : ∃ e, (edges W H)[j] = e := ⟨_, rfl⟩
  have a1 : atI ((edges W H).map eD) (j : Int) = some (.tup [.str (kS e.1), .int e.2.1, .int e.2.2]) := by rw [at_nat _ j (by simpa using jl), List.getElem?_map, List.getElem?_eq_getElem jl, he]; rfl
  have lenE : blt .len [.lst ((edges W H).map eD)] = some (.sh (.int (edges W H).length)) := by
    show some (EV.sh (.int (((edges W H).map eD).length : Nat))) = _
    rw [List.length_map]
  have s1 : slop (.tup (ss.map xD)) none (some 1) = some (.sh (.tup ((ss.take 1).map xD))) := by
    show some (EV.sh (.tup (cutD (ss.map xD) none (some ((1 : Nat) : Int))))) = _
    by_cases z : 1 ≤ ss.length
    · rw [cut_takeX _ 1 (by simpa using z), List.map_take]
    · have : ss = [] := List.eq_nil_of_length_eq_zero (by omega)
      subst this; rfl
  have sF : ∀ d ∈ (ss.take 1).map xD, isX d := fun d hd => by
    obtain ⟨s, hs, rfl⟩ := List.mem_map.mp hd
    exact ⟨s, o s (List.mem_of_mem_take hs), rfl⟩
  have lF : ((ss.take 1).map xD).length ≤ 1 := by simp; omega
  have bt := fun LS a b d => bent_tail S W H ss o hl c (c / 16) (.v (hallX (.i W) (.i H) ss) false) a b LS d
  generalize (ss.take 1).map xD = FX at *
  have hk : okT (kS e.1) := kS_okT _
  obtain ⟨k, x, y⟩ := e
  dsimp only at a1 hk
  generalize kS k = kk at *
  generalize (edges W H).map eD = ED at *
  clear he jl
  generalize (edges W H).length = n at *
  unfold hallX cD at *
  generalize ss.map xD = L at *
  have sl13 : ∀ a b c : D, slop (.tup [a, b, c]) (some 1) none = some (.sh (.tup [b, c])) := fun _ _ _ => rfl
  have hFX : FX = [] ∨ ∃ d0, FX = [d0] ∧ isX d0 := by
    match FX, lF, sF with
    | [], _, _ => exact .inl rfl
    | [d0], _, sF => exact .inr ⟨d0, rfl, sF d0 List.mem_cons_self⟩
    | _ :: _ :: _, lF, _ => simp at lF
  have go : ∀ {d : D} (k : List Nat) (x y : Cd) (f g : List Nat), d = .tup [.str k, cD x, cD y, .str f, .str g] → okT k → okT f → okT g → isX d := fun k x y f g e h1 h2 h3 => ⟨(k, x, y, f, g), ⟨h1, h2, h3⟩, e⟩
  clear sF lF
  simp only [R__law_bent]
  rcases hFX with rfl | ⟨d0, rfl, hd0⟩
  · simp [setMany, callF_eq fe, lenE, e0, hj, a1, sl13, s1, lstAt, wrL, -X__law_bent_1_13]
    refine bt _ _ _ ?_ ?_ ?_
    · simp
    · simp
    · intro d hd
      simp at hd
      rcases hd with h | h | h | h | h | h | h | h | h | h | h | h | h | h | h | h | h | h | h | h | h | h | h | h
      all_goals first
        | exact go _ (.i _) (.i _) _ _ h (by first | exact hk | rfl) rfl rfl
        | exact go _ .n (.i _) _ _ h (by first | exact hk | rfl) rfl rfl
        | exact go _ (.i _) .n _ _ h (by first | exact hk | rfl) rfl rfl
        | exact go _ (.b _) (.i _) _ _ h (by first | exact hk | rfl) rfl rfl
        | exact go _ (.i _) (.b _) _ _ h (by first | exact hk | rfl) rfl rfl
  · simp [setMany, callF_eq fe, lenE, e0, hj, a1, sl13, s1, lstAt, wrL, -X__law_bent_1_13]
    refine bt _ _ _ ?_ ?_ ?_
    · simp
    · simp
    · intro d hd
      simp at hd
      rcases hd with h | h | h | h | h | h | h | h | h | h | h | h | h | h | h | h | h | h | h | h | h | h | h | h | h
      all_goals first
        | exact h ▸ hd0
        | exact go _ (.i _) (.i _) _ _ h (by first | exact hk | rfl) rfl rfl
        | exact go _ .n (.i _) _ _ h (by first | exact hk | rfl) rfl rfl
        | exact go _ (.i _) .n _ _ h (by first | exact hk | rfl) rfl rfl
        | exact go _ (.b _) (.i _) _ _ h (by first | exact hk | rfl) rfl rfl
        | exact go _ (.i _) (.b _) _ _ h (by first | exact hk | rfl) rfl rfl
--cut
def neB : Option D → Bool
  | some .non => false
  | _ => true
theorem neB_f {o : Option D} (h : o = some .non) : neB o = false := by rw [h]; rfl
theorem neB_t {o : Option D} (h : o ≠ some .non) : neB o = true := by
  unfold neB
  split
  · exact absurd rfl h
  · rfl
theorem due_ne (o : Option D) (h : ∀ v, o = some v → v = .non ∨ ∃ k : Nat, v = .int k) : cmpop .ne (dueT o) (.tup [.int 0, .non]) = some (neB o) := by
  cases o with
  | none => rfl
  | some v =>
    rcases h v rfl with rfl | ⟨k, rfl⟩
    · simp [dueT, cmp_ne, D.eqv, D.eqvs, neB]
    · simp [dueT, cmp_ne, D.eqv, D.eqvs, neB]
theorem dueX_v {w h : Cd} {ss : List Sx} : ∀ v, dueX w h ss = some v → v = .non ∨ ∃ k : Nat, v = .int k := by
  intro v e
  unfold dueX at e
  split at e
  · split at e
    · cases q : fbad _ _ [] ss 0 with
      | none => rw [q] at e; cases e
      | some k => rw [q] at e; cases e; exact .inr ⟨k, rfl⟩
    · cases e; exact .inl rfl
  · cases e; exact .inl rfl
theorem dueX_sz {w h : Cd} {ss : List Sx} (n : dueX w h ss ≠ some .non) : ∃ W H : Nat, w = .i W ∧ h = .i H ∧ 1 ≤ W ∧ W ≤ 8 ∧ 1 ≤ H ∧ H ≤ 8 := by
  unfold dueX at n
  split at n
  · rename_i W H
    split at n
    · next z =>
      rw [Bool.and_eq_true] at z
      have b1 : 1 ≤ W ∧ W ≤ 8 := of_decide_eq_true z.1
      have b2 : 1 ≤ H ∧ H ≤ 8 := of_decide_eq_true z.2
      exact ⟨W.toNat, H.toNat, by rw [Int.toNat_of_nonneg (by omega)], by rw [Int.toNat_of_nonneg (by omega)], by omega, by omega, by omega, by omega⟩
    · exact absurd rfl n
  · exact absurd rfl n
theorem x_eqv (s : Sx) : D.eqv (xD s) (xD s) = true := by
  obtain ⟨k, x, y, f, g⟩ := s
  cases x <;> cases y <;> simp [xD, cD, D.eqv, D.eqvs]
theorem xs_eqv : ∀ ss : List Sx, D.eqvs (ss.map xD) (ss.map xD) = true
  | [] => by simp
  | s :: ss => by rw [List.map_cons]; simp [D.eqvs, x_eqv s, xs_eqv ss]
theorem xs_okd : ∀ {ss : List Sx} (n : Nat), OkXs ss → D.okds (ss.map xD) (n + 2) = true
  | [], n, _ => by simp
  | s :: ss, n, o => by
    rw [List.map_cons, okds_cons, okd_x (o s List.mem_cons_self) n, xs_okd n fun t ht => o t (List.mem_cons_of_mem _ ht)]; rfl
theorem hall_same {w h : Cd} {ss : List Sx} (o : OkXs ss) : cmpop .eq (.tup [cD w, cD h, .tup (ss.map xD)]) (.tup [cD w, cD h, .tup (ss.map xD)]) = some true := by
  have e : D.eqv (.tup [cD w, cD h, .tup (ss.map xD)]) (.tup [cD w, cD h, .tup (ss.map xD)]) = true := by
    have e1 : ∀ c : Cd, D.eqv (cD c) (cD c) = true := fun c => by cases c <;> simp [cD, D.eqv]
    simp [D.eqv, D.eqvs, e1, xs_eqv]
  have k : (D.tup [cD w, cD h, .tup (ss.map xD)]).okd 60 = true := by
    have e1 : ∀ (c : Cd) (n : Nat), (cD c).okd n = true := fun c n => by cases c <;> simp [cD]
    rw [okd_tup, okds_cons, okds_cons, okds_cons, okds_nil, e1, e1, okd_tup, xs_okd 56 o]; rfl
  rw [cmp_eq, DEEP_def, k, e]; rfl
theorem sort_x {ss : List Sx} (o : OkXs ss) : ∃ ts : List Sx, sortD (ss.map xD) = ts.map xD ∧ OkXs ts := by
  obtain ⟨ts, e, p⟩ := img (f := xD) (P := OkX) (ds := sortD (ss.map xD)) fun d hd => by
    obtain ⟨s, hs, rfl⟩ := List.mem_map.mp (sortD_mem.mp hd)
    exact ⟨s, o s hs, rfl⟩
  exact ⟨ts, e, p⟩
theorem bent_turn (ns : List Int) (k : Nat) (hk : k < 2) (w h : Cd) (ss : List Sx) (o : OkXs ss) (hl : ss.length ≤ 700) : ∃ (w' h' : Cd) (ts : List Sx), OkXs ts ∧ ts.length ≤ ss.length + 1 ∧
    turnB (.one 2) B_law_2_0 [2] (.int k) ⟨[.v (.scr (ns.map D.int)) false, .v (hallX w h ss) false, .u, .u, .u, .u, .u], []⟩ = .ok .nxt ⟨[.v (.scr (ns.map D.int)) false, .v (hallX w' h' ts) false, .u, .u, .u, .u, .u], []⟩ := by
  have k3 : s__law_cell [] [.v (.scr (ns.map D.int)) false, .v (.int 3) false] = .ok (.sh (.int (ns.getD 3 0))) [] := f_cell [] ns 3
  have k4 : s__law_cell [] [.v (.scr (ns.map D.int)) false, .v (.int (4 + (k : Int))) false] = .ok (.sh (.int (ns.getD (4 + k) 0))) [] := f_cell [] ns (4 + k)
  have mo : mulOk 2 (k : Int) = true := mulOk_of 10 10 (by omega) (by omega) (by decide) (by decide) (by decide)
  have dv : divOk (1 + 2 * (k : Int)) = true := divOk_of 10 (by omega) (by omega) (by decide) (by decide)
  have fd := x_due [] w h ss o (by omega)
  have ne := due_ne (dueX w h ss) dueX_v
  generalize ns.getD 3 0 = c3 at *
  generalize ns.getD (4 + k) 0 = c4 at *
  generalize ns.map D.int = nsd at *
  by_cases hc : c3 / (1 + 2 * (k : Int)) % 3 = 1
  · by_cases hd : dueX w h ss = some .non
    · rw [neB_f hd] at ne
      refine ⟨w, h, ss, o, by omega, ?_⟩
      generalize dueT (dueX w h ss) = dd at *
      generalize hallX w h ss = hh at *
      simp [turnB, callF_eq k3, mo, dv, hc, callF_eq fd, ne]
    · rw [neB_t hd] at ne
      obtain ⟨W, H, rfl, rfl, w1, w8, h1, h8⟩ := dueX_sz hd
      obtain ⟨w', h', ts, ot, tl, fb⟩ := x_bent [] W H w1 w8 h1 h8 ss o (by omega) c4
      refine ⟨w', h', ts, ot, tl, ?_⟩
      generalize dueT (dueX (.i W) (.i H) ss) = dd at *
      generalize hallX (.i W) (.i H) ss = hh at *
      generalize hallX w' h' ts = h2 at *
      simp [turnB, callF_eq k3, mo, dv, hc, callF_eq fd, ne, callF_eq k4, callF_eq fb]
  · refine ⟨w, h, ss, o, by omega, ?_⟩
    generalize hallX w h ss = hh at *
    simp [turnB, callF_eq k3, mo, dv, hc]
theorem law_true : ∀ ns : List Int, ns.length ≤ 63 → isTrueR (s_law [] [.v (.scr (ns.map D.int)) false]) := by
  intro ns hl
  have k0 : s__law_cell [] [.v (.scr (ns.map D.int)) false, .v (.int 0) false] = .ok (.sh (.int (ns.getD 0 0))) [] := f_cell [] ns 0
  have k1 : s__law_cell [] [.v (.scr (ns.map D.int)) false, .v (.int 1) false] = .ok (.sh (.int (ns.getD 1 0))) [] := f_cell [] ns 1
  have k2 : s__law_cell [] [.v (.scr (ns.map D.int)) false, .v (.int 2) false] = .ok (.sh (.int (ns.getD 2 0))) [] := f_cell [] ns 2
  have bt := bent_turn ns
  generalize ns.getD 0 0 = c0 at *
  generalize ns.getD 1 0 = c1 at *
  generalize ns.getD 2 0 = c2 at *
  obtain ⟨m, hm, m0, m8⟩ : ∃ m : Int, ixop (.lst [.int 8, .int 3]) (.int (c0 / 64 % 2)) = some (.int m) ∧ 0 < m ∧ m ≤ 8 := by
    have : c0 / 64 % 2 = 0 ∨ c0 / 64 % 2 = 1 := by omega
    rcases this with e | e <;> rw [e]
    · exact ⟨8, rfl, by decide, by decide⟩
    · exact ⟨3, rfl, by decide, by decide⟩
  obtain ⟨W, H, ss, w1, w8, h1, h8, so, sl, fh⟩ := f_hall [] c0 c1 m m0 m8
  obtain ⟨ss', so', sl', fs⟩ := x_shuffled [] ss c2 so sl
  have i2 : ∀ a b c : D, ixop (.tup [a, b, c]) (.int 2) = some c := fun _ _ _ => rfl
  have s2 : ∀ a b c : D, slop (.tup [a, b, c]) none (some 2) = some (.sh (.tup [a, b])) := fun _ _ _ => rfl
  have b3 : ∀ a b c : D, binop .add (.tup [a, b]) (.tup [c]) = some (.sh (.tup [a, b, c])) := fun _ _ _ => rfl
  have ox : OkXs (ss'.map toX) := fun s hs => by
    obtain ⟨u, hu, rfl⟩ := List.mem_map.mp hs
    exact toX_ok (so' u hu)
  have lx : (ss'.map toX).length ≤ 144 := by rw [List.length_map]; omega
  rw [toX_map ss'] at fs
  generalize ss'.map toX = xs at *
  obtain ⟨w1', h1', t1, o1, l1, e1⟩ := bt 0 (by decide) (.i W) (.i H) xs ox (by omega)
  obtain ⟨w, h, t2, o2, l2, e2⟩ := bt 1 (by decide) w1' h1' t1 o1 (by omega)
  have fd := x_due [] w h t2 o2 (by omega)
  have fc := x_checked [] w h t2 o2 (by omega)
  have r2 : (List.range 2).map (fun (k : Nat) => D.int (k : Nat)) = [.int 0, .int 1] := rfl
  have r2' : rgOk 2 = true := by decide
  rw [show ((0 : Nat) : Int) = 0 from rfl] at e1
  rw [show ((1 : Nat) : Int) = 1 from rfl] at e2
  have fo := x_only []
  clear bt
  generalize hdx : dueX w h t2 = dx at *
  have dv := dueX_v (w := w) (h := h) (ss := t2)
  rw [hdx] at dv
  cases dx with
  | none =>
    obtain ⟨ts, es, ots⟩ := sort_x o2
    have hs := hall_same (w := w) (h := h) ots
    have good : ∀ s ∈ t2, ∃ W H : Int, sideB W H s = true := fun s ms => by
      unfold dueX at hdx
      split at hdx
      · rename_i W H
        split at hdx
        · cases q : fbad W H [] t2 0 with
          | none => exact ⟨W, H, fbad_good q s ms⟩
          | some k => rw [q] at hdx; cases hdx
        · cases hdx
      · cases hdx
    have sB : blt .sorted [.tup (t2.map xD)] = some (.fr (.lst (sortD (t2.map xD)))) := blt_sorted_tupt (ss := [.s, .i, .i, .s, .s]) (by simp) (fun x hx => by
      obtain ⟨s, hs, rfl⟩ := List.mem_map.mp hx
      obtain ⟨W, H, g⟩ := good s hs
      exact hs_x (ss := [s]) (W := W) (H := H) (fun u hu => by rw [List.mem_singleton.mp hu]; exact g) _ (List.mem_map_of_mem List.mem_cons_self)) (fun x hx => by
      obtain ⟨s, hs, rfl⟩ := List.mem_map.mp hx
      exact okd_x (o2 s hs) 58)
    rw [es] at sB fc
    unfold hallX dueT at *
    dsimp only at fd fc
    generalize cD w = wd at *
    generalize cD h = hd at *
    generalize cD w1' = wd1 at *
    generalize cD h1' = hd1 at *
    generalize ts.map xD = T at *
    generalize t2.map xD = L2 at *
    generalize t1.map xD = L1 at *
    generalize xs.map xD = L0 at *
    generalize ss.map sD = LS at *
    generalize ns.map D.int = nsd at *
    unfold cD at e1
    dsimp only at e1
    simp [R_law, callF_eq k0, callF_eq k1, callF_eq k2, hm, callF_eq fh, i2, callF_eq fs, s2, b3, r2, r2', loopF_turn, e1, e2, callF_eq fd, callF_eq fc, isNon, sB, hs, isTrueR]
  | some v =>
    have fo := fo v
    have ev : cmpop .eq v v = some true := by
      rcases dv v rfl with rfl | ⟨k, rfl⟩
      · rfl
      · simp
    have iT : ixop (.tup [.int 0, v]) (.int 1) = some v := rfl
    have nT : isNon (.tup [.int 0, v]) = false := rfl
    unfold dueT at fd
    unfold hallX at *
    dsimp only at fd fc
    generalize cD w = wd at *
    generalize cD h = hd at *
    generalize cD w1' = wd1 at *
    generalize cD h1' = hd1 at *
    generalize t2.map xD = L2 at *
    generalize t1.map xD = L1 at *
    generalize xs.map xD = L0 at *
    generalize ss.map sD = LS at *
    generalize ns.map D.int = nsd at *
    unfold cD at e1
    dsimp only at e1
    unfold exnH at fc
    have nX : ∀ a b c, isNon (D.exn a b c) = false := fun _ _ _ => rfl
    simp [R_law, callF_eq k0, callF_eq k1, callF_eq k2, hm, callF_eq fh, i2, callF_eq fs, s2, b3, r2, r2', loopF_turn, e1, e2, callF_eq fd, callF_exc fc, nT, nX, callF_eq fo, iT, ev, xfR, isTrueR]

open PySem L2 MI
structure Fk (K : PySem.W.Frag) (mg : Str → Option Value) : Prop where
  h : ∃ h : Heap, K.In h ∧ h.Ns mainGlobals mg
  c : He.SaysD faL fnL K
  d : csX K csL xaL = true
abbrev TBk (K : PySem.W.Frag) (mg : Str → Option Value) (base : Heap) : Prop := True
section
variable {P : Program} {w : World} {K : PySem.W.Frag} {mg : Str → Option Value} {base : Heap}
theorem Fk.glo (Z : Fk K mg) {x : Str} (h : x ∈ gloL) : mg x = some (.ref (He.ga K x)) := by
  obtain ⟨h1, k1, k2⟩ := Z.h
  exact He.glo_ok k1 k2 (Z.c.facts (f := .glo x) (List.mem_append_left _ (List.mem_map_of_mem h)))
theorem Fk.free (Z : Fk K mg) : ∀ x ∈ bltsL, mg x = none := fun x h => by
  obtain ⟨h1, k1, k2⟩ := Z.h
  exact He.free_ok k1 k2 (Z.c.facts (f := .free x) (List.mem_append_right _ (List.mem_append_left _ (List.mem_map_of_mem h))))
theorem Fk.more (Z : Fk K mg) {f : He.Fa} (i : Nat) (h : moreL[i]? = some f) : f.ok K = true := Z.c.facts (List.mem_append_right _ (List.mem_append_right _ (List.mem_of_getElem? h)))
theorem con_MOST (Z : Fk K mg) (k : Nat) : (gdX P w K mg base (qq P w K k)).con 0 k_MOST := by
  obtain ⟨h1, k1, k2⟩ := Z.h
  exact ⟨"MOST", rfl, conB_ok k1 k2 (List.all_eq_true.mp (MI.ba Z.d).1 _ (List.mem_of_getElem? (i := 0) rfl))⟩
theorem con_FACES (Z : Fk K mg) (k : Nat) : (gdX P w K mg base (qq P w K k)).con 1 k_FACES := by
  obtain ⟨h1, k1, k2⟩ := Z.h
  exact ⟨"FACES", rfl, conB_ok k1 k2 (List.all_eq_true.mp (MI.ba Z.d).1 _ (List.mem_of_getElem? (i := 1) rfl))⟩
theorem Fk.xa (Z : Fk K mg) {f : Xa} (i : Nat) (h : xaL[i]? = some f) : f.ok K = true := List.all_eq_true.mp (MI.ba Z.d).2 _ (List.mem_of_getElem? h)
theorem sc_NoHall_init : FnScope ["self", "side"] ["self", "side"] (defScope ((clsBody (top 2)).getD 0 (.Pass ⟨0, 0, 0, 0⟩))) := ⟨rfl, rfl, rfl, by decide +kernel, rfl, by decide +kernel, by decide +kernel⟩
theorem xa_0 (Z : Fk K mg) {k : Nat} (hk : 3 ≤ k) : RsK P w K mg base (qq P w K k) [78, 111, 72, 97, 108, 108] [[115, 105, 100, 101]] := by
  obtain ⟨h1, k1, k2⟩ := Z.h
  obtain ⟨fd, F⟩ := Z.c.defs (d := d_NoHall_init) (List.mem_of_getElem? (i := 18) rfl)
  have e1 : (sS [78, 111, 72, 97, 108, 108] : Str) = "NoHall" := by decide +kernel
  have e2 : ([[115, 105, 100, 101]] : List (List Nat)).map sS = (["side"] : List Str) := by decide +kernel
  have e3 : (sS [83, 105, 103, 104, 116, 69, 114, 114, 111, 114] : Str) = "SightError" := by decide +kernel
  have B0 : (Xa.b1 [83, 105, 103, 104, 116, 69, 114, 114, 111, 114]).ok K = true := Z.xa 22 rfl
  have B : gloB K [83, 105, 103, 104, 116, 69, 114, 114, 111, 114] = true ∧ base1B K (He.ga K (sS [83, 105, 103, 104, 116, 69, 114, 114, 111, 114])) = true := MI.ba B0
  clear B0
  have m := glo_of k1 k2 B.1
  have bb := base1_of B.2
  rw [e3] at m bb
  have A0 : (Xa.rs [78, 111, 72, 97, 108, 108] [[115, 105, 100, 101]]).ok K = true := Z.xa 0 rfl
  refine rs_ok (j := 2) (ps := ["self", "side"]) k1 k2 A0 (FunD.bindsN F fun _ _ _ _ _ _ us hl => match us, hl with | [_, _], _ => rfl) hk ?_
  rw [e1, e2]
  exact init_ok (q := qq P w K 1) (fl := ["side"]) F sc_NoHall_init (by decide) rfl (by decide) (Nat.le_refl 1) Z.free ⟨rfl, rfl⟩ m bb rfl (by kernel_rfl)
theorem xa_1 (Z : Fk K mg) : TnK K mg [78, 111, 72, 105, 100, 105, 110, 103] := by
  obtain ⟨h1, k1, k2⟩ := Z.h
  exact tn_ok k1 k2 (Z.xa 1 rfl)
theorem xa_2 (Z : Fk K mg) : IxK K [78, 111, 72, 97, 108, 108] [78, 111, 72, 105, 100, 105, 110, 103] false := ix_ok (Z.xa 2 rfl)
theorem xa_3 (Z : Fk K mg) : TnK K mg [78, 111, 80, 101, 114, 115, 111, 110] := by
  obtain ⟨h1, k1, k2⟩ := Z.h
  exact tn_ok k1 k2 (Z.xa 3 rfl)
theorem xa_4 (Z : Fk K mg) : IxK K [78, 111, 72, 97, 108, 108] [78, 111, 80, 101, 114, 115, 111, 110] false := ix_ok (Z.xa 4 rfl)
theorem xa_5 (Z : Fk K mg) : TnK K mg [78, 111, 84, 101, 120, 116] := by
  obtain ⟨h1, k1, k2⟩ := Z.h
  exact tn_ok k1 k2 (Z.xa 5 rfl)
theorem xa_6 (Z : Fk K mg) : IxK K [78, 111, 72, 97, 108, 108] [78, 111, 84, 101, 120, 116] false := ix_ok (Z.xa 6 rfl)
theorem xa_7 (Z : Fk K mg) : TnK K mg [78, 111, 72, 97, 108, 108] := by
  obtain ⟨h1, k1, k2⟩ := Z.h
  exact tn_ok k1 k2 (Z.xa 7 rfl)
theorem xa_8 (Z : Fk K mg) : IxK K [78, 111, 72, 97, 108, 108] [78, 111, 72, 97, 108, 108] true := ix_ok (Z.xa 8 rfl)
theorem xa_9 (Z : Fk K mg) : TnK K mg [78, 111, 78, 97, 109, 101] := by
  obtain ⟨h1, k1, k2⟩ := Z.h
  exact tn_ok k1 k2 (Z.xa 9 rfl)
theorem xa_10 (Z : Fk K mg) : IxK K [78, 111, 72, 97, 108, 108] [78, 111, 78, 97, 109, 101] false := ix_ok (Z.xa 10 rfl)
theorem xa_11 (Z : Fk K mg) : TnK K mg [78, 111, 82, 111, 119] := by
  obtain ⟨h1, k1, k2⟩ := Z.h
  exact tn_ok k1 k2 (Z.xa 11 rfl)
theorem xa_12 (Z : Fk K mg) : IxK K [78, 111, 72, 97, 108, 108] [78, 111, 82, 111, 119] false := ix_ok (Z.xa 12 rfl)
theorem xa_13 (Z : Fk K mg) : TnK K mg [78, 111, 82, 105, 110, 103] := by
  obtain ⟨h1, k1, k2⟩ := Z.h
  exact tn_ok k1 k2 (Z.xa 13 rfl)
theorem xa_14 (Z : Fk K mg) : IxK K [78, 111, 72, 97, 108, 108] [78, 111, 82, 105, 110, 103] false := ix_ok (Z.xa 14 rfl)
theorem xa_15 (Z : Fk K mg) : TnK K mg [83, 105, 103, 104, 116, 69, 114, 114, 111, 114] := by
  obtain ⟨h1, k1, k2⟩ := Z.h
  exact tn_ok k1 k2 (Z.xa 15 rfl)
theorem xa_16 (Z : Fk K mg) : IxK K [78, 111, 72, 97, 108, 108] [83, 105, 103, 104, 116, 69, 114, 114, 111, 114] true := ix_ok (Z.xa 16 rfl)
theorem xa_17 (Z : Fk K mg) : TnK K mg [86, 97, 108, 117, 101, 69, 114, 114, 111, 114] := by
  obtain ⟨h1, k1, k2⟩ := Z.h
  exact tn_ok k1 k2 (Z.xa 17 rfl)
theorem xa_18 (Z : Fk K mg) : IxK K [78, 111, 72, 97, 108, 108] [86, 97, 108, 117, 101, 69, 114, 114, 111, 114] true := ix_ok (Z.xa 18 rfl)
theorem xa_19 (Z : Fk K mg) : mg (sS [83, 105, 103, 104, 116, 69, 114, 114, 111, 114]) = some (.ref (He.ga K (sS [83, 105, 103, 104, 116, 69, 114, 114, 111, 114]))) := by
  obtain ⟨h1, k1, k2⟩ := Z.h
  exact glo_of k1 k2 (Z.xa 19 rfl)
theorem xa_20 (Z : Fk K mg) : PySem.W.exmOne K (.ref (He.ga K (sS [78, 111, 72, 97, 108, 108]))) (.ref (He.ga K (sS [83, 105, 103, 104, 116, 69, 114, 114, 111, 114]))) = some true := em_ok (Z.xa 20 rfl)
theorem xa_21 (Z : Fk K mg) : XfK K [78, 111, 72, 97, 108, 108] [115, 105, 100, 101] := xf_ok (Z.xa 21 rfl)
theorem xl_0y (Z : Fk K mg) : ∀ c ∈ ([] : List (List Nat)), IxK K c [78, 111, 72, 105, 100, 105, 110, 103] true := MI.all_nil
theorem xl_0n (Z : Fk K mg) : ∀ c ∈ ([[78, 111, 72, 97, 108, 108]] : List (List Nat)), IxK K c [78, 111, 72, 105, 100, 105, 110, 103] false := (MI.all_cons (xa_2 Z) MI.all_nil)
theorem xl_1y (Z : Fk K mg) : ∀ c ∈ ([] : List (List Nat)), IxK K c [78, 111, 80, 101, 114, 115, 111, 110] true := MI.all_nil
theorem xl_1n (Z : Fk K mg) : ∀ c ∈ ([[78, 111, 72, 97, 108, 108]] : List (List Nat)), IxK K c [78, 111, 80, 101, 114, 115, 111, 110] false := (MI.all_cons (xa_4 Z) MI.all_nil)
theorem xl_2y (Z : Fk K mg) : ∀ c ∈ ([] : List (List Nat)), IxK K c [78, 111, 84, 101, 120, 116] true := MI.all_nil
theorem xl_2n (Z : Fk K mg) : ∀ c ∈ ([[78, 111, 72, 97, 108, 108]] : List (List Nat)), IxK K c [78, 111, 84, 101, 120, 116] false := (MI.all_cons (xa_6 Z) MI.all_nil)
theorem xl_3y (Z : Fk K mg) : ∀ c ∈ ([[78, 111, 72, 97, 108, 108]] : List (List Nat)), IxK K c [78, 111, 72, 97, 108, 108] true := (MI.all_cons (xa_8 Z) MI.all_nil)
theorem xl_3n (Z : Fk K mg) : ∀ c ∈ ([] : List (List Nat)), IxK K c [78, 111, 72, 97, 108, 108] false := MI.all_nil
theorem xl_4y (Z : Fk K mg) : ∀ c ∈ ([] : List (List Nat)), IxK K c [78, 111, 78, 97, 109, 101] true := MI.all_nil
theorem xl_4n (Z : Fk K mg) : ∀ c ∈ ([[78, 111, 72, 97, 108, 108]] : List (List Nat)), IxK K c [78, 111, 78, 97, 109, 101] false := (MI.all_cons (xa_10 Z) MI.all_nil)
theorem xl_5y (Z : Fk K mg) : ∀ c ∈ ([] : List (List Nat)), IxK K c [78, 111, 82, 111, 119] true := MI.all_nil
theorem xl_5n (Z : Fk K mg) : ∀ c ∈ ([[78, 111, 72, 97, 108, 108]] : List (List Nat)), IxK K c [78, 111, 82, 111, 119] false := (MI.all_cons (xa_12 Z) MI.all_nil)
theorem xl_6y (Z : Fk K mg) : ∀ c ∈ ([] : List (List Nat)), IxK K c [78, 111, 82, 105, 110, 103] true := MI.all_nil
theorem xl_6n (Z : Fk K mg) : ∀ c ∈ ([[78, 111, 72, 97, 108, 108]] : List (List Nat)), IxK K c [78, 111, 82, 105, 110, 103] false := (MI.all_cons (xa_14 Z) MI.all_nil)
theorem xl_7y (Z : Fk K mg) : ∀ c ∈ ([[78, 111, 72, 97, 108, 108]] : List (List Nat)), IxK K c [83, 105, 103, 104, 116, 69, 114, 114, 111, 114] true := (MI.all_cons (xa_16 Z) MI.all_nil)
theorem xl_7n (Z : Fk K mg) : ∀ c ∈ ([] : List (List Nat)), IxK K c [83, 105, 103, 104, 116, 69, 114, 114, 111, 114] false := MI.all_nil
theorem xl_8y (Z : Fk K mg) : ∀ c ∈ ([[78, 111, 72, 97, 108, 108]] : List (List Nat)), IxK K c [86, 97, 108, 117, 101, 69, 114, 114, 111, 114] true := (MI.all_cons (xa_18 Z) MI.all_nil)
theorem xl_8n (Z : Fk K mg) : ∀ c ∈ ([] : List (List Nat)), IxK K c [86, 97, 108, 117, 101, 69, 114, 114, 111, 114] false := MI.all_nil
theorem xl_9 (Z : Fk K mg) (k : Nat) : ∀ h ∈ ([⟨[83, 105, 103, 104, 116, 69, 114, 114, 111, 114], [[78, 111, 72, 97, 108, 108]], [], (some 6), (.set 5 (.var 6))⟩] : List Hd), (gdX P w K mg base (qq P w K k)).hnm h.t ∧ (∀ c ∈ h.yes, (gdX P w K mg base (qq P w K k)).exm c h.t true) ∧ (∀ c ∈ h.no, (gdX P w K mg base (qq P w K k)).exm c h.t false) ∧ GoodHS (gdX P w K mg base (qq P w K k)) h.st := (MI.all_cons ⟨(xa_19 Z), (MI.all_cons (xa_20 Z) MI.all_nil), MI.all_nil, (by (repeat' apply And.intro) <;> (first | exact trivial))⟩ MI.all_nil)
theorem xl_10 (Z : Fk K mg) : ∀ c ∈ ([[78, 111, 72, 97, 108, 108]] : List (List Nat)), XfK K c [115, 105, 100, 101] := (MI.all_cons (xa_21 Z) MI.all_nil)
theorem ch__law_edges (P : Program) (w : World) (K : PySem.W.Frag) : chkB (qq P w K 3) N__law_edges (defScope (top 23)) c__law_edges (defBody (top 23)) = true := by kernel_rfl
theorem sc__law_edges : FnScope N__law_edges ["_law_width", "_law_height"] (defScope (top 23)) := ⟨rfl, rfl, rfl, by decide +kernel, rfl, by decide +kernel, by decide +kernel⟩
theorem ok__law_edges (Z : Fk K mg) : ∃ fd : FuncData, (∀ (s : Shared) (us : List Value), us.length = 2 → BindsTo s fd ⟨us, []⟩ (List.zip ["_law_width", "_law_height"] us)) ∧ Binds K fd ["_law_width", "_law_height"] [] ∧ PySem.W.keepIn K (.ref (He.fAd K d__law_edges.at_)) = true ∧ ∀ (P : Program) (w : World) (base : Heap), TBk K mg base → FnOk P w K mg base (L2.CX P w) 4 (He.fAd K d__law_edges.at_) fd ["_law_width", "_law_height"] (spF K (qq P w K 0) s__law_edges) := by
  obtain ⟨fd, F⟩ := Z.c.defs (d := d__law_edges) (List.mem_of_getElem? (i := 0) rfl)
  refine ⟨fd, FunD.bindsA (ps := ["_law_width", "_law_height"]) F (fun _ _ _ _ _ _ us hl => match us, hl with | [_, _], _ => rfl), FunD.bindsN F fun _ _ _ _ _ _ us hl => match us, hl with | [_, _], _ => rfl, F.kp, fun P w base TB => def_ok (q := qq P w K 3) F sc__law_edges (by decide) (Nat.le_add_left 1 _) Z.free ⟨rfl, rfl⟩ (fun p e => nomatch e) ?_ (ch__law_edges P w K)⟩
  unfold c__law_edges
  repeat' apply And.intro
  all_goals first | exact trivial
theorem gd__law_edges (Z : Fk K mg) (TB : TBk K mg base) {k : Nat} {cd : Option (Addr × Addr)} (hk : 4 ≤ k) : (gdX P w K mg base (qq P w K k cd)).fn 15 s__law_edges := by
  obtain ⟨fd, _, b, kp, ok⟩ := ok__law_edges Z
  exact ⟨"_law_edges", rfl, _, fd, _, _, Z.glo (x := "_law_edges") (List.mem_of_getElem? (i := 0) rfl), kp, b, hk, ok P w base TB⟩
theorem ch__law_digits (P : Program) (w : World) (K : PySem.W.Frag) : chkB (qq P w K 5) N__law_digits (defScope (top 21)) c__law_digits (defBody (top 21)) = true := by kernel_rfl
theorem sc__law_digits : FnScope N__law_digits ["_law_cell_here", "_law_many", "_law_base"] (defScope (top 21)) := ⟨rfl, rfl, rfl, by decide +kernel, rfl, by decide +kernel, by decide +kernel⟩
theorem ok__law_digits (Z : Fk K mg) : ∃ fd : FuncData, (∀ (s : Shared) (us : List Value), us.length = 3 → BindsTo s fd ⟨us, []⟩ (List.zip ["_law_cell_here", "_law_many", "_law_base"] us)) ∧ Binds K fd ["_law_cell_here", "_law_many", "_law_base"] [] ∧ PySem.W.keepIn K (.ref (He.fAd K d__law_digits.at_)) = true ∧ ∀ (P : Program) (w : World) (base : Heap), TBk K mg base → FnOk P w K mg base (L2.CX P w) 6 (He.fAd K d__law_digits.at_) fd ["_law_cell_here", "_law_many", "_law_base"] (spF K (qq P w K 0) s__law_digits) := by
  obtain ⟨fd, F⟩ := Z.c.defs (d := d__law_digits) (List.mem_of_getElem? (i := 1) rfl)
  refine ⟨fd, FunD.bindsA (ps := ["_law_cell_here", "_law_many", "_law_base"]) F (fun _ _ _ _ _ _ us hl => match us, hl with | [_, _, _], _ => rfl), FunD.bindsN F fun _ _ _ _ _ _ us hl => match us, hl with | [_, _, _], _ => rfl, F.kp, fun P w base TB => def_ok (q := qq P w K 5) F sc__law_digits (by decide) (Nat.le_add_left 1 _) Z.free ⟨rfl, rfl⟩ (fun p e => nomatch e) ?_ (ch__law_digits P w K)⟩
  unfold c__law_digits
  repeat' apply And.intro
  all_goals first | exact trivial
theorem gd__law_digits (Z : Fk K mg) (TB : TBk K mg base) {k : Nat} {cd : Option (Addr × Addr)} (hk : 6 ≤ k) : (gdX P w K mg base (qq P w K k cd)).fn 13 s__law_digits := by
  obtain ⟨fd, _, b, kp, ok⟩ := ok__law_digits Z
  exact ⟨"_law_digits", rfl, _, fd, _, _, Z.glo (x := "_law_digits") (List.mem_of_getElem? (i := 1) rfl), kp, b, hk, ok P w base TB⟩
theorem ch__law_side (P : Program) (w : World) (K : PySem.W.Frag) : chkB (qq P w K 7) N__law_side (defScope (top 24)) c__law_side (defBody (top 24)) = true := by kernel_rfl
theorem sc__law_side : FnScope N__law_side ["_law_width", "_law_height", "_law_edge", "_law_digit"] (defScope (top 24)) := ⟨rfl, rfl, rfl, by decide +kernel, rfl, by decide +kernel, by decide +kernel⟩
theorem ok__law_side (Z : Fk K mg) : ∃ fd : FuncData, (∀ (s : Shared) (us : List Value), us.length = 4 → BindsTo s fd ⟨us, []⟩ (List.zip ["_law_width", "_law_height", "_law_edge", "_law_digit"] us)) ∧ Binds K fd ["_law_width", "_law_height", "_law_edge", "_law_digit"] [] ∧ PySem.W.keepIn K (.ref (He.fAd K d__law_side.at_)) = true ∧ ∀ (P : Program) (w : World) (base : Heap), TBk K mg base → FnOk P w K mg base (L2.CX P w) 8 (He.fAd K d__law_side.at_) fd ["_law_width", "_law_height", "_law_edge", "_law_digit"] (spF K (qq P w K 0) s__law_side) := by
  obtain ⟨fd, F⟩ := Z.c.defs (d := d__law_side) (List.mem_of_getElem? (i := 2) rfl)
  refine ⟨fd, FunD.bindsA (ps := ["_law_width", "_law_height", "_law_edge", "_law_digit"]) F (fun _ _ _ _ _ _ us hl => match us, hl with | [_, _, _, _], _ => rfl), FunD.bindsN F fun _ _ _ _ _ _ us hl => match us, hl with | [_, _, _, _], _ => rfl, F.kp, fun P w base TB => def_ok (q := qq P w K 7) F sc__law_side (by decide) (Nat.le_add_left 1 _) Z.free ⟨rfl, rfl⟩ (fun p e => nomatch e) ?_ (ch__law_side P w K)⟩
  unfold c__law_side
  repeat' apply And.intro
  all_goals first | exact trivial
theorem gd__law_side (Z : Fk K mg) (TB : TBk K mg base) {k : Nat} {cd : Option (Addr × Addr)} (hk : 8 ≤ k) : (gdX P w K mg base (qq P w K k cd)).fn 16 s__law_side := by
  obtain ⟨fd, _, b, kp, ok⟩ := ok__law_side Z
  exact ⟨"_law_side", rfl, _, fd, _, _, Z.glo (x := "_law_side") (List.mem_of_getElem? (i := 2) rfl), kp, b, hk, ok P w base TB⟩
theorem ch__law_hall (P : Program) (w : World) (K : PySem.W.Frag) : chkB (qq P w K 9) N__law_hall (defScope (top 25)) c__law_hall (defBody (top 25)) = true := by kernel_rfl
theorem sc__law_hall : FnScope N__law_hall ["_law_size", "_law_cell_here", "_law_most"] (defScope (top 25)) := ⟨rfl, rfl, rfl, by decide +kernel, rfl, by decide +kernel, by decide +kernel⟩
theorem ok__law_hall (Z : Fk K mg) : ∃ fd : FuncData, (∀ (s : Shared) (us : List Value), us.length = 3 → BindsTo s fd ⟨us, []⟩ (List.zip ["_law_size", "_law_cell_here", "_law_most"] us)) ∧ Binds K fd ["_law_size", "_law_cell_here", "_law_most"] [] ∧ PySem.W.keepIn K (.ref (He.fAd K d__law_hall.at_)) = true ∧ ∀ (P : Program) (w : World) (base : Heap), TBk K mg base → FnOk P w K mg base (L2.CX P w) 10 (He.fAd K d__law_hall.at_) fd ["_law_size", "_law_cell_here", "_law_most"] (spF K (qq P w K 0) s__law_hall) := by
  obtain ⟨fd, F⟩ := Z.c.defs (d := d__law_hall) (List.mem_of_getElem? (i := 3) rfl)
  refine ⟨fd, FunD.bindsA (ps := ["_law_size", "_law_cell_here", "_law_most"]) F (fun _ _ _ _ _ _ us hl => match us, hl with | [_, _, _], _ => rfl), FunD.bindsN F fun _ _ _ _ _ _ us hl => match us, hl with | [_, _, _], _ => rfl, F.kp, fun P w base TB => def_ok (q := qq P w K 9) F sc__law_hall (by decide) (Nat.le_add_left 1 _) Z.free ⟨rfl, rfl⟩ (fun p e => nomatch e) ?_ (ch__law_hall P w K)⟩
  unfold c__law_hall
  repeat' apply And.intro
  all_goals first | exact trivial | exact gd__law_edges Z TB (by decide) | exact gd__law_digits Z TB (by decide) | exact gd__law_side Z TB (by decide)
theorem gd__law_hall (Z : Fk K mg) (TB : TBk K mg base) {k : Nat} {cd : Option (Addr × Addr)} (hk : 10 ≤ k) : (gdX P w K mg base (qq P w K k cd)).fn 17 s__law_hall := by
  obtain ⟨fd, _, b, kp, ok⟩ := ok__law_hall Z
  exact ⟨"_law_hall", rfl, _, fd, _, _, Z.glo (x := "_law_hall") (List.mem_of_getElem? (i := 3) rfl), kp, b, hk, ok P w base TB⟩
theorem ch__law_cell (P : Program) (w : World) (K : PySem.W.Frag) : chkB (qq P w K 11) N__law_cell (defScope (top 19)) c__law_cell (defBody (top 19)) = true := by kernel_rfl
theorem sc__law_cell : FnScope N__law_cell ["_law_script", "_law_k"] (defScope (top 19)) := ⟨rfl, rfl, rfl, by decide +kernel, rfl, by decide +kernel, by decide +kernel⟩
theorem ok__law_cell (Z : Fk K mg) : ∃ fd : FuncData, (∀ (s : Shared) (us : List Value), us.length = 2 → BindsTo s fd ⟨us, []⟩ (List.zip ["_law_script", "_law_k"] us)) ∧ Binds K fd ["_law_script", "_law_k"] [] ∧ PySem.W.keepIn K (.ref (He.fAd K d__law_cell.at_)) = true ∧ ∀ (P : Program) (w : World) (base : Heap), TBk K mg base → FnOk P w K mg base (L2.CX P w) 12 (He.fAd K d__law_cell.at_) fd ["_law_script", "_law_k"] (spF K (qq P w K 0) s__law_cell) := by
  obtain ⟨fd, F⟩ := Z.c.defs (d := d__law_cell) (List.mem_of_getElem? (i := 4) rfl)
  refine ⟨fd, FunD.bindsA (ps := ["_law_script", "_law_k"]) F (fun _ _ _ _ _ _ us hl => match us, hl with | [_, _], _ => rfl), FunD.bindsN F fun _ _ _ _ _ _ us hl => match us, hl with | [_, _], _ => rfl, F.kp, fun P w base TB => def_ok (q := qq P w K 11) F sc__law_cell (by decide) (Nat.le_add_left 1 _) Z.free ⟨rfl, rfl⟩ (fun p e => nomatch e) ?_ (ch__law_cell P w K)⟩
  unfold c__law_cell
  repeat' apply And.intro
  all_goals first | exact trivial
theorem gd__law_cell (Z : Fk K mg) (TB : TBk K mg base) {k : Nat} {cd : Option (Addr × Addr)} (hk : 12 ≤ k) : (gdX P w K mg base (qq P w K k cd)).fn 11 s__law_cell := by
  obtain ⟨fd, _, b, kp, ok⟩ := ok__law_cell Z
  exact ⟨"_law_cell", rfl, _, fd, _, _, Z.glo (x := "_law_cell") (List.mem_of_getElem? (i := 4) rfl), kp, b, hk, ok P w base TB⟩
theorem ch__law_numbers (P : Program) (w : World) (K : PySem.W.Frag) : chkB (qq P w K 13) N__law_numbers (defScope (top 20)) c__law_numbers (defBody (top 20)) = true := by kernel_rfl
theorem sc__law_numbers : FnScope N__law_numbers ["_law_cell_here", "_law_many"] (defScope (top 20)) := ⟨rfl, rfl, rfl, by decide +kernel, rfl, by decide +kernel, by decide +kernel⟩
theorem ok__law_numbers (Z : Fk K mg) : ∃ fd : FuncData, (∀ (s : Shared) (us : List Value), us.length = 2 → BindsTo s fd ⟨us, []⟩ (List.zip ["_law_cell_here", "_law_many"] us)) ∧ Binds K fd ["_law_cell_here", "_law_many"] [] ∧ PySem.W.keepIn K (.ref (He.fAd K d__law_numbers.at_)) = true ∧ ∀ (P : Program) (w : World) (base : Heap), TBk K mg base → FnOk P w K mg base (L2.CX P w) 14 (He.fAd K d__law_numbers.at_) fd ["_law_cell_here", "_law_many"] (spF K (qq P w K 0) s__law_numbers) := by
  obtain ⟨fd, F⟩ := Z.c.defs (d := d__law_numbers) (List.mem_of_getElem? (i := 5) rfl)
  refine ⟨fd, FunD.bindsA (ps := ["_law_cell_here", "_law_many"]) F (fun _ _ _ _ _ _ us hl => match us, hl with | [_, _], _ => rfl), FunD.bindsN F fun _ _ _ _ _ _ us hl => match us, hl with | [_, _], _ => rfl, F.kp, fun P w base TB => def_ok (q := qq P w K 13) F sc__law_numbers (by decide) (Nat.le_add_left 1 _) Z.free ⟨rfl, rfl⟩ (fun p e => nomatch e) ?_ (ch__law_numbers P w K)⟩
  unfold c__law_numbers
  repeat' apply And.intro
  all_goals first | exact trivial
theorem gd__law_numbers (Z : Fk K mg) (TB : TBk K mg base) {k : Nat} {cd : Option (Addr × Addr)} (hk : 14 ≤ k) : (gdX P w K mg base (qq P w K k cd)).fn 12 s__law_numbers := by
  obtain ⟨fd, _, b, kp, ok⟩ := ok__law_numbers Z
  exact ⟨"_law_numbers", rfl, _, fd, _, _, Z.glo (x := "_law_numbers") (List.mem_of_getElem? (i := 5) rfl), kp, b, hk, ok P w base TB⟩
theorem ch__law_shuffled (P : Program) (w : World) (K : PySem.W.Frag) : chkB (qq P w K 15) N__law_shuffled (defScope (top 26)) c__law_shuffled (defBody (top 26)) = true := by kernel_rfl
theorem sc__law_shuffled : FnScope N__law_shuffled ["_law_sides", "_law_cell_here"] (defScope (top 26)) := ⟨rfl, rfl, rfl, by decide +kernel, rfl, by decide +kernel, by decide +kernel⟩
theorem ok__law_shuffled (Z : Fk K mg) : ∃ fd : FuncData, (∀ (s : Shared) (us : List Value), us.length = 2 → BindsTo s fd ⟨us, []⟩ (List.zip ["_law_sides", "_law_cell_here"] us)) ∧ Binds K fd ["_law_sides", "_law_cell_here"] [] ∧ PySem.W.keepIn K (.ref (He.fAd K d__law_shuffled.at_)) = true ∧ ∀ (P : Program) (w : World) (base : Heap), TBk K mg base → FnOk P w K mg base (L2.CX P w) 16 (He.fAd K d__law_shuffled.at_) fd ["_law_sides", "_law_cell_here"] (spF K (qq P w K 0) s__law_shuffled) := by
  obtain ⟨fd, F⟩ := Z.c.defs (d := d__law_shuffled) (List.mem_of_getElem? (i := 6) rfl)
  refine ⟨fd, FunD.bindsA (ps := ["_law_sides", "_law_cell_here"]) F (fun _ _ _ _ _ _ us hl => match us, hl with | [_, _], _ => rfl), FunD.bindsN F fun _ _ _ _ _ _ us hl => match us, hl with | [_, _], _ => rfl, F.kp, fun P w base TB => def_ok (q := qq P w K 15) F sc__law_shuffled (by decide) (Nat.le_add_left 1 _) Z.free ⟨rfl, rfl⟩ (fun p e => nomatch e) ?_ (ch__law_shuffled P w K)⟩
  unfold c__law_shuffled
  repeat' apply And.intro
  all_goals first | exact trivial | exact gd__law_numbers Z TB (by decide)
theorem gd__law_shuffled (Z : Fk K mg) (TB : TBk K mg base) {k : Nat} {cd : Option (Addr × Addr)} (hk : 16 ≤ k) : (gdX P w K mg base (qq P w K k cd)).fn 18 s__law_shuffled := by
  obtain ⟨fd, _, b, kp, ok⟩ := ok__law_shuffled Z
  exact ⟨"_law_shuffled", rfl, _, fd, _, _, Z.glo (x := "_law_shuffled") (List.mem_of_getElem? (i := 6) rfl), kp, b, hk, ok P w base TB⟩
theorem ch__law_first_bad (P : Program) (w : World) (K : PySem.W.Frag) : chkB (qq P w K 17) N__law_first_bad (defScope (top 28)) c__law_first_bad (defBody (top 28)) = true := by kernel_rfl
theorem sc__law_first_bad : FnScope N__law_first_bad ["_law_width", "_law_height", "_law_sides"] (defScope (top 28)) := ⟨rfl, rfl, rfl, by decide +kernel, rfl, by decide +kernel, by decide +kernel⟩
theorem ok__law_first_bad (Z : Fk K mg) : ∃ fd : FuncData, (∀ (s : Shared) (us : List Value), us.length = 3 → BindsTo s fd ⟨us, []⟩ (List.zip ["_law_width", "_law_height", "_law_sides"] us)) ∧ Binds K fd ["_law_width", "_law_height", "_law_sides"] [] ∧ PySem.W.keepIn K (.ref (He.fAd K d__law_first_bad.at_)) = true ∧ ∀ (P : Program) (w : World) (base : Heap), TBk K mg base → FnOk P w K mg base (L2.CX P w) 18 (He.fAd K d__law_first_bad.at_) fd ["_law_width", "_law_height", "_law_sides"] (spF K (qq P w K 0) s__law_first_bad) := by
  obtain ⟨fd, F⟩ := Z.c.defs (d := d__law_first_bad) (List.mem_of_getElem? (i := 7) rfl)
  refine ⟨fd, FunD.bindsA (ps := ["_law_width", "_law_height", "_law_sides"]) F (fun _ _ _ _ _ _ us hl => match us, hl with | [_, _, _], _ => rfl), FunD.bindsN F fun _ _ _ _ _ _ us hl => match us, hl with | [_, _, _], _ => rfl, F.kp, fun P w base TB => def_ok (q := qq P w K 17) F sc__law_first_bad (by decide) (Nat.le_add_left 1 _) Z.free ⟨rfl, rfl⟩ (fun p e => nomatch e) ?_ (ch__law_first_bad P w K)⟩
  unfold c__law_first_bad
  repeat' apply And.intro
  all_goals first | exact trivial | exact gd__law_edges Z TB (by decide)
theorem gd__law_first_bad (Z : Fk K mg) (TB : TBk K mg base) {k : Nat} {cd : Option (Addr × Addr)} (hk : 18 ≤ k) : (gdX P w K mg base (qq P w K k cd)).fn 20 s__law_first_bad := by
  obtain ⟨fd, _, b, kp, ok⟩ := ok__law_first_bad Z
  exact ⟨"_law_first_bad", rfl, _, fd, _, _, Z.glo (x := "_law_first_bad") (List.mem_of_getElem? (i := 7) rfl), kp, b, hk, ok P w base TB⟩
theorem ch__law_due (P : Program) (w : World) (K : PySem.W.Frag) : chkB (qq P w K 19) N__law_due (defScope (top 29)) c__law_due (defBody (top 29)) = true := by kernel_rfl
theorem sc__law_due : FnScope N__law_due ["_law_hall_here"] (defScope (top 29)) := ⟨rfl, rfl, rfl, by decide +kernel, rfl, by decide +kernel, by decide +kernel⟩
theorem ok__law_due (Z : Fk K mg) : ∃ fd : FuncData, (∀ (s : Shared) (us : List Value), us.length = 1 → BindsTo s fd ⟨us, []⟩ (List.zip ["_law_hall_here"] us)) ∧ Binds K fd ["_law_hall_here"] [] ∧ PySem.W.keepIn K (.ref (He.fAd K d__law_due.at_)) = true ∧ ∀ (P : Program) (w : World) (base : Heap), TBk K mg base → FnOk P w K mg base (L2.CX P w) 20 (He.fAd K d__law_due.at_) fd ["_law_hall_here"] (spF K (qq P w K 0) s__law_due) := by
  obtain ⟨fd, F⟩ := Z.c.defs (d := d__law_due) (List.mem_of_getElem? (i := 8) rfl)
  refine ⟨fd, FunD.bindsA (ps := ["_law_hall_here"]) F (fun _ _ _ _ _ _ us hl => match us, hl with | [_], _ => rfl), FunD.bindsN F fun _ _ _ _ _ _ us hl => match us, hl with | [_], _ => rfl, F.kp, fun P w base TB => def_ok (q := qq P w K 19) F sc__law_due (by decide) (Nat.le_add_left 1 _) Z.free ⟨rfl, rfl⟩ (fun p e => nomatch e) ?_ (ch__law_due P w K)⟩
  unfold c__law_due
  repeat' apply And.intro
  all_goals first | exact trivial | exact gd__law_first_bad Z TB (by decide)
theorem gd__law_due (Z : Fk K mg) (TB : TBk K mg base) {k : Nat} {cd : Option (Addr × Addr)} (hk : 20 ≤ k) : (gdX P w K mg base (qq P w K k cd)).fn 21 s__law_due := by
  obtain ⟨fd, _, b, kp, ok⟩ := ok__law_due Z
  exact ⟨"_law_due", rfl, _, fd, _, _, Z.glo (x := "_law_due") (List.mem_of_getElem? (i := 8) rfl), kp, b, hk, ok P w base TB⟩
theorem ch__law_bent (P : Program) (w : World) (K : PySem.W.Frag) : chkB (qq P w K 21) N__law_bent (defScope (top 27)) c__law_bent (defBody (top 27)) = true := by kernel_rfl
theorem sc__law_bent : FnScope N__law_bent ["_law_hall_here", "_law_cell_here"] (defScope (top 27)) := ⟨rfl, rfl, rfl, by decide +kernel, rfl, by decide +kernel, by decide +kernel⟩
theorem ok__law_bent (Z : Fk K mg) : ∃ fd : FuncData, (∀ (s : Shared) (us : List Value), us.length = 2 → BindsTo s fd ⟨us, []⟩ (List.zip ["_law_hall_here", "_law_cell_here"] us)) ∧ Binds K fd ["_law_hall_here", "_law_cell_here"] [] ∧ PySem.W.keepIn K (.ref (He.fAd K d__law_bent.at_)) = true ∧ ∀ (P : Program) (w : World) (base : Heap), TBk K mg base → FnOk P w K mg base (L2.CX P w) 22 (He.fAd K d__law_bent.at_) fd ["_law_hall_here", "_law_cell_here"] (spF K (qq P w K 0) s__law_bent) := by
  obtain ⟨fd, F⟩ := Z.c.defs (d := d__law_bent) (List.mem_of_getElem? (i := 9) rfl)
  refine ⟨fd, FunD.bindsA (ps := ["_law_hall_here", "_law_cell_here"]) F (fun _ _ _ _ _ _ us hl => match us, hl with | [_, _], _ => rfl), FunD.bindsN F fun _ _ _ _ _ _ us hl => match us, hl with | [_, _], _ => rfl, F.kp, fun P w base TB => def_ok (q := qq P w K 21) F sc__law_bent (by decide) (Nat.le_add_left 1 _) Z.free ⟨rfl, rfl⟩ (fun p e => nomatch e) ?_ (ch__law_bent P w K)⟩
  unfold c__law_bent
  repeat' apply And.intro
  all_goals first | exact trivial | exact gd__law_edges Z TB (by decide)
theorem gd__law_bent (Z : Fk K mg) (TB : TBk K mg base) {k : Nat} {cd : Option (Addr × Addr)} (hk : 22 ≤ k) : (gdX P w K mg base (qq P w K k cd)).fn 19 s__law_bent := by
  obtain ⟨fd, _, b, kp, ok⟩ := ok__law_bent Z
  exact ⟨"_law_bent", rfl, _, fd, _, _, Z.glo (x := "_law_bent") (List.mem_of_getElem? (i := 9) rfl), kp, b, hk, ok P w base TB⟩
theorem ch_is_whole (P : Program) (w : World) (K : PySem.W.Frag) : chkB (qq P w K 23) N_is_whole (defScope (top 12)) c_is_whole (defBody (top 12)) = true := by kernel_rfl
theorem sc_is_whole : FnScope N_is_whole ["thing"] (defScope (top 12)) := ⟨rfl, rfl, rfl, by decide +kernel, rfl, by decide +kernel, by decide +kernel⟩
theorem ok_is_whole (Z : Fk K mg) : ∃ fd : FuncData, (∀ (s : Shared) (us : List Value), us.length = 1 → BindsTo s fd ⟨us, []⟩ (List.zip ["thing"] us)) ∧ Binds K fd ["thing"] [] ∧ PySem.W.keepIn K (.ref (He.fAd K d_is_whole.at_)) = true ∧ ∀ (P : Program) (w : World) (base : Heap), TBk K mg base → FnOk P w K mg base (L2.CX P w) 24 (He.fAd K d_is_whole.at_) fd ["thing"] (spF K (qq P w K 0) s_is_whole) := by
  obtain ⟨fd, F⟩ := Z.c.defs (d := d_is_whole) (List.mem_of_getElem? (i := 10) rfl)
  refine ⟨fd, FunD.bindsA (ps := ["thing"]) F (fun _ _ _ _ _ _ us hl => match us, hl with | [_], _ => rfl), FunD.bindsN F fun _ _ _ _ _ _ us hl => match us, hl with | [_], _ => rfl, F.kp, fun P w base TB => def_ok (q := qq P w K 23) F sc_is_whole (by decide) (Nat.le_add_left 1 _) Z.free ⟨rfl, rfl⟩ (fun p e => nomatch e) ?_ (ch_is_whole P w K)⟩
  unfold c_is_whole
  repeat' apply And.intro
  all_goals first | exact trivial
theorem gd_is_whole (Z : Fk K mg) (TB : TBk K mg base) {k : Nat} {cd : Option (Addr × Addr)} (hk : 24 ≤ k) : (gdX P w K mg base (qq P w K k cd)).fn 5 s_is_whole := by
  obtain ⟨fd, _, b, kp, ok⟩ := ok_is_whole Z
  exact ⟨"is_whole", rfl, _, fd, _, _, Z.glo (x := "is_whole") (List.mem_of_getElem? (i := 10) rfl), kp, b, hk, ok P w base TB⟩
theorem ch_is_size (P : Program) (w : World) (K : PySem.W.Frag) : chkB (qq P w K 25) N_is_size (defScope (top 13)) c_is_size (defBody (top 13)) = true := by kernel_rfl
theorem sc_is_size : FnScope N_is_size ["thing"] (defScope (top 13)) := ⟨rfl, rfl, rfl, by decide +kernel, rfl, by decide +kernel, by decide +kernel⟩
theorem ok_is_size (Z : Fk K mg) : ∃ fd : FuncData, (∀ (s : Shared) (us : List Value), us.length = 1 → BindsTo s fd ⟨us, []⟩ (List.zip ["thing"] us)) ∧ Binds K fd ["thing"] [] ∧ PySem.W.keepIn K (.ref (He.fAd K d_is_size.at_)) = true ∧ ∀ (P : Program) (w : World) (base : Heap), TBk K mg base → FnOk P w K mg base (L2.CX P w) 26 (He.fAd K d_is_size.at_) fd ["thing"] (spF K (qq P w K 0) s_is_size) := by
  obtain ⟨fd, F⟩ := Z.c.defs (d := d_is_size) (List.mem_of_getElem? (i := 11) rfl)
  refine ⟨fd, FunD.bindsA (ps := ["thing"]) F (fun _ _ _ _ _ _ us hl => match us, hl with | [_], _ => rfl), FunD.bindsN F fun _ _ _ _ _ _ us hl => match us, hl with | [_], _ => rfl, F.kp, fun P w base TB => def_ok (q := qq P w K 25) F sc_is_size (by decide) (Nat.le_add_left 1 _) Z.free ⟨rfl, rfl⟩ (fun p e => nomatch e) ?_ (ch_is_size P w K)⟩
  unfold c_is_size
  repeat' apply And.intro
  all_goals first | exact trivial | exact gd_is_whole Z TB (by decide) | exact con_MOST Z _
theorem gd_is_size (Z : Fk K mg) (TB : TBk K mg base) {k : Nat} {cd : Option (Addr × Addr)} (hk : 26 ≤ k) : (gdX P w K mg base (qq P w K k cd)).fn 6 s_is_size := by
  obtain ⟨fd, _, b, kp, ok⟩ := ok_is_size Z
  exact ⟨"is_size", rfl, _, fd, _, _, Z.glo (x := "is_size") (List.mem_of_getElem? (i := 11) rfl), kp, b, hk, ok P w base TB⟩
theorem ch_is_edge (P : Program) (w : World) (K : PySem.W.Frag) : chkB (qq P w K 27) N_is_edge (defScope (top 14)) c_is_edge (defBody (top 14)) = true := by kernel_rfl
theorem sc_is_edge : FnScope N_is_edge ["width", "height", "kind", "x", "y"] (defScope (top 14)) := ⟨rfl, rfl, rfl, by decide +kernel, rfl, by decide +kernel, by decide +kernel⟩
theorem ok_is_edge (Z : Fk K mg) : ∃ fd : FuncData, (∀ (s : Shared) (us : List Value), us.length = 5 → BindsTo s fd ⟨us, []⟩ (List.zip ["width", "height", "kind", "x", "y"] us)) ∧ Binds K fd ["width", "height", "kind", "x", "y"] [] ∧ PySem.W.keepIn K (.ref (He.fAd K d_is_edge.at_)) = true ∧ ∀ (P : Program) (w : World) (base : Heap), TBk K mg base → FnOk P w K mg base (L2.CX P w) 28 (He.fAd K d_is_edge.at_) fd ["width", "height", "kind", "x", "y"] (spF K (qq P w K 0) s_is_edge) := by
  obtain ⟨fd, F⟩ := Z.c.defs (d := d_is_edge) (List.mem_of_getElem? (i := 12) rfl)
  refine ⟨fd, FunD.bindsA (ps := ["width", "height", "kind", "x", "y"]) F (fun _ _ _ _ _ _ us hl => match us, hl with | [_, _, _, _, _], _ => rfl), FunD.bindsN F fun _ _ _ _ _ _ us hl => match us, hl with | [_, _, _, _, _], _ => rfl, F.kp, fun P w base TB => def_ok (q := qq P w K 27) F sc_is_edge (by decide) (Nat.le_add_left 1 _) Z.free ⟨rfl, rfl⟩ (fun p e => nomatch e) ?_ (ch_is_edge P w K)⟩
  unfold c_is_edge
  repeat' apply And.intro
  all_goals first | exact trivial | exact gd_is_whole Z TB (by decide)
theorem gd_is_edge (Z : Fk K mg) (TB : TBk K mg base) {k : Nat} {cd : Option (Addr × Addr)} (hk : 28 ≤ k) : (gdX P w K mg base (qq P w K k cd)).fn 7 s_is_edge := by
  obtain ⟨fd, _, b, kp, ok⟩ := ok_is_edge Z
  exact ⟨"is_edge", rfl, _, fd, _, _, Z.glo (x := "is_edge") (List.mem_of_getElem? (i := 12) rfl), kp, b, hk, ok P w base TB⟩
theorem ch_looks_in (P : Program) (w : World) (K : PySem.W.Frag) : chkB (qq P w K 29) N_looks_in (defScope (top 15)) c_looks_in (defBody (top 15)) = true := by kernel_rfl
theorem sc_looks_in : FnScope N_looks_in ["width", "height", "side"] (defScope (top 15)) := ⟨rfl, rfl, rfl, by decide +kernel, rfl, by decide +kernel, by decide +kernel⟩
theorem ok_looks_in (Z : Fk K mg) : ∃ fd : FuncData, (∀ (s : Shared) (us : List Value), us.length = 3 → BindsTo s fd ⟨us, []⟩ (List.zip ["width", "height", "side"] us)) ∧ Binds K fd ["width", "height", "side"] [] ∧ PySem.W.keepIn K (.ref (He.fAd K d_looks_in.at_)) = true ∧ ∀ (P : Program) (w : World) (base : Heap), TBk K mg base → FnOk P w K mg base (L2.CX P w) 30 (He.fAd K d_looks_in.at_) fd ["width", "height", "side"] (spF K (qq P w K 0) s_looks_in) := by
  obtain ⟨fd, F⟩ := Z.c.defs (d := d_looks_in) (List.mem_of_getElem? (i := 13) rfl)
  refine ⟨fd, FunD.bindsA (ps := ["width", "height", "side"]) F (fun _ _ _ _ _ _ us hl => match us, hl with | [_, _, _], _ => rfl), FunD.bindsN F fun _ _ _ _ _ _ us hl => match us, hl with | [_, _, _], _ => rfl, F.kp, fun P w base TB => def_ok (q := qq P w K 29) F sc_looks_in (by decide) (Nat.le_add_left 1 _) Z.free ⟨rfl, rfl⟩ (fun p e => nomatch e) ?_ (ch_looks_in P w K)⟩
  unfold c_looks_in
  repeat' apply And.intro
  all_goals first | exact trivial
theorem gd_looks_in (Z : Fk K mg) (TB : TBk K mg base) {k : Nat} {cd : Option (Addr × Addr)} (hk : 30 ≤ k) : (gdX P w K mg base (qq P w K k cd)).fn 8 s_looks_in := by
  obtain ⟨fd, _, b, kp, ok⟩ := ok_looks_in Z
  exact ⟨"looks_in", rfl, _, fd, _, _, Z.glo (x := "looks_in") (List.mem_of_getElem? (i := 13) rfl), kp, b, hk, ok P w base TB⟩
theorem ch_is_side (P : Program) (w : World) (K : PySem.W.Frag) : chkB (qq P w K 31) N_is_side (defScope (top 16)) c_is_side (defBody (top 16)) = true := by kernel_rfl
theorem sc_is_side : FnScope N_is_side ["width", "height", "side"] (defScope (top 16)) := ⟨rfl, rfl, rfl, by decide +kernel, rfl, by decide +kernel, by decide +kernel⟩
theorem ok_is_side (Z : Fk K mg) : ∃ fd : FuncData, (∀ (s : Shared) (us : List Value), us.length = 3 → BindsTo s fd ⟨us, []⟩ (List.zip ["width", "height", "side"] us)) ∧ Binds K fd ["width", "height", "side"] [] ∧ PySem.W.keepIn K (.ref (He.fAd K d_is_side.at_)) = true ∧ ∀ (P : Program) (w : World) (base : Heap), TBk K mg base → FnOk P w K mg base (L2.CX P w) 32 (He.fAd K d_is_side.at_) fd ["width", "height", "side"] (spF K (qq P w K 0) s_is_side) := by
  obtain ⟨fd, F⟩ := Z.c.defs (d := d_is_side) (List.mem_of_getElem? (i := 14) rfl)
  refine ⟨fd, FunD.bindsA (ps := ["width", "height", "side"]) F (fun _ _ _ _ _ _ us hl => match us, hl with | [_, _, _], _ => rfl), FunD.bindsN F fun _ _ _ _ _ _ us hl => match us, hl with | [_, _, _], _ => rfl, F.kp, fun P w base TB => def_ok (q := qq P w K 31) F sc_is_side (by decide) (Nat.le_add_left 1 _) Z.free ⟨rfl, rfl⟩ (fun p e => nomatch e) ?_ (ch_is_side P w K)⟩
  unfold c_is_side
  repeat' apply And.intro
  all_goals first | exact trivial | exact gd_is_edge Z TB (by decide) | exact gd_looks_in Z TB (by decide) | exact con_FACES Z _
theorem gd_is_side (Z : Fk K mg) (TB : TBk K mg base) {k : Nat} {cd : Option (Addr × Addr)} (hk : 32 ≤ k) : (gdX P w K mg base (qq P w K k cd)).fn 9 s_is_side := by
  obtain ⟨fd, _, b, kp, ok⟩ := ok_is_side Z
  exact ⟨"is_side", rfl, _, fd, _, _, Z.glo (x := "is_side") (List.mem_of_getElem? (i := 14) rfl), kp, b, hk, ok P w base TB⟩
theorem ch_checked (P : Program) (w : World) (K : PySem.W.Frag) : chkB (qq P w K 33) N_checked (defScope (top 17)) c_checked (defBody (top 17)) = true := by kernel_rfl
theorem sc_checked : FnScope N_checked ["hall"] (defScope (top 17)) := ⟨rfl, rfl, rfl, by decide +kernel, rfl, by decide +kernel, by decide +kernel⟩
theorem ok_checked (Z : Fk K mg) : ∃ fd : FuncData, (∀ (s : Shared) (us : List Value), us.length = 1 → BindsTo s fd ⟨us, []⟩ (List.zip ["hall"] us)) ∧ Binds K fd ["hall"] [] ∧ PySem.W.keepIn K (.ref (He.fAd K d_checked.at_)) = true ∧ ∀ (P : Program) (w : World) (base : Heap), TBk K mg base → FnOk P w K mg base (L2.CX P w) 34 (He.fAd K d_checked.at_) fd ["hall"] (spF K (qq P w K 0) s_checked) := by
  obtain ⟨fd, F⟩ := Z.c.defs (d := d_checked) (List.mem_of_getElem? (i := 15) rfl)
  refine ⟨fd, FunD.bindsA (ps := ["hall"]) F (fun _ _ _ _ _ _ us hl => match us, hl with | [_], _ => rfl), FunD.bindsN F fun _ _ _ _ _ _ us hl => match us, hl with | [_], _ => rfl, F.kp, fun P w base TB => def_ok (q := qq P w K 33) F sc_checked (by decide) (Nat.le_add_left 1 _) Z.free ⟨rfl, rfl⟩ (fun p e => nomatch e) ?_ (ch_checked P w K)⟩
  unfold c_checked
  repeat' apply And.intro
  all_goals first | exact trivial | exact gd_is_size Z TB (by decide) | exact gd_is_side Z TB (by decide) | exact xa_0 Z (by decide)
theorem gd_checked (Z : Fk K mg) (TB : TBk K mg base) {k : Nat} {cd : Option (Addr × Addr)} (hk : 34 ≤ k) : (gdX P w K mg base (qq P w K k cd)).fn 10 s_checked := by
  obtain ⟨fd, _, b, kp, ok⟩ := ok_checked Z
  exact ⟨"checked", rfl, _, fd, _, _, Z.glo (x := "checked") (List.mem_of_getElem? (i := 15) rfl), kp, b, hk, ok P w base TB⟩
theorem ch__law_only (P : Program) (w : World) (K : PySem.W.Frag) : chkB (qq P w K 35) N__law_only (defScope (top 22)) c__law_only (defBody (top 22)) = true := by kernel_rfl
theorem sc__law_only : FnScope N__law_only ["_law_e", "_law_at"] (defScope (top 22)) := ⟨rfl, rfl, rfl, by decide +kernel, rfl, by decide +kernel, by decide +kernel⟩
theorem ok__law_only (Z : Fk K mg) : ∃ fd : FuncData, (∀ (s : Shared) (us : List Value), us.length = 2 → BindsTo s fd ⟨us, []⟩ (List.zip ["_law_e", "_law_at"] us)) ∧ Binds K fd ["_law_e", "_law_at"] [] ∧ PySem.W.keepIn K (.ref (He.fAd K d__law_only.at_)) = true ∧ ∀ (P : Program) (w : World) (base : Heap), TBk K mg base → FnOk P w K mg base (L2.CX P w) 36 (He.fAd K d__law_only.at_) fd ["_law_e", "_law_at"] (spF K (qq P w K 0) s__law_only) := by
  obtain ⟨fd, F⟩ := Z.c.defs (d := d__law_only) (List.mem_of_getElem? (i := 16) rfl)
  refine ⟨fd, FunD.bindsA (ps := ["_law_e", "_law_at"]) F (fun _ _ _ _ _ _ us hl => match us, hl with | [_, _], _ => rfl), FunD.bindsN F fun _ _ _ _ _ _ us hl => match us, hl with | [_, _], _ => rfl, F.kp, fun P w base TB => def_ok (q := qq P w K 35) F sc__law_only (by decide) (Nat.le_add_left 1 _) Z.free ⟨rfl, rfl⟩ (fun p e => nomatch e) ?_ (ch__law_only P w K)⟩
  unfold c__law_only
  repeat' apply And.intro
  all_goals first | exact trivial | exact xa_1 Z | exact xa_3 Z | exact xa_5 Z | exact xa_7 Z | exact xa_9 Z | exact xa_11 Z | exact xa_13 Z | exact xa_15 Z | exact xa_17 Z | exact xl_0y Z | exact xl_0n Z | exact xl_1y Z | exact xl_1n Z | exact xl_2y Z | exact xl_2n Z | exact xl_3y Z | exact xl_3n Z | exact xl_4y Z | exact xl_4n Z | exact xl_5y Z | exact xl_5n Z | exact xl_6y Z | exact xl_6n Z | exact xl_7y Z | exact xl_7n Z | exact xl_8y Z | exact xl_8n Z
theorem gd__law_only (Z : Fk K mg) (TB : TBk K mg base) {k : Nat} {cd : Option (Addr × Addr)} (hk : 36 ≤ k) : (gdX P w K mg base (qq P w K k cd)).fn 14 s__law_only := by
  obtain ⟨fd, _, b, kp, ok⟩ := ok__law_only Z
  exact ⟨"_law_only", rfl, _, fd, _, _, Z.glo (x := "_law_only") (List.mem_of_getElem? (i := 16) rfl), kp, b, hk, ok P w base TB⟩
theorem ch_law (P : Program) (w : World) (K : PySem.W.Frag) : chkB (qq P w K 37) N_law (defScope (top 30)) c_law (defBody (top 30)) = true := by kernel_rfl
theorem sc_law : FnScope N_law ["_law_script"] (defScope (top 30)) := ⟨rfl, rfl, rfl, by decide +kernel, rfl, by decide +kernel, by decide +kernel⟩
theorem ok_law (Z : Fk K mg) : ∃ fd : FuncData, (∀ (s : Shared) (us : List Value), us.length = 1 → BindsTo s fd ⟨us, []⟩ (List.zip ["_law_script"] us)) ∧ Binds K fd ["_law_script"] [] ∧ PySem.W.keepIn K (.ref (He.fAd K d_law.at_)) = true ∧ ∀ (P : Program) (w : World) (base : Heap), TBk K mg base → FnOk P w K mg base (L2.CX P w) 38 (He.fAd K d_law.at_) fd ["_law_script"] (spF K (qq P w K 0) s_law) := by
  obtain ⟨fd, F⟩ := Z.c.defs (d := d_law) (List.mem_of_getElem? (i := 17) rfl)
  refine ⟨fd, FunD.bindsA (ps := ["_law_script"]) F (fun _ _ _ _ _ _ us hl => match us, hl with | [_], _ => rfl), FunD.bindsN F fun _ _ _ _ _ _ us hl => match us, hl with | [_], _ => rfl, F.kp, fun P w base TB => def_ok (q := qq P w K 37) F sc_law (by decide) (Nat.le_add_left 1 _) Z.free ⟨rfl, rfl⟩ (fun p e => nomatch e) ?_ (ch_law P w K)⟩
  unfold c_law
  repeat' apply And.intro
  all_goals first | exact trivial | exact gd__law_hall Z TB (by decide) | exact gd__law_cell Z TB (by decide) | exact gd__law_shuffled Z TB (by decide) | exact gd__law_due Z TB (by decide) | exact gd__law_bent Z TB (by decide) | exact gd_checked Z TB (by decide) | exact gd__law_only Z TB (by decide) | exact xa_19 Z | exact xl_9 Z _ | exact xl_10 Z
end
end LW
open PySem PySem.W PySem.Calls PyProof.Rows
theorem PySem.Challenge.cw_selfsight_k06_halls_checked_holds : PySem.Challenge.rw_selfsight_k06_halls_checked.Holds := by
  w_on; o_law
  refine HandSHeadRun.head_any (r := OpenLaw.row PySem.Challenge.rw_selfsight_k06_halls_checked) (q := view (OpenLaw.row PySem.Challenge.rw_selfsight_k06_halls_checked).prog [30]) (H := LW.hk) (ob := LW.ob) (M := 6780) (loose := LW.oth) (d := HandSHeadRun.topDef (OpenLaw.row PySem.Challenge.rw_selfsight_k06_halls_checked).prog 30) (kwd := []) LW.ob_eq
    (by kernel_rfl) (fun s => by kernel_rfl) LW.run (by kernel_rfl) (by kernel_rfl) (by kernel_rfl) (by rfl) (by first | assumption | decide +kernel) (by decide +kernel) ⟨rfl, rfl, rfl, rfl, rfl, by decide +kernel⟩ ?hw ?hc
  case hw => w_witness2
  case hc =>
    refine MI.law_walk (l := PySem.Challenge.rw_selfsight_k06_halls_checked) (m := 63) (j := 38) (x := "_law_script") rfl (by decide) (by kernel_rfl) ⟨rfl, by decide, by decide⟩ ?F
    intro w mg fa h Y G hmg0
    obtain ⟨K, KX, c, cd⟩ := Y
    have Z : LW.Fk K mg := ⟨⟨h, KX, G⟩, c, cd⟩
    have hmg : mg ("law" : PySem.Str) = some (.ref fa) := by
      have e : (HandSHeadRun.topDef (OpenLaw.row PySem.Challenge.rw_selfsight_k06_halls_checked).prog 30).name = ("law" : PySem.Str) := by kernel_rfl
      rw [← e]
      exact hmg0
    have e := hmg.symm.trans (Z.glo (x := "law") (List.mem_of_getElem? (i := 17) rfl))
    cases e
    obtain ⟨fd, b, _, _, ok⟩ := LW.ok_law Z
    refine ⟨K, fd, MI.spLaw 63 K [], KX, fun s v => b s [v] rfl, fun H a ns hl _ hS => ⟨nofun, a, ns, rfl, hl, hS, fun _ => rfl⟩, fun base _ _ => (ok _ w base trivial).imp (MI.law_sp (q := LW.qq _ w K 0) LW.law_true)⟩
