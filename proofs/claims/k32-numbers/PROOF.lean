import PyProof.Rows.All
import Wide.All
import OpenK.AllK
import Wide.FinOn
import HandS.ForMost
import KE.SortCalls
import HandS.Lambda
import HandS.EndTab
import KE.KNest
import HandS.ForExc
import HandS.TryMany
import HandS.Dict
import HandS.TupAny
import HandS.TupMul
import HandS.TupLe
import HandS.IsInst
import HandS.Flow
import HandS.Conv
import KE.LtData
import HandS.More
import KE.KDictLaws
import HandS.TupSets
import KE.KeyNested
import HandS.Zip
import HandS.Strs
import HandS.SetFor
import HandS.Style
import KE.GoesMore
import KE.RegKTryMore
import PySem.Challenge.RW_chainpapers_k32_limits_and_numbers
/-! CpLam: the defs of this law that make lambdas. -/
namespace CP
def lamDefs : List PySem.Str := ["law"]
end CP

set_option Elab.async false
set_option linter.all false
set_option maxRecDepth 100000
/-! CpCore: pure data, a small syntax, its evaluator. -/
namespace CP
open PySem L2

inductive D where
  | non | bl (b : Bool) | int (i : Int) | str (x : Str)
  | tup (xs : List D) | lst (xs : List D) | scr (xs : List D)
  | dct (ks : List Key) (vs : List D)
  | ref (n : Nat) | fn (x : Str) | ty (n : String) | cls (x : Str)

inductive Ob where
  | lst (xs : List D)
  | dct (ks : List Key) (vs : List D)
  | ins (c : Str) (fs : List Str) (vs : List D)

abbrev So := List Ob
abbrev Lo := List (Option D)

inductive R (α : Type) where
  | ok (a : α) (st : So)
  | exc (c : Str) (p : D) (st : So)
  | bad

def R.bind {α β : Type} : R α → (α → So → R β) → R β
  | .ok a st, f => f a st
  | .exc c p st, _ => .exc c p st
  | .bad, _ => .bad

inductive BO where
  | add | sub | mul | fdiv | mod | pow
  deriving DecidableEq
inductive CO where
  | eq | ne | lt | le | gt | ge | mem | nmem | is | nis
  deriving DecidableEq
/-- built-in functions and classes that are called -/
inductive B where
  | len | abs | int | list | tuple | all | any | ord | sorted | min | max
  deriving DecidableEq

/-! ### the syntax -/
mutual
inductive E where
  | non | bl (b : Bool) | int (i : Int) | str (x : Str)
  | var (i : Nat) | glb (x : Str) | fnv (x : Str)
  | tup (es : Es) | lst (es : Es) | mls (es : Es) | mdc
  | bin (o : BO) (a b : E) | neg (a : E)
  | cmp (o : CO) (a b : E) | chn (o o2 : CO) (a b c : E)
  | and (a b : E) | or (a b : E) | not (a : E) | ite (c a b : E)
  | cal (f : Str) (es : Es) | calv (i : Nat) (es : Es) | tel (f : Str) (e : E) | app (o e : E)
  | bi (f : B) (es : Es) | isi (a : E) (t : String)
  | dgt (a w z : E) | mad (a b : E) | ssr (a : E)
  | rev (a : E) | rgs (t : Bool) (a : Oe) (b : E)
  | ix (a b : E) | sl (a : E) (lo hi : Oe)
  | lc (elt : E) (tg : Tg) (w : Wk) (c : Oe) (own : List Nat)
  | lc2 (elt : E) (tg : Tg) (w : Wk) (c : Oe) (own : List Nat) (tg1 : Tg) (w1 : Wk) (c1 : Oe)
inductive Es where
  | nil | cons (e : E) (es : Es)
inductive Oe where
  | none | some (e : E)
/-- a target: names by their places -/
inductive Tg where
  | nm (i : Nat) | tu (is : List Nat)
/-- what is walked -/
inductive Wk where
  | seq (e : E) | rng1 (e : E) | rng2 (a b : E) | zip (a b : E) | enu (e : E)
end

mutual
inductive S where
  | ret (e : E) | retN | expr (e : E) | pass | brk | cnt
  | set (i : Nat) (e : E) | setT (is : List Nat) (e : E) | par (i j : Nat) (a b : E) | par3 (i j k : Nat) (a b c : E)
  | sub (o i v : E)
  | ite (c : E) (a b : Ss) | whl (c : E) (b : Ss) | for (tg : Tg) (w : Wk) (b : Ss)
  | raise (c : Str)
inductive Ss where
  | nil | cons (s : S) (ss : Ss)
end

/-! ### data -/
def lstOf : D → So → Option (List D)
  | .lst xs, _ => some xs
  | .ref n, st => match st[n]? with
    | some (.lst xs) => some xs
    | _ => none
  | _, _ => none
def seqOf : D → So → Option (List D)
  | .tup xs, _ => some xs
  | .scr xs, _ => some xs
  | d, st => lstOf d st

mutual
def D.isDat : D → Bool
  | .non | .bl _ | .int _ | .str _ => true
  | .tup xs | .lst xs => isDats xs
  | _ => false
def isDats : List D → Bool
  | [] => true
  | x :: xs => x.isDat && isDats xs
end
mutual
def D.dep : D → Nat
  | .tup xs | .lst xs => deps xs + 1
  | _ => 0
def deps : List D → Nat
  | [] => 0
  | x :: xs => max x.dep (deps xs)
end
mutual
/-- == -/
def D.eqv : D → D → Bool
  | .non, .non => true
  | .bl a, .bl b => a == b
  | .bl a, .int j => (if a then 1 else 0) == j
  | .int i, .bl b => i == (if b then 1 else 0)
  | .int i, .int j => i == j
  | .str x, .str y => x == y
  | .lst xs, .lst ys => eqvs xs ys
  | .tup xs, .tup ys => eqvs xs ys
  | _, _ => false
def eqvs : List D → List D → Bool
  | [], [] => true
  | x :: xs, y :: ys => x.eqv y && eqvs xs ys
  | _, _ => false
end
mutual
/-- < : the first place at which two data differ decides -/
def ltD : D → D → Option Bool
  | .int i, .int j => some (decide (i < j))
  | .bl a, .bl b => some (!a && b)
  | .str x, .str y => some (decide (x.cps.toList < y.cps.toList))
  | .tup xs, .tup ys => ltsD xs ys
  | _, _ => none
def ltsD : List D → List D → Option Bool
  | [], [] => some false
  | [], _ :: _ => some true
  | _ :: _, [] => some false
  | x :: xs, y :: ys => if x.eqv y then ltsD xs ys else ltD x y
end
mutual
/-- how two data stand, if they can be compared; equal ones are the same -/
def cmpD : D → D → Option Ordering
  | .int i, .int j => some (if i < j then .lt else if i = j then .eq else .gt)
  | .bl a, .bl b => some (if !a && b then .lt else if a = b then .eq else .gt)
  | .str x, .str y => some (if x.cps.toList < y.cps.toList then .lt else if x = y then .eq else .gt)
  | .tup xs, .tup ys => cmpsD xs ys
  | _, _ => none
def cmpsD : List D → List D → Option Ordering
  | [], [] => some .eq
  | [], _ :: _ => some .lt
  | _ :: _, [] => some .gt
  | x :: xs, y :: ys => match cmpD x y with
    | some .eq => cmpsD xs ys
    | r => r
end
mutual
/-- data as signs: their order is that of the data -/
def tokD : D → List (Int ⊕ List Nat)
  | .int i => [.inl i]
  | .bl b => [.inl (if b then 1 else 0)]
  | .str x => [.inr x.cps.toList]
  | .tup xs => toksD xs
  | _ => []
def toksD : List D → List (Int ⊕ List Nat)
  | [] => [.inl 0]
  | x :: xs => .inl 1 :: (tokD x ++ toksD xs)
end
def noEmp : D → Bool
  | .tup [] => false
  | _ => true
/-- data that can be sorted -/
def sortOk (xs : List D) : Bool := (xs.all fun a => xs.all fun b => (cmpD a b).isSome) && xs.all noEmp && decide (deps xs ≤ 60)
def sortD (xs : List D) : List D := xs.mergeSort (PySem.W.sortLe (PyProof.Rows.listOrd PyProof.Rows.itemOrd) false tokD)
def insD (x : D) : List D → List D
  | [] => [x]
  | y :: ys => if cmpD x y == some .gt then y :: insD x ys else x :: y :: ys
def isortD (xs : List D) : List D := xs.foldr insD []
def sortR (xs : List D) (st : So) : R D := if sortOk xs then .ok (.lst (isortD xs)) st else .bad
def sameD (x y : D) : Bool := cmpD x y == some .eq
/-- the first of each -/
def ddD (xs : List D) : List D := xs.foldl (fun acc x => if acc.any (fun y => sameD y x) then acc else acc ++ [x]) []
/-- a tuple -/
def D.tupB : D → Bool
  | .tup _ => true
  | _ => false
/-- a whole number -/
def D.isiB : D → Bool
  | .int _ => true
  | _ => false
def ssrR (xs : List D) (st : So) : R D := if sortOk xs && decide (deps xs ≤ 7) && decide (xs.length < 64) && (xs.all D.tupB || xs.all D.isiB) then .ok (.lst (isortD (ddD xs))) st else .bad
/-- of a list of tuples, or a tuple of whole numbers -/
def ssrL (x : D) (st : So) : R D := match x with
  | .tup xs => if xs.all D.isiB then ssrR xs st else .bad
  | x => match lstOf x st with
    | some xs => if xs.all D.tupB then ssrR xs st else .bad
    | none => .bad
/-- a list that changes, as it stands -/
def D.see (d : D) (st : So) : D := match d with
  | .ref n => match st[n]? with
    | some (.lst xs) => .lst xs
    | _ => d
  | _ => d

def tru : D → So → R Bool
  | .non, st => .ok false st
  | .bl b, st => .ok b st
  | .int i, st => .ok (i != 0) st
  | .str x, st => .ok ((x.length : Int) != 0) st
  | .tup xs, st => .ok (!xs.isEmpty) st
  | .lst xs, st => .ok (!xs.isEmpty) st
  | .ref n, st => match st[n]? with
    | some (.lst xs) => .ok (!xs.isEmpty) st
    | _ => .bad
  | _, _ => .bad

def repD (xs : List D) (k : Int) : List D := (List.replicate k.toNat xs).flatten

def mulOk (i j : Int) : Bool := (decide (-(2 ^ 64) < i) && decide (i < 2 ^ 64)) || (decide (-(2 ^ 64) < j) && decide (j < 2 ^ 64))
def opD : BO → D → D → So → R D
  | .add, .int i, .int j, st => .ok (.int (i + j)) st
  | .add, .str i, .str j, st => if i.length + j.length ≤ sizeLine then .ok (.str (i ++ j)) st else .bad
  | .add, .tup xs, .tup ys, st => if xs.length + ys.length ≤ sizeLine then .ok (.tup (xs ++ ys)) st else .bad
  | .add, x, y, st => match lstOf x st, lstOf y st with
    | some xs, some ys => if xs.length + ys.length ≤ sizeLine then .ok (.lst (xs ++ ys)) st else .bad
    | _, _ => .bad
  | .sub, .int i, .int j, st => .ok (.int (i - j)) st
  | .mul, .int i, .int j, st => if mulOk i j then .ok (.int (i * j)) st else .bad
  | .mul, .tup xs, .int k, st => if 2 ≤ k ∧ (xs.length : Int) * k ≤ 1000000 ∧ 0 < xs.length then .ok (.tup (repD xs k)) st else .bad
  | .mul, .lst xs, .int k, st => if -(2 ^ 63) ≤ k ∧ k < 2 ^ 63 ∧ xs.length * k.toNat ≤ sizeLine then .ok (.lst (repD xs k)) st else .bad
  | .fdiv, .int i, .int j, st => if 0 < j ∧ j < 1073741824 then .ok (.int (i / j)) st else .bad
  | .mod, .int i, .int j, st => if 0 < j then .ok (.int (i % j)) st else .bad
  | .pow, .int i, .int j, st => if 0 ≤ j ∧ j ≤ 1000000 ∧ i.natAbs < 2 ^ 64 then .ok (.int (i ^ j.toNat)) st else .bad
  | _, _, _, _ => .bad

def inStr (i j : Str) : Bool := !(Builtin.Str.occurrences j i 0 j.length 1).isEmpty
def inD (x : D) (xs : List D) : Bool := xs.any fun y => y.eqv x
def memD (x y : D) (st : So) : R Bool := match x, y with
  | .str i, .str j => .ok (inStr i j) st
  | _, .scr _ => .bad
  | x, y => match seqOf y st with
    | some xs => if x.isDat && isDats xs && decide (x.dep ≤ 64) then .ok (inD x xs) st else .bad
    | none => .bad
def eqD (x y : D) (st : So) : R Bool :=
  if (x.see st).isDat && (y.see st).isDat && decide (min (x.see st).dep (y.see st).dep ≤ 64) then .ok ((x.see st).eqv (y.see st)) st else .bad
def isD : D → D → So → R Bool
  | .bl a, .bl b, st => .ok (decide (a = b)) st
  | .non, .non, st => .ok true st
  | .bl _, .non, st | .int _, .non, st | .str _, .non, st | .tup _, .non, st | .lst _, .non, st | .ref _, .non, st => .ok false st
  | _, _, _ => .bad
def cmpB : CO → D → D → So → R Bool
  | .eq, x, y, st => eqD x y st
  | .ne, x, y, st => (eqD x y st).bind fun b st => .ok (!b) st
  | .mem, x, y, st => memD x y st
  | .nmem, x, y, st => (memD x y st).bind fun b st => .ok (!b) st
  | .is, x, y, st => isD x y st
  | .nis, x, y, st => (isD x y st).bind fun b st => .ok (!b) st
  | .lt, .int i, .int j, st => .ok (decide (i < j)) st
  | .lt, .str x, .str y, st => .ok (decide (x.cps.toList < y.cps.toList)) st
  | .lt, .tup xs, .tup ys, st => if isDats xs && isDats ys && decide (deps xs ≤ 60) then (match ltsD xs ys with
    | some k => .ok k st
    | none => .bad) else .bad
  | .le, .int i, .int j, st => .ok (decide (i ≤ j)) st
  | .gt, .int i, .int j, st => .ok (decide (j < i)) st
  | .ge, .int i, .int j, st => .ok (decide (j ≤ i)) st
  | _, _, _, _ => .bad

def lenD : D → So → Option Nat
  | .str x, _ => some x.length
  | d, st => (seqOf d st).map List.length
/-- isinstance of a built-in class -/
def isiD : D → String → Option Bool
  | .non, t => if t ∈ ["int", "bool", "str", "tuple", "list"] then some false else none
  | .bl _, t => if t ∈ ["int", "bool"] then some true else if t ∈ ["str", "tuple", "list"] then some false else none
  | .int _, t => if t ∈ ["int"] then some true else if t ∈ ["bool", "str", "tuple", "list"] then some false else none
  | .str _, t => if t ∈ ["str"] then some true else if t ∈ ["bool", "int", "tuple", "list"] then some false else none
  | .tup _, t => if t ∈ ["tuple"] then some true else if t ∈ ["bool", "int", "str", "list"] then some false else none
  | .lst _, t => if t ∈ ["list"] then some true else if t ∈ ["bool", "int", "str", "tuple"] then some false else none
  | _, _ => none
def blsOf : List D → Option (List Bool)
  | [] => some []
  | .bl b :: xs => (blsOf xs).map (b :: ·)
  | _ => none
def keyVal : Key → D
  | .inl i => .int i
  | .inr x => .str x
/-- the keys of a dict -/
def keysOf : D → So → Option (List Key)
  | .ref n, st => match st[n]? with
    | some (.dct ks _) => some ks
    | _ => none
  | _, _ => none
def signs (x : Str) : List D := x.cps.toList.map fun c => .str ⟨#[c]⟩
/-- a list of ints -/
def intsD : List D → Option (List Int)
  | [] => some []
  | .int i :: xs => (intsD xs).map (i :: ·)
  | _ :: _ => none
def minL (n : Int) (ns : List Int) : Int := ns.foldl (fun a b => if b < a then b else a) n
def maxL (n : Int) (ns : List Int) : Int := ns.foldl (fun a b => if a < b then b else a) n
def biD : B → List D → So → R D
  | .len, [x], st => match lenD x st with
    | some n => .ok (.int n) st
    | none => .bad
  | .abs, [.int i], st => .ok (.int (if i < 0 then -i else i)) st
  | .int, [.int i], st => .ok (.int i) st
  | .int, [.bl b], st => .ok (.int (if b then 1 else 0)) st
  | .list, [.str x], st => .ok (.lst (signs x)) st
  | .list, [x], st => match seqOf x st with
    | some xs => .ok (.lst xs) st
    | none => .bad
  | .tuple, [x], st => match seqOf x st with
    | some xs => .ok (.tup xs) st
    | none => .bad
  | .all, [x], st => match (lstOf x st).bind blsOf with
    | some bs => .ok (.bl (bs.all id)) st
    | none => .bad
  | .any, [x], st => match (lstOf x st).bind blsOf with
    | some bs => .ok (.bl (bs.any id)) st
    | none => .bad
  | .sorted, [x], st => match keysOf x st with
    | some ks => if ks.length < 64 then sortR (ks.map keyVal) st else .bad
    | none => match seqOf x st with
      | some xs => sortR xs st
      | none => .bad
  | .min, [.int i, .int j], st => .ok (.int (if j < i then j else i)) st
  | .max, [.int i, .int j], st => .ok (.int (if j > i then j else i)) st
  | .min, [x], st => match (lstOf x st).bind intsD with
    | some (n :: ns) => .ok (.int (minL n ns)) st
    | _ => .bad
  | .max, [x], st => match (lstOf x st).bind intsD with
    | some (n :: ns) => .ok (.int (maxL n ns)) st
    | _ => .bad
  | .ord, [.str x], st => if x.length = 1 then .ok (.int ((x.cps.getD 0 0 : Nat) : Int)) st else .bad
  | _, _, _ => .bad

def keyD : D → Option Key
  | .int i => some (.inl i)
  | .str x => some (.inr x)
  | _ => none
def dgetD : List Key → List D → Key → Option D
  | k' :: ks, d :: ds, k => if k' = k then some d else dgetD ks ds k
  | _, _, _ => none
def dsetD : List Key → List D → Key → D → List D
  | k' :: ks, d' :: ds, k, d => (if k' = k then d else d') :: dsetD ks ds k d
  | _, ds, _, _ => ds
/-- pairs of a key and what stands at it -/
def pairsK : List D → Option (List Key × List D)
  | [] => some ([], [])
  | .tup [k, d] :: xs => match keyD k, pairsK xs with
    | some k, some (ks, ds) => some (k :: ks, d :: ds)
    | _, _ => none
  | _ :: _ => none
/-- what stands at a key, the last one first -/
def dlastD : List Key → List D → Key → Option D
  | k' :: ks, d :: ds, k => match dlastD ks ds k with
    | some d => some d
    | none => if k' = k then some d else none
  | _, _, _ => none
/-- a tuple or a list that stays -/
def pseq : D → Option (List D)
  | .tup xs => some xs
  | .lst xs => some xs
  | _ => none
/-- dict(list(x)).get(w, z) -/
def dgtR (ks : List Key) (ds : List D) (w z : D) (st : So) : R D := match keyD w with
  | some k => .ok ((dlastD ks ds k).getD z) st
  | none => .bad
def madR (x y : D) (st : So) : R D := match lstOf x st, lstOf y st with
  | some xs, some ys => if xs.length + ys.length ≤ sizeLine then .ok (.ref st.length) (st ++ [.lst (xs ++ ys)]) else .bad
  | _, _ => .bad
def ixO (n : Nat) (y : D) (st : So) : R D := match st[n]? with
  | some (.dct ks ds) => match (keyD y).bind (dgetD ks ds) with
    | some d => .ok d st
    | none => .bad
  | some (.lst xs) => match y with
    | .int i => match atI xs i with
      | some d => .ok d st
      | none => .bad
    | _ => .bad
  | _ => .bad
def ixD : D → D → So → R D
  | .str z, .int i, st => match atI z.cps.toList i with
    | some c => .ok (.str ⟨#[c]⟩) st
    | none => .bad
  | .ref n, y, st => ixO n y st
  | x, .int i, st => match seqOf x st with
    | some xs => match atI xs i with
      | some d => .ok d st
      | none => .bad
    | none => .bad
  | _, _, _ => .bad
def cutD {α : Type} (xs : List α) (lo hi : Option Int) : List α := (xs.drop (HT.sIx xs.length 0 lo)).take (HT.sIx xs.length xs.length hi - HT.sIx xs.length 0 lo)
def slD : D → Option Int → Option Int → So → R D
  | .tup xs, lo, hi, st => .ok (.tup (cutD xs lo hi)) st
  | x, lo, hi, st => match lstOf x st with
    | some xs => .ok (.lst (cutD xs lo hi)) st
    | none => .bad

def isLstD : D → So → Bool
  | .ref n, st => match st[n]? with
    | some (.lst _) => true
    | _ => false
  | _, _ => false
/-- a list that changes gets one more -/
def appD : D → D → So → R D
  | .ref n, y, st => match st[n]? with
    | some (.lst xs) => if xs.length < sizeLine then .ok .non (st.set n (.lst (xs ++ [y]))) else .bad
    | _ => .bad
  | _, _, _ => .bad

/-! ### the evaluator -/
structure Gm where
  /-- calls -/
  cal : Str → List D → So → R D
  /-- the module's constants -/
  con : Str → Option D
  /-- the defs that there are -/
  has : Str → Bool
  /-- a def that is handed a thunk -/
  tel : Str → (So → R D) → So → R D
  /-- what a lambda's body gives -/
  lam : E → Lo → So → R D

inductive RS where
  | nx (l : Lo) (st : So) | rt (d : D) (st : So) | bk (l : Lo) (st : So) | ct (l : Lo) (st : So)
  | exc (c : Str) (p : D) (l : Lo) (st : So) | bad

def RS.of {α : Type} (l : Lo) (r : R α) (f : α → So → RS) : RS := match r with
  | .ok a st => f a st
  | .exc c p st => .exc c p l st
  | .bad => .bad

def setAll : List Nat → List D → Lo → Option Lo
  | [], [], l => some l
  | i :: is, d :: ds, l => setAll is ds (l.set i (some d))
  | _, _, _ => none
def bindTg : Tg → D → Lo → Option Lo
  | .nm i, d, l => some (l.set i (some d))
  | .tu is, .tup ds, l => setAll is ds l
  | .tu _, _, _ => none
def wipeD (l : Lo) : List Nat → Lo
  | [] => l
  | v :: vs => (wipeD l vs).set v none

def rngD (lo : Int) (n : Nat) : List D := (List.range n).map fun (k : Nat) => .int (lo + (k : Int))
def rngOk (i j : Int) : Bool := decide (-(2 ^ 62) ≤ i) && decide (i < 2 ^ 62) && decide (-(2 ^ 62) ≤ j) && decide (j < 2 ^ 62) && decide ((j - i).toNat ≤ sizeLine)

def pairsD (xs ys : List D) : List D := (xs.zip ys).map fun p => .tup [p.1, p.2]
def zipD : D → D → So → R (List D)
  | .tup xs, .tup ys, st => .ok (pairsD xs ys) st
  | .lst xs, .lst ys, st => .ok (pairsD xs ys) st
  | _, _, _ => .bad
def enuD (n : Nat) : List D → List D
  | [] => []
  | x :: xs => .tup [.int (n : Nat), x] :: enuD (n + 1) xs
def rgsR (t : Bool) (x y : D) (st : So) : R D := match x, y with
  | .int i, .int j => if rngOk i j then .ok (if t then .tup (rngD i (j - i).toNat) else .lst (rngD i (j - i).toNat)) st else .bad
  | _, _ => .bad
def revR (x : D) (st : So) : R D := match lstOf x st with
  | some xs => .ok (.lst xs.reverse) st
  | none => .bad
/-- the turns of a comprehension; nothing is raised out of it -/
def lcGo (bnd : D → Option Lo) (tst : Lo → So → R Bool) (elt : Lo → So → R D) : List D → List D → So → R D
  | [], acc, st => .ok (.lst acc) st
  | x :: xs, acc, st => match bnd x with
    | none => .bad
    | some l => match tst l st with
      | .ok true st1 => match elt l st1 with
        | .ok d st2 => lcGo bnd tst elt xs (acc ++ [d]) st2
        | _ => .bad
      | .ok false st1 => lcGo bnd tst elt xs acc st1
      | _ => .bad

def Tg.ix : Tg → List Nat
  | .nm i => [i]
  | .tu is => is
/-- go on with a list -/
def contL (f : List D → So → R D) : R D → R D
  | .ok (.lst xs) st => f xs st
  | _ => .bad
/-- the turns of a comprehension of two clauses -/
def lcGo2 (bnd : D → Option Lo) (tst : Lo → So → R Bool) (inn : Lo → So → R (List D)) (go : Lo → List D → List D → So → R D) : List D → List D → So → R D
  | [], acc, st => .ok (.lst acc) st
  | x :: xs, acc, st => match bnd x with
    | none => .bad
    | some l => match tst l st with
      | .ok true st1 => match inn l st1 with
        | .ok ys st2 => if acc.length + ys.length ≤ sizeLine then contL (fun acc st => lcGo2 bnd tst inn go xs acc st) (go l ys acc st2) else .bad
        | _ => .bad
      | .ok false st1 => lcGo2 bnd tst inn go xs acc st1
      | _ => .bad

variable (G : Gm)
mutual
def evE : E → Lo → So → R D
  | .non, _, st => .ok .non st
  | .bl b, _, st => .ok (.bl b) st
  | .int i, _, st => .ok (.int i) st
  | .str x, _, st => .ok (.str x) st
  | .var i, l, st => match l[i]? with
    | some (some d) => .ok d st
    | _ => .bad
  | .glb x, _, st => match G.con x with
    | some d => .ok d st
    | none => .bad
  | .fnv x, _, st => .ok (.fn x) st
  | .tup es, l, st => (evEs es l st).bind fun ds st => if ds.length ≤ sizeLine then .ok (.tup ds) st else .bad
  | .lst es, l, st => (evEs es l st).bind fun ds st => if ds.length ≤ sizeLine then .ok (.lst ds) st else .bad
  | .mls es, l, st => (evEs es l st).bind fun ds st => if ds.length ≤ sizeLine then .ok (.ref st.length) (st ++ [.lst ds]) else .bad
  | .mdc, _, st => .ok (.ref st.length) (st ++ [.dct [] []])
  | .bin o a b, l, st => (evE a l st).bind fun x st => (evE b l st).bind fun y st => opD o x y st
  | .neg a, l, st => (evE a l st).bind fun x st => match x with
    | .int i => .ok (.int (-i)) st
    | _ => .bad
  | .cmp o a b, l, st => (evE a l st).bind fun x st => (evE b l st).bind fun y st => (cmpB o x y st).bind fun k st => .ok (.bl k) st
  | .chn o o2 a b c, l, st => (evE a l st).bind fun x st => (evE b l st).bind fun y st => (cmpB o x y st).bind fun k st =>
    if k then (evE c l st).bind fun z st => (cmpB o2 y z st).bind fun k st => .ok (.bl k) st else .ok (.bl false) st
  | .and a b, l, st => (evE a l st).bind fun x st => (tru x st).bind fun k st => if k then evE b l st else .ok x st
  | .or a b, l, st => (evE a l st).bind fun x st => (tru x st).bind fun k st => if k then .ok x st else evE b l st
  | .not a, l, st => (evE a l st).bind fun x st => (tru x st).bind fun k st => .ok (.bl (!k)) st
  | .ite c a b, l, st => (evE c l st).bind fun x st => (tru x st).bind fun k st => if k then evE a l st else evE b l st
  | .cal f es, l, st => (evEs es l st).bind fun ds st => G.cal f ds st
  | .calv i es, l, st => match l[i]? with
    | some (some (.fn f)) => if G.has f then (evEs es l st).bind fun ds st => G.cal f ds st else .bad
    | _ => .bad
  | .tel f e, l, st => G.tel f (G.lam e l) st
  | .app o e, l, st => (evE o l st).bind fun x st => if isLstD x st then (evE e l st).bind fun y st => appD x y st else .bad
  | .bi f es, l, st => (evEs es l st).bind fun ds st => biD f ds st
  | .dgt a w z, l, st => (evE a l st).bind fun x st => match (pseq x).bind pairsK with
    | some (ks, ds) => (evE w l st).bind fun y st => (evE z l st).bind fun z st => dgtR ks ds y z st
    | none => .bad
  | .mad a b, l, st => (evE a l st).bind fun x st => (evE b l st).bind fun y st => madR x y st
  | .ssr a, l, st => (evE a l st).bind fun x st => ssrL x st
  | .rev a, l, st => (evE a l st).bind fun x st => revR x st
  | .rgs t .none b, l, st => (evE b l st).bind fun y st => rgsR t (.int 0) y st
  | .rgs t (.some a) b, l, st => (evE a l st).bind fun x st => (evE b l st).bind fun y st => rgsR t x y st
  | .isi a t, l, st => (evE a l st).bind fun x st => match isiD x t with
    | some b => .ok (.bl b) st
    | none => .bad
  | .ix a b, l, st => (evE a l st).bind fun x st => (evE b l st).bind fun y st => ixD x y st
  | .sl a lo hi, l, st => (evE a l st).bind fun x st => (evO lo l st).bind fun u st => (evO hi l st).bind fun v st => slD x u v st
  | .lc elt tg w c own, l, st => (evW w l st).bind fun xs st =>
    lcGo (fun d => bindTg tg d (wipeD l own)) (evC c) (evE elt) xs [] st
  | .lc2 elt tg w c own tg1 w1 c1, l, st => (evW w l st).bind fun xs st =>
    lcGo2 (fun d => bindTg tg d (wipeD l own)) (evC c) (evW w1) (fun l ys acc st => lcGo (fun d => bindTg tg1 d (wipeD l tg1.ix)) (evC c1) (evE elt) ys acc st) xs [] st
def evEs : Es → Lo → So → R (List D)
  | .nil, _, st => .ok [] st
  | .cons e es, l, st => (evE e l st).bind fun d st => (evEs es l st).bind fun ds st => .ok (d :: ds) st
def evO : Oe → Lo → So → R (Option Int)
  | .none, _, st => .ok none st
  | .some e, l, st => (evE e l st).bind fun d st => match d with
    | .int i => .ok (some i) st
    | _ => .bad
/-- a comprehension's test -/
def evC : Oe → Lo → So → R Bool
  | .none, _, st => .ok true st
  | .some e, l, st => (evE e l st).bind fun d st => tru d st
def evW : Wk → Lo → So → R (List D)
  | .seq e, l, st => (evE e l st).bind fun d st => match d with
    | .tup xs => .ok xs st
    | .lst xs => .ok xs st
    | .str x => .ok (signs x) st
    | _ => .bad
  | .rng1 e, l, st => (evE e l st).bind fun d st => match d with
    | .int i => if rngOk 0 i then .ok (rngD 0 i.toNat) st else .bad
    | _ => .bad
  | .rng2 a b, l, st => (evE a l st).bind fun x st => (evE b l st).bind fun y st => match x, y with
    | .int i, .int j => if rngOk i j then .ok (rngD i (j - i).toNat) st else .bad
    | _, _ => .bad
  | .zip a b, l, st => (evE a l st).bind fun x st => (evE b l st).bind fun y st => zipD x y st
  | .enu e, l, st => (evE e l st).bind fun d st => match d with
    | .lst xs => .ok (enuD 0 xs) st
    | .tup xs => .ok (enuD 0 xs) st
    | _ => .bad
end

def evB (e : E) (l : Lo) (st : So) : R Bool := (evE G e l st).bind fun d st => tru d st

/-- a loop over what is walked -/
def forGo (bnd : D → Lo → Option Lo) (body : Lo → So → RS) : List D → Lo → So → RS
  | [], l, st => .nx l st
  | x :: xs, l, st => match bnd x l with
    | none => .bad
    | some l1 => match body l1 st with
      | .nx l2 st2 => forGo bnd body xs l2 st2
      | .ct l2 st2 => forGo bnd body xs l2 st2
      | .bk l2 st2 => .nx l2 st2
      | r => r
def whileGo (tst : Lo → So → R Bool) (body : Lo → So → RS) : Nat → Lo → So → RS
  | 0, _, _ => .bad
  | n + 1, l, st => RS.of l (tst l st) fun k st1 => if k then (match body l st1 with
      | .nx l2 st2 => whileGo tst body n l2 st2
      | .ct l2 st2 => whileGo tst body n l2 st2
      | .bk l2 st2 => .nx l2 st2
      | r => r) else .nx l st1

def setOb (n : Nat) (i : Int) (v : D) (st : So) : Option So := match st[n]? with
  | some (.lst xs) => (ixN xs.length i).map fun j => st.set n (.lst (xs.set j v))
  | _ => none

/-- what stands in a dict after a store -/
def dputD (ks : List Key) (ds : List D) (k : Key) (d : D) : Ob := match dgetD ks ds k with
  | some _ => .dct ks (dsetD ks ds k d)
  | none => .dct (ks ++ [k]) (ds ++ [d])
/-- x[y] = v -/
def putOb (n : Nat) (y v : D) (st : So) : Option So := match st[n]? with
  | some (.lst _) => match y with
    | .int i => setOb n i v st
    | _ => none
  | some (.dct ks ds) => match keyD y with
    | some k => if ks.length < sizeLine then some (st.set n (dputD ks ds k v)) else none
    | none => none
  | _ => none

/-- turns that a while may take -/
def turns : Nat := 1000000
mutual
def evS : S → Lo → So → RS
  | .ret e, l, st => RS.of l (evE G e l st) fun d st => .rt d st
  | .retN, _, st => .rt .non st
  | .expr e, l, st => RS.of l (evE G e l st) fun _ st => .nx l st
  | .pass, l, st => .nx l st
  | .brk, l, st => .bk l st
  | .cnt, l, st => .ct l st
  | .set i e, l, st => RS.of l (evE G e l st) fun d st => .nx (l.set i (some d)) st
  | .setT is e, l, st => RS.of l (evE G e l st) fun d st => match bindTg (.tu is) d l with
    | some l => .nx l st
    | none => .bad
  | .par i j a b, l, st => RS.of l (evE G a l st) fun x st => RS.of l (evE G b l st) fun y st => .nx ((l.set i (some x)).set j (some y)) st
  | .par3 i j k a b c, l, st => RS.of l (evE G a l st) fun x st => RS.of l (evE G b l st) fun y st => RS.of l (evE G c l st) fun z st => .nx (((l.set i (some x)).set j (some y)).set k (some z)) st
  | .sub o i v, l, st => RS.of l (evE G v l st) fun z st => RS.of l (evE G o l st) fun x st => RS.of l (evE G i l st) fun y st => match x with
    | .ref n => match putOb n y z st with
      | some st => .nx l st
      | none => .bad
    | _ => .bad
  | .ite c a b, l, st => RS.of l (evB G c l st) fun k st => if k then evSs a l st else evSs b l st
  | .whl c b, l, st => whileGo (evB G c) (evSs b) turns l st
  | .for tg w b, l, st => RS.of l (evW G w l st) fun xs st => forGo (bindTg tg) (evSs b) xs l st
  | .raise c, l, st => .exc c .non l st
def evSs : Ss → Lo → So → RS
  | .nil, l, st => .nx l st
  | .cons s ss, l, st => match evS s l st with
    | .nx l st => evSs ss l st
    | r => r
end

/-- a def: its name, how many parameters, how many names, its body -/
structure Fn where
  name : Str
  np : Nat
  nn : Nat
  body : Ss

/-- a def that calls what it is handed: the word for each error class, the word for none -/
structure Tl where
  name : Str
  hs : List (Str × D)
  fin : D
structure Pg where
  fns : List Fn
  con : List (Str × D)
  /-- error classes that are raised -/
  excs : List Str
  tels : List Tl
  /-- of each class those above it that are caught -/
  subs : List (Str × List Str)
  /-- defs that stand under another name -/
  ren : List (Str × Str)

def Pg.has (P : Pg) (x : Str) : Bool := P.fns.any fun f => f.name == x
/-- the name under which a def stands -/
def Pg.py (P : Pg) (x : Str) : Str := (P.ren.lookup x).getD x
def Pg.hasV (P : Pg) (x : Str) : Bool := P.has x && (P.py x == x)
def Pg.sub (P : Pg) (c h : Str) : Bool := match P.subs.lookup c with
  | some l => l.contains h
  | none => false
def Pg.tel? (P : Pg) (x : Str) : Option Tl := P.tels.find? fun f => f.name == x
/-- a clause that must not be the one -/
def D.asB : D → Bool
  | .fn _ => true
  | _ => false
def catchD (P : Pg) (c : Str) (st : So) : List (Str × D) → R D
  | [] => .bad
  | (h, d) :: r => if P.sub c h then (if d.asB then .bad else .ok d st) else catchD P c st r
def tellD (P : Pg) (t : Tl) : R D → R D
  | .ok _ st => .ok t.fin st
  | .exc c .non st => if P.excs.contains c then catchD P c st t.hs else .bad
  | _ => .bad
def runBody (G : Gm) (f : Fn) (ds : List D) (st : So) : R D :=
  if ds.length = f.np then match evSs G f.body (ds.map some ++ List.replicate (f.nn - f.np) none) st with
    | .nx _ st => .ok .non st
    | .rt d st => .ok d st
    | .exc c p _ st => .exc c p st
    | _ => .bad
  else .bad
/-- calls, to a depth -/
def gmN (P : Pg) : Nat → Gm
  | 0 => ⟨fun _ _ _ => .bad, fun x => P.con.lookup x, P.hasV, fun _ _ _ => .bad, fun _ _ _ => .bad⟩
  | 1 => ⟨fun x ds st => match P.fns.find? fun f => f.name == x with
      | some f => runBody (gmN P 0) f ds st
      | none => .bad, fun x => P.con.lookup x, P.hasV, fun _ _ _ => .bad, fun _ _ _ => .bad⟩
  | k + 2 => ⟨fun x ds st => match P.fns.find? fun f => f.name == x with
      | some f => runBody (gmN P (k + 1)) f ds st
      | none => .bad, fun x => P.con.lookup x, P.hasV, fun x th st => match P.tel? x with
      | some t => tellD P t (th st)
      | none => .bad, fun e l st => evE (gmN P k) e l st⟩
def calN (P : Pg) (k : Nat) : Str → List D → So → R D := (gmN P k).cal
end CP

set_option Elab.async false
set_option linter.all false
set_option maxRecDepth 100000
set_option autoImplicit false
/-! CpRep: pure data stand for values over an abstract heap. -/
namespace CP
open PySem PySem.Spec PyProof.Rows L2

/-- the things that change: those that the store tells, and others (lists in the making) -/
structure Mu where
  l : List Addr
  fo : List Addr
abbrev Mu.ch (mu : Mu) : List Addr := mu.l ++ mu.fo
def Mu.add (mu : Mu) (p : Addr) : Mu := ⟨mu.l ++ [p], mu.fo⟩
def strGood (x : Str) : Prop := x.length ≤ sizeLine ∧ PySem.PyData.strOk x = true
def KTup (K : PySem.W.Frag) (a : Addr) (xs : List V) : Prop :=
  ∃ (o : Obj) (its : Array Value) (n : Nat), K.lookup a = some o ∧ o.cls = .type "tuple" ∧ o.data = .seq its n ∧ its.size ≤ sizeLine ∧ Vals xs its.toList
/-- a tuple, not among the things that change -/
def TupAt (K : PySem.W.Frag) (mu : Mu) (H : Hp) (a : Addr) (xs : List V) : Prop := (H a = some (.tup xs) ∧ a ∉ mu.ch) ∨ KTup K a xs
def LstAt (mu : Mu) (H : Hp) (a : Addr) (xs : List V) : Prop := H a = some (.lst xs) ∧ a ∉ mu.ch
def KLst (K : PySem.W.Frag) (a : Addr) (xs : List V) : Prop :=
  ∃ (o : Obj) (its : Array Value) (n : Nat), K.lookup a = some o ∧ o.cls = .type "list" ∧ o.dict = none ∧ o.data = .seq its n ∧ its.size ≤ sizeLine ∧ Vals xs its.toList
/-- a list that nobody changes -/
def ScrAt (K : PySem.W.Frag) (mu : Mu) (H : Hp) (a : Addr) (xs : List V) : Prop := (((∃ o, H a = some (.frz o (.lst xs))) ∨ H a = some (.lst xs)) ∧ a ∉ mu.ch) ∨ KLst K a xs
theorem TupAt.sq {K : PySem.W.Frag} {mu : Mu} {H : Hp} {a : Addr} {xs : List V} (h : TupAt K mu H a xs) : SqT K H a xs := by
  rcases h with ⟨h, _⟩ | h
  · exact .inl (.inl h)
  · exact .inr h
theorem ScrAt.sq {K : PySem.W.Frag} {mu : Mu} {H : Hp} {a : Addr} {xs : List V} (h : ScrAt K mu H a xs) : SqL K H a xs := by
  rcases h with ⟨h | h, _⟩ | h
  · exact .inl (.inr h)
  · exact .inl (.inl h)
  · exact .inr h
theorem LstAt.sq {K : PySem.W.Frag} {mu : Mu} {H : Hp} {a : Addr} {xs : List V} (h : LstAt mu H a xs) : SqL K H a xs := .inl (.inl h.1)

mutual
inductive Rep (K : PySem.W.Frag) (mg : Str → Option Value) (mu : Mu) (H : Hp) : V → D → Prop
  | non : Rep K mg mu H .non .non
  | bl (b : Bool) : Rep K mg mu H (.bl b) (.bl b)
  | int (i : Int) : Rep K mg mu H (.int i) (.int i)
  | str {x : Str} : strGood x → Rep K mg mu H (.str x) (.str x)
  | tup {a : Addr} {vs : List V} {ds : List D} : TupAt K mu H a vs → ds.length ≤ sizeLine → Reps K mg mu H vs ds → Rep K mg mu H (.ref a) (.tup ds)
  | lst {a : Addr} {vs : List V} {ds : List D} : LstAt mu H a vs → ds.length ≤ sizeLine → Reps K mg mu H vs ds → Rep K mg mu H (.ref a) (.lst ds)
  | scr {a : Addr} {vs : List V} {ds : List D} : ScrAt K mu H a vs → ds.length ≤ sizeLine → Reps K mg mu H vs ds → Rep K mg mu H (.ref a) (.scr ds)
  | ref {a : Addr} {n : Nat} : mu.l[n]? = some a → Rep K mg mu H (.ref a) (.ref n)
  | fn {a : Addr} {x : Str} : mg x = some (.ref a) → Rep K mg mu H (.ref a) (.fn x)
  | ty (n : String) : Rep K mg mu H (.ty n) (.ty n)
inductive Reps (K : PySem.W.Frag) (mg : Str → Option Value) (mu : Mu) (H : Hp) : List V → List D → Prop
  | nil : Reps K mg mu H [] []
  | cons {v : V} {vs : List V} {d : D} {ds : List D} : Rep K mg mu H v d → Reps K mg mu H vs ds → Reps K mg mu H (v :: vs) (d :: ds)
end

/-- nothing but, maybe, a table -/
def Fre (H : Hp) (a : Addr) : Prop := ∀ o, H a = some o → ∃ ps, o = .tbl ps
theorem Fre.none {H : Hp} {a : Addr} (h : H a = .none) : Fre H a := fun o e => by rw [h] at e; cases e
/-- what may become of the heap -/
structure Ext (mu : Mu) (H : Hp) (mu' : Mu) (H' : Hp) : Prop where
  pre : ∃ r, mu'.l = mu.l ++ r
  fo : ∀ a ∈ mu'.fo, a ∉ mu.ch → Fre H a
  fo2 : ∀ a ∈ mu.fo, a ∈ mu'.fo
  new : ∀ a ∈ mu'.l, a ∉ mu.l → Fre H a
  keep : ∀ a o, H a = some o → a ∉ mu.l → (∀ ps, o ≠ .tbl ps) → H' a = some o
/-- the tables of code objects, and what their lambdas are called -/
def tabsOf (K : PySem.W.Frag) : List (Addr × Str) := lamDefs.filterMap fun x => (PySem.W.tabIn K x).map fun p => (p.2, x ++ ".<locals>." ++ "<lambda>")

section
variable {K : PySem.W.Frag} {mg : Str → Option Value} {mu mu' mu1 mu2 : Mu} {H H' H1 H2 : Hp}
theorem Mu.not_ch {a : Addr} : a ∉ mu.ch ↔ a ∉ mu.l ∧ a ∉ mu.fo := by simp [Mu.ch]
theorem Ext.refl (mu : Mu) (H : Hp) : Ext mu H mu H := ⟨⟨[], (List.append_nil _).symm⟩, fun a h n => absurd h (Mu.not_ch.mp n).2, fun _ h => h, fun a h n => absurd h n, fun _ _ h _ _ => h⟩
theorem Fre.no {a : Addr} {o : HO} {Z : Prop} (f : Fre H a) (h : H a = some o) (t : ∀ ps, o ≠ .tbl ps) : Z := let ⟨ps, e⟩ := f o h; absurd e (t ps)
theorem Ext.notin (e : Ext mu H mu' H') {a : Addr} {o : HO} (h : H a = some o) (t : ∀ ps, o ≠ .tbl ps) (n : a ∉ mu.l) : a ∉ mu'.l := fun z => (e.new a z n).no h t
theorem Ext.notch (e : Ext mu H mu' H') {a : Addr} {o : HO} (h : H a = some o) (t : ∀ ps, o ≠ .tbl ps) (n : a ∉ mu.ch) : a ∉ mu'.ch := by
  rw [Mu.not_ch]
  exact ⟨e.notin h t (Mu.not_ch.mp n).1, fun z => (e.fo a z n).no h t⟩
theorem Ext.trans (e : Ext mu H mu1 H1) (f : Ext mu1 H1 mu2 H2) : Ext mu H mu2 H2 := by
  have back : ∀ a, a ∉ mu.l → Fre H1 a → Fre H a := fun a n q o w => by
    by_cases t : ∃ ps, o = .tbl ps
    · exact t
    · exact q o (e.keep a o w n fun ps z => t ⟨ps, z⟩)
  refine ⟨?_, fun a h n => ?_, fun a h => f.fo2 a (e.fo2 a h), fun a h n => ?_, fun a o h n t => f.keep a o (e.keep a o h n t) (e.notin h t n) t⟩
  · obtain ⟨r, e1⟩ := e.pre
    obtain ⟨q, e2⟩ := f.pre
    exact ⟨r ++ q, by rw [e2, e1, List.append_assoc]⟩
  · by_cases z : a ∈ mu1.ch
    · rcases List.mem_append.mp z with z | z
      · exact e.new a z (Mu.not_ch.mp n).1
      · exact e.fo a z n
    · exact back a (Mu.not_ch.mp n).1 (f.fo a h z)
  · by_cases z : a ∈ mu1.l
    · exact e.new a z n
    · exact back a n (f.new a h z)
theorem Ext.mem (e : Ext mu H mu' H') {n : Nat} {a : Addr} (h : mu.l[n]? = some a) : mu'.l[n]? = some a := by
  obtain ⟨r, e1⟩ := e.pre
  rw [e1, List.getElem?_append_left (List.getElem?_eq_some_iff.mp h).1]; exact h
/-- what may become of the heap, foreign lists too -/
structure Ext0 (mu : Mu) (H : Hp) (mu' : Mu) (H' : Hp) : Prop where
  pre : ∃ r, mu'.l = mu.l ++ r
  fo : ∀ a ∈ mu'.fo, a ∉ mu.ch → Fre H a
  new : ∀ a ∈ mu'.l, a ∉ mu.ch → Fre H a
  keep : ∀ a o, H a = some o → a ∉ mu.ch → (∀ ps, o ≠ .tbl ps) → H' a = some o
theorem Ext.weak (e : Ext mu H mu' H') : Ext0 mu H mu' H' := ⟨e.pre, e.fo, fun a h n => e.new a h (Mu.not_ch.mp n).1, fun a o h n t => e.keep a o h (Mu.not_ch.mp n).1 t⟩
theorem Ext0.notch (e : Ext0 mu H mu' H') {a : Addr} {o : HO} (h : H a = some o) (t : ∀ ps, o ≠ .tbl ps) (n : a ∉ mu.ch) : a ∉ mu'.ch := by
  rw [Mu.not_ch]
  exact ⟨fun z => (e.new a z n).no h t, fun z => (e.fo a z n).no h t⟩
theorem Ext0.back (e : Ext0 mu H mu1 H1) {a : Addr} (n : a ∉ mu.ch) (q : Fre H1 a) : Fre H a := fun o w => by
  by_cases t : ∃ ps, o = .tbl ps
  · exact t
  · exact q o (e.keep a o w n fun ps z => t ⟨ps, z⟩)
theorem Ext0.trans0 (e : Ext0 mu H mu1 H1) (f : Ext0 mu1 H1 mu2 H2) : Ext0 mu H mu2 H2 := by
  refine ⟨?_, fun a h n => ?_, fun a h n => ?_, fun a o h n t => f.keep a o (e.keep a o h n t) (e.notch h t n) t⟩
  · obtain ⟨r, e1⟩ := e.pre
    obtain ⟨q, e2⟩ := f.pre
    exact ⟨r ++ q, by rw [e2, e1, List.append_assoc]⟩
  · by_cases z : a ∈ mu1.ch
    · rcases List.mem_append.mp z with z | z
      · exact e.new a z n
      · exact e.fo a z n
    · exact e.back n (f.fo a h z)
  · by_cases z : a ∈ mu1.ch
    · rcases List.mem_append.mp z with z | z
      · exact e.new a z n
      · exact e.fo a z n
    · exact e.back n (f.new a h z)
theorem Ext0.mem (e : Ext0 mu H mu' H') {n : Nat} {a : Addr} (h : mu.l[n]? = some a) : mu'.l[n]? = some a := by
  obtain ⟨r, e1⟩ := e.pre
  rw [e1, List.getElem?_append_left (List.getElem?_eq_some_iff.mp h).1]; exact h
theorem TupAt.mono0 (e : Ext0 mu H mu' H') {a : Addr} {xs : List V} (h : TupAt K mu H a xs) : TupAt K mu' H' a xs := by
  rcases h with ⟨h, n⟩ | h
  · exact .inl ⟨e.keep _ _ h n (fun _ z => by cases z), e.notch h (fun _ z => by cases z) n⟩
  · exact .inr h
theorem LstAt.mono0 (e : Ext0 mu H mu' H') {a : Addr} {xs : List V} (h : LstAt mu H a xs) : LstAt mu' H' a xs := ⟨e.keep _ _ h.1 h.2 (fun _ z => by cases z), e.notch h.1 (fun _ z => by cases z) h.2⟩
theorem ScrAt.mono0 (e : Ext0 mu H mu' H') {a : Addr} {xs : List V} (h : ScrAt K mu H a xs) : ScrAt K mu' H' a xs := by
  rcases h with ⟨⟨o, q⟩ | q, n⟩ | h
  · exact .inl ⟨.inl ⟨o, e.keep _ _ q n (fun _ z => by cases z)⟩, e.notch q (fun _ z => by cases z) n⟩
  · exact .inl ⟨.inr (e.keep _ _ q n (fun _ z => by cases z)), e.notch q (fun _ z => by cases z) n⟩
  · exact .inr h
mutual
theorem Rep.mono0 (e : Ext0 mu H mu' H') : ∀ {d : D} {v : V}, Rep K mg mu H v d → Rep K mg mu' H' v d
  | _, _, .non => .non
  | _, _, .bl b => .bl b
  | _, _, .int i => .int i
  | _, _, .str h => .str h
  | _, _, .tup h z r => .tup (h.mono0 e) z (Reps.mono0 e r)
  | _, _, .lst h z r => .lst (h.mono0 e) z (Reps.mono0 e r)
  | _, _, .scr h z r => .scr (h.mono0 e) z (Reps.mono0 e r)
  | _, _, .ref h => .ref (e.mem h)
  | _, _, .fn h => .fn h
  | _, _, .ty n => .ty n
theorem Reps.mono0 (e : Ext0 mu H mu' H') : ∀ {ds : List D} {vs : List V}, Reps K mg mu H vs ds → Reps K mg mu' H' vs ds
  | _, _, .nil => .nil
  | _, _, .cons h r => .cons (Rep.mono0 e h) (Reps.mono0 e r)
end
theorem TupAt.mono (e : Ext mu H mu' H') {a : Addr} {xs : List V} (h : TupAt K mu H a xs) : TupAt K mu' H' a xs := by
  rcases h with ⟨h, n⟩ | h
  · exact .inl ⟨e.keep _ _ h (Mu.not_ch.mp n).1 (fun _ z => by cases z), e.notch h (fun _ z => by cases z) n⟩
  · exact .inr h
theorem LstAt.mono (e : Ext mu H mu' H') {a : Addr} {xs : List V} (h : LstAt mu H a xs) : LstAt mu' H' a xs := ⟨e.keep _ _ h.1 (Mu.not_ch.mp h.2).1 (fun _ z => by cases z), e.notch h.1 (fun _ z => by cases z) h.2⟩
theorem ScrAt.mono (e : Ext mu H mu' H') {a : Addr} {xs : List V} (h : ScrAt K mu H a xs) : ScrAt K mu' H' a xs := by
  rcases h with ⟨⟨o, q⟩ | q, n⟩ | h
  · exact .inl ⟨.inl ⟨o, e.keep _ _ q (Mu.not_ch.mp n).1 (fun _ z => by cases z)⟩, e.notch q (fun _ z => by cases z) n⟩
  · exact .inl ⟨.inr (e.keep _ _ q (Mu.not_ch.mp n).1 (fun _ z => by cases z)), e.notch q (fun _ z => by cases z) n⟩
  · exact .inr h
mutual
theorem Rep.mono (e : Ext mu H mu' H') : ∀ {d : D} {v : V}, Rep K mg mu H v d → Rep K mg mu' H' v d
  | _, _, .non => .non
  | _, _, .bl b => .bl b
  | _, _, .int i => .int i
  | _, _, .str h => .str h
  | _, _, .tup h z r => .tup (h.mono e) z (Reps.mono e r)
  | _, _, .lst h z r => .lst (h.mono e) z (Reps.mono e r)
  | _, _, .scr h z r => .scr (h.mono e) z (Reps.mono e r)
  | _, _, .ref h => .ref (e.mem h)
  | _, _, .fn h => .fn h
  | _, _, .ty n => .ty n
theorem Reps.mono (e : Ext mu H mu' H') : ∀ {ds : List D} {vs : List V}, Reps K mg mu H vs ds → Reps K mg mu' H' vs ds
  | _, _, .nil => .nil
  | _, _, .cons h r => .cons (Rep.mono e h) (Reps.mono e r)
end
theorem Reps.length : ∀ {vs : List V} {ds : List D}, Reps K mg mu H vs ds → vs.length = ds.length
  | _, _, .nil => rfl
  | _, _, .cons _ r => by rw [List.length_cons, List.length_cons, r.length]
theorem Reps.get : ∀ {vs : List V} {ds : List D} {i : Nat} {d : D}, Reps K mg mu H vs ds → ds[i]? = some d → ∃ v, vs[i]? = some v ∧ Rep K mg mu H v d
  | _, _, _, _, .nil, e => by simp at e
  | _, _, 0, _, .cons r _, e => by simp at e; subst e; exact ⟨_, rfl, r⟩
  | _, _, i + 1, d, .cons _ t, e => by
    obtain ⟨u, h1, h2⟩ := Reps.get (i := i) (d := d) t (by simpa using e)
    exact ⟨u, by simpa using h1, h2⟩
theorem Reps.append : ∀ {vs ws : List V} {ds es : List D}, Reps K mg mu H vs ds → Reps K mg mu H ws es → Reps K mg mu H (vs ++ ws) (ds ++ es)
  | _, _, _, _, .nil, s => s
  | _, _, _, _, .cons r t, s => .cons r (Reps.append t s)
theorem Reps.take : ∀ {vs : List V} {ds : List D} (n : Nat), Reps K mg mu H vs ds → Reps K mg mu H (vs.take n) (ds.take n)
  | _, _, 0, _ => .nil
  | _, _, _ + 1, .nil => .nil
  | _, _, n + 1, .cons r t => .cons r (Reps.take n t)
theorem Reps.drop : ∀ {vs : List V} {ds : List D} (n : Nat), Reps K mg mu H vs ds → Reps K mg mu H (vs.drop n) (ds.drop n)
  | _, _, 0, r => r
  | _, _, _ + 1, .nil => .nil
  | _, _, n + 1, .cons _ t => Reps.drop n t
theorem Reps.set {v : V} {d : D} (q : Rep K mg mu H v d) : ∀ {vs : List V} {ds : List D} (n : Nat), Reps K mg mu H vs ds → Reps K mg mu H (vs.set n v) (ds.set n d)
  | _, _, _, .nil => .nil
  | _, _, 0, .cons _ t => .cons q t
  | _, _, n + 1, .cons r t => .cons r (Reps.set q n t)
theorem Reps.rep {vs : List V} {ds : List D} (h : Reps K mg mu H vs ds) : ∀ k : Nat, Reps K mg mu H (List.replicate k vs).flatten (List.replicate k ds).flatten
  | 0 => .nil
  | k + 1 => by
    rw [List.replicate_succ, List.replicate_succ, List.flatten_cons, List.flatten_cons]
    exact h.append (Reps.rep h k)
theorem Reps.signs {x : Str} (h : strGood x) : Reps K mg mu H (x.cps.toList.map fun c => V.str ⟨#[c]⟩) (signs x) := by
  have h2 : ∀ c ∈ x.cps.toList, c < 0x110000 := by
    have q := h.2
    unfold PySem.PyData.strOk at q
    intro c hc
    rw [Array.all_eq_true_iff_forall_mem] at q
    simpa using q c (by simpa using hc)
  unfold CP.signs
  generalize x.cps.toList = l at h2
  induction l with
  | nil => exact .nil
  | cons c r ih =>
    refine .cons (.str ⟨?_, ?_⟩) (ih fun d hd => h2 d (List.mem_cons_of_mem _ hd))
    · show 1 ≤ sizeLine; decide
    · have := h2 c (List.mem_cons_self)
      unfold PySem.PyData.strOk
      simp [this]

theorem nodup_ixA {N : List Addr} (hN : N.Nodup) {i j : Nat} {x : Addr} (a : N[i]? = some x) (b : N[j]? = some x) : i = j := by
  obtain ⟨h1, e1⟩ := List.getElem?_eq_some_iff.mp a
  obtain ⟨h2, e2⟩ := List.getElem?_eq_some_iff.mp b
  exact (List.getElem_inj hN).mp (e1.trans e2.symm)
/-- the texts among some keys are good -/
def KGood (ks : List Key) : Prop := ∀ k ∈ ks, ∀ x, k = .inr x → strGood x
/-- what stands at a thing that changes -/
def ObAt (K : PySem.W.Frag) (mg : Str → Option Value) (mu : Mu) (H : Hp) (a : Addr) : Ob → Prop
  | .lst ds => ∃ vs, H a = some (.lst vs) ∧ ds.length ≤ sizeLine ∧ Reps K mg mu H vs ds
  | .dct ks ds => ∃ vs, H a = some (.dK (ks.zip vs)) ∧ ks.length ≤ sizeLine ∧ (ks.length = ds.length ∧ KGood ks) ∧ Reps K mg mu H vs ds
  | .ins c fs ds => ∃ C dx vs, mg c = some (.ref C) ∧ H a = some (.ins C dx (fs.zip vs)) ∧ fs.length = ds.length ∧ Reps K mg mu H vs ds
structure Sim (K : PySem.W.Frag) (mg : Str → Option Value) (mu : Mu) (st : So) (H : Hp) : Prop where
  len : mu.l.length = st.length
  nd : mu.l.Nodup
  ob : ∀ (n : Nat) (a : Addr) (o : Ob), mu.l[n]? = some a → st[n]? = some o → ObAt K mg mu H a o
  fo : ∀ a ∈ mu.fo, (∃ xs, H a = some (.lst xs)) ∧ a ∉ mu.l
  tb : LamX.Tabs (tabsOf K) H
/-- neither a table nor a code object -/
def Pln (u : HO) : Prop := (∀ ps, u ≠ .tbl ps) ∧ ∀ c q, u ≠ LamX.CodeO c q
theorem codeO_eq {c : Addr} {q : Str} : ∃ phi, LamX.CodeO c q = .ext phi := ⟨_, rfl⟩
theorem Pln.lst (xs : List V) : Pln (.lst xs) := ⟨fun _ z => (by cases z), fun c q z => by obtain ⟨phi, e⟩ := codeO_eq (c := c) (q := q); rw [e] at z; cases z⟩
theorem Pln.dK (xs : List (Key × V)) : Pln (.dK xs) := ⟨fun _ z => (by cases z), fun c q z => by obtain ⟨phi, e⟩ := codeO_eq (c := c) (q := q); rw [e] at z; cases z⟩
theorem Pln.ins (C : Addr) (dx : Addr) (xs : List (Str × V)) : Pln (.ins C dx xs) := ⟨fun _ z => (by cases z), fun c q z => by obtain ⟨phi, e⟩ := codeO_eq (c := c) (q := q); rw [e] at z; cases z⟩
theorem ObAt.some {a : Addr} {o : Ob} (h : ObAt K mg mu H a o) : ∃ u, H a = some u ∧ Pln u := by
  cases o with
  | lst ds => obtain ⟨vs, h, _⟩ := h; exact ⟨_, h, .lst _⟩
  | dct ks ds => obtain ⟨vs, h, _⟩ := h; exact ⟨_, h, .dK _⟩
  | ins c fs ds => obtain ⟨C, dx, vs, _, h, _⟩ := h; exact ⟨_, h, .ins _ _ _⟩
/-- the tables where a plain thing is written -/
theorem tabs_upd {T : List (Addr × Str)} {a : Addr} {o u : HO} (t : LamX.Tabs T H) (h : H a = Option.some u) (hp : Pln u) : LamX.Tabs T (upd H a o) := fun p hp' => by
  obtain ⟨ps, h1, h2, h3⟩ := t p hp'
  have n1 : p.1 ≠ a := fun z => by
    rw [z, h] at h1; cases h1; exact hp.1 ps rfl
  refine ⟨ps, by rw [upd_ne n1]; exact h1, h2, fun pos cv hc => ?_⟩
  obtain ⟨c, e1, e2⟩ := h3 pos cv hc
  have n2 : c ≠ a := fun z => by
    rw [z, h] at e2
    exact hp.2 _ _ (Option.some.inj e2)
  exact ⟨c, e1, by rw [upd_ne n2]; exact e2⟩
theorem tabs_new {T : List (Addr × Str)} {a : Addr} {o : HO} (t : LamX.Tabs T H) (h : H a = none) : LamX.Tabs T (upd H a o) := t.ext fun b u e => by rw [upd_ne (ne_of_none e h)]; exact e
theorem Sim.nel {st : So} (S : Sim K mg mu st H) {p : Addr} (hp : H p = none) : p ∉ mu.l := fun hm => by
  obtain ⟨n, hn⟩ := List.getElem?_of_mem hm
  have hlt : n < st.length := by rw [← S.len]; exact (List.getElem?_eq_some_iff.mp hn).1
  obtain ⟨u, hu, _⟩ := (S.ob n p _ hn (List.getElem?_eq_getElem hlt)).some
  rw [hp] at hu; cases hu
theorem Sim.pln {st : So} (S : Sim K mg mu st H) {n : Nat} {a : Addr} (hn : mu.l[n]? = some a) : ∃ u, H a = some u ∧ Pln u := by
  have hlt : n < st.length := by rw [← S.len]; exact (List.getElem?_eq_some_iff.mp hn).1
  exact (S.ob n a _ hn (List.getElem?_eq_getElem hlt)).some
theorem Sim.ne {st : So} (S : Sim K mg mu st H) {p : Addr} (hp : H p = none) : p ∉ mu.ch := by
  rw [Mu.not_ch]
  refine ⟨S.nel hp, fun z => ?_⟩
  obtain ⟨⟨o, ho⟩, _⟩ := S.fo p z
  rw [hp] at ho; cases ho
/-- the objects stay -/
theorem ObAt.mono (e : Ext mu H mu' H') {a : Addr} {o : Ob} (h : ObAt K mg mu H a o) (k : ∀ u, H a = Option.some u → H' a = Option.some u) : ObAt K mg mu' H' a o := by
  cases o with
  | lst ds => obtain ⟨vs, h, z, r⟩ := h; exact ⟨vs, k _ h, z, r.mono e⟩
  | dct ks ds => obtain ⟨vs, h, z, y, r⟩ := h; exact ⟨vs, k _ h, z, y, r.mono e⟩
  | ins c fs ds => obtain ⟨C, dx, vs, g, h, z, r⟩ := h; exact ⟨C, dx, vs, g, k _ h, z, r.mono e⟩
theorem ObAt.mono' (e : Ext mu H mu' H') {a : Addr} {o : Ob} (h : ObAt K mg mu H a o) (k : ∀ u, H a = Option.some u → Pln u → H' a = Option.some u) : ObAt K mg mu' H' a o := by
  cases o with
  | lst ds => obtain ⟨vs, h, z, r⟩ := h; exact ⟨vs, k _ h (.lst _), z, r.mono e⟩
  | dct ks ds => obtain ⟨vs, h, z, y, r⟩ := h; exact ⟨vs, k _ h (.dK _), z, y, r.mono e⟩
  | ins c fs ds => obtain ⟨C, dx, vs, g, h, z, r⟩ := h; exact ⟨C, dx, vs, g, k _ h (.ins _ _ _), z, r.mono e⟩
/-- a new thing that never changes -/
theorem ext_new {st : So} (S : Sim K mg mu st H) {p : Addr} {o : HO} (hp : H p = none) : Ext mu H mu (upd H p o) :=
  ⟨⟨[], (List.append_nil _).symm⟩, fun a h n => absurd h (Mu.not_ch.mp n).2, fun _ h => h, fun a h n => absurd h n, fun a u h n _ => by rw [upd_ne (ne_of_none h hp)]; exact h⟩
theorem Sim.new {st : So} (S : Sim K mg mu st H) {p : Addr} {o : HO} (hp : H p = none) : Sim K mg mu st (upd H p o) :=
  ⟨S.len, S.nd, fun n a u h1 h2 => (S.ob n a u h1 h2).mono (ext_new S hp) fun w hw => by rw [upd_ne (ne_of_none hw hp)]; exact hw,
    fun a ha => let ⟨⟨u, hu⟩, n⟩ := S.fo a ha; ⟨⟨u, by rw [upd_ne (ne_of_none hu hp)]; exact hu⟩, n⟩, tabs_new S.tb hp⟩
/-- a new thing that may change -/
theorem ext_mut {st : So} (S : Sim K mg mu st H) {p : Addr} {o : HO} (hp : H p = none) : Ext mu H (mu.add p) (upd H p o) := by
  refine ⟨⟨[p], rfl⟩, fun a h n => absurd h (Mu.not_ch.mp n).2, fun _ h => h, fun a h n => ?_, fun a u h n _ => by rw [upd_ne (ne_of_none h hp)]; exact h⟩
  rcases List.mem_append.mp h with h | h
  · exact absurd h n
  · have e : a = p := by simpa using h
    rw [e]; exact .none hp
theorem Sim.mut {st : So} (S : Sim K mg mu st H) {p : Addr} {vs : List V} {ds : List D} (hp : H p = none) (hz : ds.length ≤ sizeLine) (r : Reps K mg mu H vs ds) : Sim K mg (mu.add p) (st ++ [.lst ds]) (upd H p (.lst vs)) := by
  have E : Ext mu H (mu.add p) (upd H p (.lst vs)) := ext_mut S hp
  refine ⟨by simp [Mu.add, S.len], ?_, fun n a u h1 h2 => ?_, fun a ha => ?_, tabs_new S.tb hp⟩
  · unfold Mu.add
    rw [List.nodup_append]
    refine ⟨S.nd, by simp, fun a ha b hb z => S.nel hp ?_⟩
    have e : b = p := by simpa using hb
    rw [← e, ← z]
    exact ha
  · unfold Mu.add at h1
    by_cases hn : n < mu.l.length
    · rw [List.getElem?_append_left hn] at h1
      rw [List.getElem?_append_left (by rw [← S.len]; exact hn)] at h2
      exact (S.ob n a u h1 h2).mono E fun w hw => by rw [upd_ne (ne_of_none hw hp)]; exact hw
    · have e : n = mu.l.length := by
        have := (List.getElem?_eq_some_iff.mp h1).1
        simp at this; omega
      subst e
      rw [List.getElem?_concat_length] at h1
      rw [S.len, List.getElem?_concat_length] at h2
      cases h1; cases h2
      exact ⟨vs, upd_same, hz, r.mono E⟩
  · obtain ⟨⟨u, hu⟩, n⟩ := S.fo a ha
    refine ⟨⟨u, by rw [upd_ne (ne_of_none hu hp)]; exact hu⟩, fun z => ?_⟩
    rcases List.mem_append.mp z with z | z
    · exact n z
    · have e : a = p := by simpa using z
      rw [e, hp] at hu; cases hu
/-- a thing changed -/
theorem ext_set {st : So} (S : Sim K mg mu st H) {n : Nat} {a : Addr} {o : HO} (ha : mu.l[n]? = some a) : Ext mu H mu (upd H a o) :=
  ⟨⟨[], (List.append_nil _).symm⟩, fun a h n => absurd h (Mu.not_ch.mp n).2, fun _ h => h, fun a h n => absurd h n, fun b u h nb _ => by
    rw [upd_ne fun z => nb (by rw [z]; exact List.mem_of_getElem? ha)]; exact h⟩
theorem Sim.set {st : So} (S : Sim K mg mu st H) {n : Nat} {a : Addr} {vs : List V} {ds : List D} (ha : mu.l[n]? = some a) (hz : ds.length ≤ sizeLine) (r : Reps K mg mu H vs ds) : Sim K mg mu (st.set n (.lst ds)) (upd H a (.lst vs)) := by
  have E : Ext mu H mu (upd H a (.lst vs)) := ext_set S ha
  obtain ⟨ua, hua, hpa⟩ := S.pln ha
  refine ⟨by simp [S.len], S.nd, fun m b u h1 h2 => ?_, fun b hb => ?_, tabs_upd S.tb hua hpa⟩
  · by_cases hm : m = n
    · subst hm
      rw [ha] at h1; cases h1
      have hlt : m < st.length := by rw [← S.len]; exact (List.getElem?_eq_some_iff.mp ha).1
      rw [List.getElem?_set_self hlt] at h2; cases h2
      exact ⟨vs, upd_same, hz, r.mono E⟩
    · rw [List.getElem?_set_ne (Ne.symm hm)] at h2
      have hb : b ≠ a := fun z => hm (nodup_ixA S.nd h1 (by rw [z]; exact ha))
      exact (S.ob m b u h1 h2).mono E fun w hw => by rw [upd_ne hb]; exact hw
  · obtain ⟨⟨u, hu⟩, nb⟩ := S.fo b hb
    exact ⟨⟨u, by rw [upd_ne fun z => nb (by rw [z]; exact List.mem_of_getElem? ha)]; exact hu⟩, nb⟩

/-! ### a list in the making -/
def Mu.push (mu : Mu) (p : Addr) : Mu := ⟨mu.l, p :: mu.fo⟩
def Mu.drop (mu : Mu) (p : Addr) : Mu := ⟨mu.l, mu.fo.filter fun a => decide (a ≠ p)⟩
theorem ext_push {p : Addr} {o : HO} (hp : H p = none) : Ext mu H (mu.push p) (upd H p o) := by
  refine ⟨⟨[], (List.append_nil _).symm⟩, fun a h n => ?_, fun a h => List.mem_cons_of_mem _ h, fun a h n => absurd h n, fun a u h n _ => by rw [upd_ne (ne_of_none h hp)]; exact h⟩
  rcases List.mem_cons.mp h with e | h
  · rw [e]; exact .none hp
  · exact absurd h (Mu.not_ch.mp n).2
theorem Sim.push {st : So} (S : Sim K mg mu st H) {p : Addr} {xs : List V} (hp : H p = none) : Sim K mg (mu.push p) st (upd H p (.lst xs)) := by
  refine ⟨S.len, S.nd, fun n a u h1 h2 => (S.ob n a u h1 h2).mono (ext_push hp) fun w hw => by rw [upd_ne (ne_of_none hw hp)]; exact hw, fun a ha => ?_, tabs_new S.tb hp⟩
  rcases List.mem_cons.mp ha with e | ha
  · subst e
    exact ⟨⟨xs, upd_same⟩, S.nel hp⟩
  · obtain ⟨⟨u, hu⟩, n⟩ := S.fo a ha
    exact ⟨⟨u, by rw [upd_ne (ne_of_none hu hp)]; exact hu⟩, n⟩
mutual
theorem Rep.at_fo {p : Addr} {o : HO} (hp : p ∈ mu.fo) : ∀ {d : D} {v : V}, Rep K mg mu H v d → Rep K mg mu (upd H p o) v d
  | _, _, .non => .non
  | _, _, .bl b => .bl b
  | _, _, .int i => .int i
  | _, _, .str h => .str h
  | _, _, .tup h z r => .tup (by
      rcases h with ⟨h, n⟩ | h
      · exact .inl ⟨by rw [upd_ne fun e => (Mu.not_ch.mp n).2 (by rw [e]; exact hp)]; exact h, n⟩
      · exact .inr h) z (Reps.at_fo hp r)
  | _, _, .lst h z r => .lst ⟨by rw [upd_ne fun e => (Mu.not_ch.mp h.2).2 (by rw [e]; exact hp)]; exact h.1, h.2⟩ z (Reps.at_fo hp r)
  | _, _, .scr h z r => .scr (by
      rcases h with ⟨h, n⟩ | h
      · exact .inl ⟨by rw [upd_ne fun e => (Mu.not_ch.mp n).2 (by rw [e]; exact hp)]; exact h, n⟩
      · exact .inr h) z (Reps.at_fo hp r)
  | _, _, .ref h => .ref h
  | _, _, .fn h => .fn h
  | _, _, .ty n => .ty n
theorem Reps.at_fo {p : Addr} {o : HO} (hp : p ∈ mu.fo) : ∀ {ds : List D} {vs : List V}, Reps K mg mu H vs ds → Reps K mg mu (upd H p o) vs ds
  | _, _, .nil => .nil
  | _, _, .cons h r => .cons (Rep.at_fo hp h) (Reps.at_fo hp r)
end
theorem Sim.at_fo {st : So} (S : Sim K mg mu st H) {p : Addr} {xs : List V} (hp : p ∈ mu.fo) : Sim K mg mu st (upd H p (.lst xs)) := by
  have hn := (S.fo p hp).2
  obtain ⟨xs0, hx0⟩ := (S.fo p hp).1
  refine ⟨S.len, S.nd, fun n a u h1 h2 => ?_, fun a ha => ?_, tabs_upd S.tb hx0 (.lst _)⟩
  · have ne : a ≠ p := fun e => hn (by rw [← e]; exact List.mem_of_getElem? h1)
    have q := S.ob n a u h1 h2
    cases u with
    | lst ds => obtain ⟨vs, h, z, r⟩ := q; exact ⟨vs, by rw [upd_ne ne]; exact h, z, r.at_fo hp⟩
    | dct ks ds => obtain ⟨vs, h, z, y, r⟩ := q; exact ⟨vs, by rw [upd_ne ne]; exact h, z, y, r.at_fo hp⟩
    | ins c fs ds => obtain ⟨C, dx, vs, g, h, z, r⟩ := q; exact ⟨C, dx, vs, g, by rw [upd_ne ne]; exact h, z, r.at_fo hp⟩
  · by_cases e : a = p
    · subst e; exact ⟨⟨xs, upd_same⟩, hn⟩
    · obtain ⟨⟨u, hu⟩, n⟩ := S.fo a ha
      exact ⟨⟨u, by rw [upd_ne e]; exact hu⟩, n⟩
theorem Mu.drop_ch {p a : Addr} (h : a ∉ mu.ch) : a ∉ (mu.drop p).ch := by
  rw [Mu.not_ch] at h ⊢
  exact ⟨h.1, fun z => h.2 (List.mem_filter.mp z).1⟩
mutual
theorem Rep.drop {p : Addr} : ∀ {d : D} {v : V}, Rep K mg mu H v d → Rep K mg (mu.drop p) H v d
  | _, _, .non => .non
  | _, _, .bl b => .bl b
  | _, _, .int i => .int i
  | _, _, .str h => .str h
  | _, _, .tup h z r => .tup (by
      rcases h with ⟨h, n⟩ | h
      · exact .inl ⟨h, Mu.drop_ch n⟩
      · exact .inr h) z (Reps.dropFo r)
  | _, _, .lst h z r => .lst ⟨h.1, Mu.drop_ch h.2⟩ z (Reps.dropFo r)
  | _, _, .scr h z r => .scr (by
      rcases h with ⟨h, n⟩ | h
      · exact .inl ⟨h, Mu.drop_ch n⟩
      · exact .inr h) z (Reps.dropFo r)
  | _, _, .ref h => .ref h
  | _, _, .fn h => .fn h
  | _, _, .ty n => .ty n
theorem Reps.dropFo {p : Addr} : ∀ {ds : List D} {vs : List V}, Reps K mg mu H vs ds → Reps K mg (mu.drop p) H vs ds
  | _, _, .nil => .nil
  | _, _, .cons h r => .cons (Rep.drop h) (Reps.dropFo r)
end
theorem Sim.dropFo {st : So} (S : Sim K mg mu st H) (p : Addr) : Sim K mg (mu.drop p) st H := by
  refine ⟨S.len, S.nd, fun n a u h1 h2 => ?_, fun a ha => S.fo a (List.mem_filter.mp ha).1, S.tb⟩
  have q := S.ob n a u h1 h2
  cases u with
  | lst ds => obtain ⟨vs, h, z, r⟩ := q; exact ⟨vs, h, z, r.dropFo⟩
  | dct ks ds => obtain ⟨vs, h, z, y, r⟩ := q; exact ⟨vs, h, z, y, r.dropFo⟩
  | ins c fs ds => obtain ⟨C, dx, vs, g, h, z, r⟩ := q; exact ⟨C, dx, vs, g, h, z, r.dropFo⟩

/-- the names -/
structure RepL (K : PySem.W.Frag) (mg : Str → Option Value) (mu : Mu) (H : Hp) (s : L2.St) (l : Lo) : Prop where
  len : s.length = l.length
  at' : ∀ (i : Nat) (d : D), l[i]? = some (some d) → ∃ v, s[i]? = some (some v) ∧ Rep K mg mu H v d
theorem RepL.mono (e : Ext mu H mu' H') {s : L2.St} {l : Lo} (h : RepL K mg mu H s l) : RepL K mg mu' H' s l :=
  ⟨h.len, fun i d q => let ⟨v, a, b⟩ := h.at' i d q; ⟨v, a, b.mono e⟩⟩
theorem RepL.mono0 (e : Ext0 mu H mu' H') {s : L2.St} {l : Lo} (h : RepL K mg mu H s l) : RepL K mg mu' H' s l :=
  ⟨h.len, fun i d q => let ⟨v, a, b⟩ := h.at' i d q; ⟨v, a, b.mono0 e⟩⟩
theorem RepL.set {s : L2.St} {l : Lo} (h : RepL K mg mu H s l) (i : Nat) {v : V} {d : D} (r : Rep K mg mu H v d) : RepL K mg mu H (s.set i (some v)) (l.set i (some d)) := by
  refine ⟨by simp [h.len], fun j e q => ?_⟩
  by_cases hj : i = j
  · subst hj
    by_cases hl : i < l.length
    · rw [List.getElem?_set_self hl] at q
      cases q
      exact ⟨v, List.getElem?_set_self (by rw [h.len]; exact hl), r⟩
    · rw [List.getElem?_eq_none (by simpa using hl)] at q; cases q
  · rw [List.getElem?_set_ne hj] at q
    rw [List.getElem?_set_ne hj]
    exact h.at' j e q
theorem RepL.unset {s : L2.St} {l : Lo} (h : RepL K mg mu H s l) (i : Nat) : RepL K mg mu H (s.set i none) (l.set i none) := by
  refine ⟨by simp [h.len], fun j e q => ?_⟩
  by_cases hj : i = j
  · subst hj
    by_cases hl : i < l.length
    · rw [List.getElem?_set_self hl] at q; cases q
    · rw [List.getElem?_eq_none (by simpa using hl)] at q; cases q
  · rw [List.getElem?_set_ne hj] at q
    rw [List.getElem?_set_ne hj]
    exact h.at' j e q
theorem RepL.wipe {s : L2.St} {l : Lo} (h : RepL K mg mu H s l) : ∀ vs : List Nat, RepL K mg mu H (wipe s vs) (wipeD l vs)
  | [] => h
  | v :: vs => (RepL.wipe h vs).unset v
end

/-! ### what is wanted of a result -/
section
variable (K : PySem.W.Frag) (mg : Str → Option Value) (W : WX) (s : L2.St)
def Fin {α β : Type} (rel : Mu → Hp → β → α → Prop) (mu : Mu) (H : Hp) (r : R α) (Q : β → Hp → Prop) : Prop := match r with
  | .ok a st => ∀ mu' H' b, Ext mu H mu' H' → Sim K mg mu' st H' → rel mu' H' b a → Q b H'
  | .exc c p st => p = .non ∧ ∀ mu' H' C, Ext mu H mu' H' → Sim K mg mu' st H' → mg c = some (.ref C) → W (.ref C) none s H'
  | .bad => False
abbrev relE (K : PySem.W.Frag) (mg : Str → Option Value) : Mu → Hp → V → D → Prop := fun mu H v d => Rep K mg mu H v d
abbrev relA (K : PySem.W.Frag) (mg : Str → Option Value) : Mu → Hp → List V → List D → Prop := fun mu H v d => Reps K mg mu H v d
abbrev relT : Mu → Hp → Bool → Bool → Prop := fun _ _ a b => a = b
abbrev relO : Mu → Hp → Option Int → Option Int → Prop := fun _ _ a b => a = b
def tG {α β : Type} (rel : Mu → Hp → β → α → Prop) (m : Lo → So → R α) : L2.St → Hp → (β → Hp → Prop) → Prop := fun s H Q =>
  ∃ l st mu, RepL K mg mu H s l ∧ Sim K mg mu st H ∧ Fin K mg W s rel mu H (m l st) Q
def tE (m : Lo → So → R D) : TE := tG K mg W (relE K mg) m
def tA (m : Lo → So → R (List D)) : TA := tG K mg W (relA K mg) m
def tT (m : Lo → So → R Bool) : TT := tG K mg W relT m
def tO (m : Lo → So → R (Option Int)) : TO := tG K mg W relO m
end
section
variable {K : PySem.W.Frag} {mg : Str → Option Value} {W : WX} {s : L2.St} {mu mu' : Mu} {H H' : Hp} {α β γ δ : Type} {rel : Mu → Hp → β → α → Prop} {rel2 : Mu → Hp → δ → γ → Prop}
theorem Fin.mono {r : R α} {Q Q' : β → Hp → Prop} (h : Fin K mg W s rel mu H r Q) (q : ∀ b H, Q b H → Q' b H) : Fin K mg W s rel mu H r Q' := by
  cases r with
  | ok a st => exact fun mu' H' b e S r => q _ _ (h mu' H' b e S r)
  | exc c p st => exact h
  | bad => exact h
theorem Fin.ext {r : R α} {Q : β → Hp → Prop} (h : Fin K mg W s rel mu H r Q) (e : Ext mu H mu' H') : Fin K mg W s rel mu' H' r Q := by
  cases r with
  | ok a st => exact fun mu2 H2 b f S r => h mu2 H2 b (e.trans f) S r
  | exc c p st => exact ⟨h.1, fun mu2 H2 C f S g => h.2 mu2 H2 C (e.trans f) S g⟩
  | bad => exact h
/-- first r, then f: what r's reading is to reach -/
theorem Fin.bind {r : R α} {f : α → So → R γ} {Q : δ → Hp → Prop} (h : Fin K mg W s rel2 mu H (r.bind f) Q) :
    Fin K mg W s rel mu H r (fun b H1 => ∃ mu1 a st1, Ext mu H mu1 H1 ∧ Sim K mg mu1 st1 H1 ∧ rel mu1 H1 b a ∧ r = .ok a st1 ∧ Fin K mg W s rel2 mu1 H1 (f a st1) Q) := by
  cases r with
  | ok a st => exact fun mu1 H1 b e S q => ⟨mu1, a, st, e, S, q, rfl, Fin.ext h e⟩
  | exc c p st => exact h
  | bad => exact h
end
end CP

set_option Elab.async false
set_option linter.all false
set_option maxRecDepth 100000
set_option autoImplicit false
/-! CpDict: keys and what stands at them. -/
namespace CP
open PySem PySem.Spec PyProof.Rows L2
section
variable {K : PySem.W.Frag} {mg : Str → Option Value} {mu : Mu} {H : Hp}
theorem dget_rep : ∀ {ks : List Key} {ds : List D} {vs : List V} {k : Key} {d : D}, Reps K mg mu H vs ds → dgetD ks ds k = some d → ∃ v, valV (ks.zip vs) k = some v ∧ Rep K mg mu H v d
  | [], _, _, _, _, _, h => by simp [dgetD] at h
  | _ :: _, [], _, _, _, _, h => by simp [dgetD] at h
  | k' :: ks, d' :: ds, _, k, d, .cons r rs, h => by
    unfold dgetD at h
    by_cases e : k' = k
    · rw [if_pos e] at h
      cases h
      exact ⟨_, valV_pos (p := (k', _)) e, r⟩
    · rw [if_neg e] at h
      obtain ⟨v, h1, h2⟩ := dget_rep rs h
      exact ⟨v, by rw [List.zip_cons_cons]; exact (valV_neg (p := (k', _)) e).trans h1, h2⟩
theorem dget_none : ∀ {ks : List Key} {ds : List D} {vs : List V} {k : Key}, Reps K mg mu H vs ds → ks.length = ds.length → dgetD ks ds k = none → valV (ks.zip vs) k = none
  | [], [], _, _, .nil, _, _ => rfl
  | k' :: ks, d' :: ds, _, k, .cons r rs, hl, h => by
    unfold dgetD at h
    by_cases e : k' = k
    · rw [if_pos e] at h; cases h
    · rw [if_neg e] at h
      rw [List.zip_cons_cons]
      exact (valV_neg (p := (k', _)) e).trans (dget_none rs (by simpa using hl) h)
theorem dset_rep {v : V} {d : D} (q : Rep K mg mu H v d) : ∀ {ks : List Key} {ds : List D} {vs : List V} {k : Key}, Reps K mg mu H vs ds → ks.length = ds.length →
    ∃ ws, (ks.zip vs).map (fun kv => if kv.1 = k then (kv.1, v) else kv) = ks.zip ws ∧ Reps K mg mu H ws (dsetD ks ds k d)
  | [], [], _, _, .nil, _ => ⟨[], rfl, .nil⟩
  | k' :: ks, d' :: ds, _, k, .cons r rs, hl => by
    obtain ⟨ws, h1, h2⟩ := dset_rep q (k := k) rs (by simpa using hl)
    rename_i u us
    by_cases e : k' = k
    · refine ⟨v :: ws, ?_, ?_⟩
      · rw [List.zip_cons_cons, List.map_cons, h1, List.zip_cons_cons]
        simp [e]
      · unfold dsetD
        rw [if_pos e]
        exact .cons q h2
    · refine ⟨u :: ws, ?_, ?_⟩
      · rw [List.zip_cons_cons, List.map_cons, h1, List.zip_cons_cons]
        simp [e]
      · unfold dsetD
        rw [if_neg e]
        exact .cons r h2
theorem dset_len : ∀ (ks : List Key) (ds : List D) (k : Key) (d : D), (dsetD ks ds k d).length = ds.length
  | [], _, _, _ => rfl
  | _ :: _, [], _, _ => rfl
  | _ :: ks, _ :: ds, k, d => by simp [dsetD, dset_len ks ds k d]
theorem Sim.mutO {st : So} {p : Addr} {o : HO} {ob : Ob} (S : Sim K mg mu st H) (hp : H p = none) (hob : ObAt K mg (mu.add p) (upd H p o) p ob) : Sim K mg (mu.add p) (st ++ [ob]) (upd H p o) := by
  have E : Ext mu H (mu.add p) (upd H p o) := ext_mut S hp
  refine ⟨by simp [Mu.add, S.len], ?_, fun n a u h1 h2 => ?_, fun a ha => ?_, tabs_new S.tb hp⟩
  · unfold Mu.add
    rw [List.nodup_append]
    refine ⟨S.nd, by simp, fun a ha b hb z => S.nel hp ?_⟩
    have e : b = p := by simpa using hb
    rw [← e, ← z]
    exact ha
  · unfold Mu.add at h1
    by_cases hn : n < mu.l.length
    · rw [List.getElem?_append_left hn] at h1
      rw [List.getElem?_append_left (by rw [← S.len]; exact hn)] at h2
      exact (S.ob n a u h1 h2).mono E fun w hw => by rw [upd_ne (ne_of_none hw hp)]; exact hw
    · have e : n = mu.l.length := by
        have := (List.getElem?_eq_some_iff.mp h1).1
        simp at this; omega
      subst e
      rw [List.getElem?_concat_length] at h1
      rw [S.len, List.getElem?_concat_length] at h2
      cases h1; cases h2
      exact hob
  · obtain ⟨⟨u, hu⟩, n⟩ := S.fo a ha
    refine ⟨⟨u, by rw [upd_ne (ne_of_none hu hp)]; exact hu⟩, fun z => ?_⟩
    rcases List.mem_append.mp z with z | z
    · exact n z
    · have e : a = p := by simpa using z
      rw [e, hp] at hu; cases hu
theorem Sim.setO {st : So} {n : Nat} {a : Addr} {o : HO} {ob : Ob} (S : Sim K mg mu st H) (ha : mu.l[n]? = some a) (hob : ObAt K mg mu (upd H a o) a ob) : Sim K mg mu (st.set n ob) (upd H a o) := by
  have E : Ext mu H mu (upd H a o) := ext_set S ha
  obtain ⟨ua, hua, hpa⟩ := S.pln ha
  refine ⟨by simp [S.len], S.nd, fun m b u h1 h2 => ?_, fun b hb => ?_, tabs_upd S.tb hua hpa⟩
  · by_cases hm : m = n
    · subst hm
      rw [ha] at h1; cases h1
      have hlt : m < st.length := by rw [← S.len]; exact (List.getElem?_eq_some_iff.mp ha).1
      rw [List.getElem?_set_self hlt] at h2; cases h2
      exact hob
    · rw [List.getElem?_set_ne (Ne.symm hm)] at h2
      have hb : b ≠ a := fun z => hm (nodup_ixA S.nd h1 (by rw [z]; exact ha))
      exact (S.ob m b u h1 h2).mono E fun w hw => by rw [upd_ne hb]; exact hw
  · obtain ⟨⟨u, hu⟩, nb⟩ := S.fo b hb
    exact ⟨⟨u, by rw [upd_ne fun z => nb (by rw [z]; exact List.mem_of_getElem? ha)]; exact hu⟩, nb⟩
theorem dput_rep {a : Addr} {ks : List Key} {ds : List D} {vs : List V} {k : Key} {v : V} {d : D} {st : So} {n : Nat} (S : Sim K mg mu st H) (hn : mu.l[n]? = some a) (hl : ks.length = ds.length ∧ KGood ks) (hk : ∀ x, k = .inr x → strGood x) (hz : ks.length < sizeLine) (r : Reps K mg mu H vs ds) (q : Rep K mg mu H v d) :
    ObAt K mg mu (upd H a (.dK (putK (ks.zip vs) k v))) a (dputD ks ds k d) := by
  have E : Ext mu H mu (upd H a (.dK (putK (ks.zip vs) k v))) := ext_set S hn
  unfold dputD putK
  cases e : dgetD ks ds k with
  | some d' =>
    obtain ⟨v', h1, _⟩ := dget_rep r e
    rw [valV_any, h1, if_pos (show (some v').isSome = true from rfl)]
    obtain ⟨ws, w1, w2⟩ := dset_rep (k := k) q r hl.1
    rw [w1]
    have E2 : Ext mu H mu (upd H a (.dK (ks.zip ws))) := ext_set S hn
    exact ⟨ws, upd_same, by omega, ⟨by rw [dset_len]; exact hl.1, hl.2⟩, w2.mono E2⟩
  | none =>
    rw [valV_any, dget_none r hl.1 e, if_neg (show ¬ (none : Option V).isSome = true by simp)]
    have ez : ks.zip vs ++ [(k, v)] = (ks ++ [k]).zip (vs ++ [v]) := by
      rw [List.zip_append (by rw [r.length]; exact hl.1)]
      rfl
    rw [ez]
    have E2 : Ext mu H mu (upd H a (.dK ((ks ++ [k]).zip (vs ++ [v])))) := ext_set S hn
    exact ⟨vs ++ [v], upd_same, by simp; omega, ⟨by simp [hl.1], fun k' hk' x e => by
      rcases List.mem_append.mp hk' with z | z
      · exact hl.2 k' z x e
      · exact hk x (by rw [← e]; exact (List.mem_singleton.mp z).symm)⟩, (r.append (.cons q .nil)).mono E2⟩
theorem set_both {X : Cx} (hu : X.A.units + 200 < cLine) : PSet X (fun o i v H Q => rSetL o i v H Q ∨ ∃ a H', o = .ref a ∧ DPut H a i v H' ∧ Q H') := by
  intro pins s σ H o i v ov iv u Q I ro ri rv h
  rcases h with h | ⟨a, H', rfl, g, q⟩
  · exact set_list pins s σ H o i v ov iv u Q I ro ri rv h
  · cases ro
    exact d_setItem (by omega) I g ri rv fun s' I' => ⟨H', I', q⟩
theorem key_good {v : V} {d : D} {k : Key} (r : Rep K mg mu H v d) (h : keyD d = some k) : ∀ x, k = .inr x → strGood x := fun x e => by
  subst e
  cases r <;> simp only [keyD, Option.some.injEq] at h <;> first | (cases h; done) | (injection h with h; subst h; assumption)
theorem key_rep {v : V} {d : D} {k : Key} (r : Rep K mg mu H v d) (h : keyD d = some k) : v = kV k := by
  cases r <;> simp only [keyD, Option.some.injEq] at h <;> first | (cases h; done) | (subst h; rfl)
end
end CP

set_option Elab.async false
set_option linter.all false
set_option maxRecDepth 100000
set_option autoImplicit false
/-! CpIx: d[k] of a dict. -/
namespace CP
open PySem PySem.Spec PyProof.Rows L2
theorem ix_dct {X : Cx} (hu : X.A.units + 200 < cLine) : IxR X (fun x y H Q => ∃ a w, x = .ref a ∧ DGet H a y (some w) ∧ Q w H) := by
  intro value slice pins s σ H x y v u Q I rx ry h hs
  obtain ⟨a, w, rfl, g, q⟩ := h
  cases rx
  have ty := dict_typeIs I g
  unfold subscriptTail
  refine wpAny_bind ?_
  simp only [getitemInPython_of_ne ty.not_modules]
  have last : wpAny (model X.prog X.w) X.A (subscripted slice false (.ref a) u) (fun z s1 => wpAny (model X.prog X.w) X.A (letTemporaryGo value (.ref a) z >>= fun _ => pure z) (EP X pins σ Q) X.xe s1) X.xe s := by
    rw [hs]
    exact wpAny_operating (d_getItem (by omega) I g ry fun z s2 I2 rz => wpAny_bind (wpAny_letTemporaryGo (wpAny_pure ⟨w, H, I2, rz, q⟩)))
  refine wpAny_bind (wpAny_specialOf ty PySem.F.slot_dict_getitem.lookup ?_)
  first
    | exact wpAny_pure (wpAny_bind last)
    | exact wpAny_bind (wpAny_pure (wpAny_bind last))
    | exact wpAny_bind last
    | exact wpAny_pure last
end CP

set_option Elab.async false
set_option linter.all false
set_option maxRecDepth 100000
set_option autoImplicit false
/-! CpOps: operators, comparisons, built-ins over pure data. -/
namespace CP
open PySem PySem.Spec PyProof.Rows L2

def BO.py : BO → Operator
  | .add => .Add | .sub => .Sub | .mul => .Mult | .fdiv => .FloorDiv | .mod => .Mod | .pow => .Pow
def CO.py : CO → CmpOp
  | .eq => .Eq | .ne => .NotEq | .lt => .Lt | .le => .LtE | .gt => .Gt | .ge => .GtE | .mem => .In | .nmem => .NotIn | .is => .Is | .nis => .IsNot

section
variable {K : PySem.W.Frag} {mg : Str → Option Value} {mu mu' : Mu} {H H' : Hp} {st : So}
theorem Sim.lst (S : Sim K mg mu st H) {n : Nat} {a : Addr} {xs : List D} (ha : mu.l[n]? = some a) (hn : st[n]? = some (.lst xs)) : ∃ vs, H a = some (.lst vs) ∧ xs.length ≤ sizeLine ∧ Reps K mg mu H vs xs := S.ob n a _ ha hn
theorem lstOf_rep (S : Sim K mg mu st H) {d : D} {v : V} {xs : List D} (r : Rep K mg mu H v d) (h : lstOf d st = some xs) : ∃ l vs, v = .ref l ∧ H l = some (.lst vs) ∧ Reps K mg mu H vs xs ∧ xs.length ≤ sizeLine := by
  cases r with
  | lst a z q => cases h; exact ⟨_, _, rfl, a.1, q, z⟩
  | @ref a n hm =>
    unfold lstOf at h
    simp only at h
    split at h
    · rename_i ys e
      cases h
      obtain ⟨vs, h1, h2, h3⟩ := S.lst hm e
      exact ⟨_, vs, rfl, h1, h3, h2⟩
    · cases h
  | _ => cases h
theorem seqOf_rep (S : Sim K mg mu st H) {d : D} {v : V} {xs : List D} (r : Rep K mg mu H v d) (h : seqOf d st = some xs) : ∃ l vs, v = .ref l ∧ (SqL K H l vs ∨ SqT K H l vs) ∧ Reps K mg mu H vs xs ∧ xs.length ≤ sizeLine := by
  cases r with
  | tup a z q => cases h; exact ⟨_, _, rfl, .inr a.sq, q, z⟩
  | scr a z q => cases h; exact ⟨_, _, rfl, .inl a.sq, q, z⟩
  | lst a z q => cases h; exact ⟨_, _, rfl, .inl a.sq, q, z⟩
  | @ref a n hm =>
    obtain ⟨l, vs, e, h1, h2, h3⟩ := lstOf_rep S (.ref hm) (show lstOf (.ref n) st = some xs from h)
    exact ⟨l, vs, e, .inl (.of h1), h2, h3⟩
  | _ => cases h

/-! ### data as PyData -/
mutual
def D.toPy : D → PyData
  | .bl b => .bool b
  | .int i => .int i
  | .str x => .str x
  | .tup xs => .tuple (toPys xs)
  | .lst xs => .list (toPys xs)
  | _ => .none
def toPys : List D → List PyData
  | [] => []
  | x :: xs => x.toPy :: toPys xs
end
mutual
theorem dep_toPy : ∀ d : D, d.isDat = true → d.toPy.depth = d.dep
  | .non, _ => by simp [D.toPy, PyData.depth, D.dep]
  | .bl _, _ => by simp [D.toPy, PyData.depth, D.dep]
  | .int _, _ => by simp [D.toPy, PyData.depth, D.dep]
  | .str _, _ => by simp [D.toPy, PyData.depth, D.dep]
  | .tup xs, h => by simp only [D.isDat] at h; simp [D.toPy, PyData.depth, D.dep, deps_toPys xs h]
  | .lst xs, h => by simp only [D.isDat] at h; simp [D.toPy, PyData.depth, D.dep, deps_toPys xs h]
  | .scr _, h | .dct _ _, h | .ref _, h | .fn _, h | .ty _, h | .cls _, h => by simp [D.isDat] at h
theorem deps_toPys : ∀ xs : List D, isDats xs = true → PyData.depthAll (toPys xs) = deps xs
  | [], _ => by simp [toPys, PyData.depthAll, deps]
  | x :: xs, h => by
    simp only [isDats, Bool.and_eq_true] at h
    simp [toPys, PyData.depthAll, deps, dep_toPy x h.1, deps_toPys xs h.2]
end
mutual
theorem eqv_toPy : ∀ a b : D, a.isDat = true → b.isDat = true → PyData.eqv a.toPy b.toPy = a.eqv b
  | .tup xs, .tup ys, h, h' => by
    simp only [D.isDat] at h h'
    simp only [D.toPy, PyData.eqv, D.eqv, eqvs_toPys xs ys h h']
  | .lst xs, .lst ys, h, h' => by
    simp only [D.isDat] at h h'
    simp only [D.toPy, PyData.eqv, D.eqv, eqvs_toPys xs ys h h']
  | .non, b, h, h' => by cases b <;> first | (simp [D.isDat] at h'; done) | simp [D.toPy, PyData.eqv, D.eqv]
  | .bl _, b, h, h' => by cases b <;> first | (simp [D.isDat] at h'; done) | simp [D.toPy, PyData.eqv, D.eqv]
  | .int _, b, h, h' => by cases b <;> first | (simp [D.isDat] at h'; done) | simp [D.toPy, PyData.eqv, D.eqv]
  | .str _, b, h, h' => by cases b <;> first | (simp [D.isDat] at h'; done) | simp [D.toPy, PyData.eqv, D.eqv]
  | .tup _, .non, h, h' | .tup _, .bl _, h, h' | .tup _, .int _, h, h' | .tup _, .str _, h, h' | .tup _, .lst _, h, h' => by simp [D.toPy, PyData.eqv, D.eqv]
  | .lst _, .non, h, h' | .lst _, .bl _, h, h' | .lst _, .int _, h, h' | .lst _, .str _, h, h' | .lst _, .tup _, h, h' => by simp [D.toPy, PyData.eqv, D.eqv]
  | .tup _, .scr _, h, h' | .tup _, .dct _ _, h, h' | .tup _, .ref _, h, h' | .tup _, .fn _, h, h' | .tup _, .ty _, h, h' | .tup _, .cls _, h, h' => by simp [D.isDat] at h'
  | .lst _, .scr _, h, h' | .lst _, .dct _ _, h, h' | .lst _, .ref _, h, h' | .lst _, .fn _, h, h' | .lst _, .ty _, h, h' | .lst _, .cls _, h, h' => by simp [D.isDat] at h'
  | .scr _, _, h, _ | .dct _ _, _, h, _ | .ref _, _, h, _ | .fn _, _, h, _ | .ty _, _, h, _ | .cls _, _, h, _ => by simp [D.isDat] at h
theorem eqvs_toPys : ∀ xs ys : List D, isDats xs = true → isDats ys = true → PyData.eqvAll (toPys xs) (toPys ys) = eqvs xs ys
  | [], [], _, _ => by simp [toPys, PyData.eqvAll, eqvs]
  | [], _ :: _, _, _ => by simp [toPys, PyData.eqvAll, eqvs]
  | _ :: _, [], _, _ => by simp [toPys, PyData.eqvAll, eqvs]
  | x :: xs, y :: ys, h, h' => by
    simp only [isDats, Bool.and_eq_true] at h h'
    simp [toPys, PyData.eqvAll, eqvs, eqv_toPy x y h.1 h'.1, eqvs_toPys xs ys h.2 h'.2]
end
mutual
theorem Rep.dp : ∀ {d : D} {v : V}, Rep K mg mu H v d → d.isDat = true → Dp K H v d.toPy ∧ d.toPy.canLay0 = true
  | _, _, .non, _ => ⟨by simp only [D.toPy]; exact .non, by simp [D.toPy, PyData.canLay0]⟩
  | _, _, .bl b, _ => ⟨by simp only [D.toPy]; exact .bl b, by simp [D.toPy, PyData.canLay0]⟩
  | _, _, .int i, _ => ⟨by simp only [D.toPy]; exact .int i, by simp [D.toPy, PyData.canLay0]⟩
  | _, _, .str h, _ => ⟨by simp only [D.toPy]; exact .str _, by simp only [D.toPy, PyData.canLay0]; exact h.2⟩
  | _, _, .tup a _ r, h => by
    simp only [D.isDat] at h
    obtain ⟨h1, h2⟩ := Reps.dp r h
    exact ⟨by simp only [D.toPy]; exact .tup a.sq h1, by simp only [D.toPy, PyData.canLay0]; exact h2⟩
  | _, _, .lst a _ r, h => by
    simp only [D.isDat] at h
    obtain ⟨h1, h2⟩ := Reps.dp r h
    exact ⟨by simp only [D.toPy]; exact .lst a.sq h1, by simp only [D.toPy, PyData.canLay0]; exact h2⟩
  | _, _, .scr _ _ _, h => by simp [D.isDat] at h
  | _, _, .ref _, h => by simp [D.isDat] at h
  | _, _, .fn _, h => by simp [D.isDat] at h
  | _, _, .ty _, h => by simp [D.isDat] at h
theorem Reps.dp : ∀ {ds : List D} {vs : List V}, Reps K mg mu H vs ds → isDats ds = true → DpAll K H vs (toPys ds) ∧ PyData.canLayAll0 (toPys ds) = true
  | _, _, .nil, _ => ⟨by simp only [toPys]; exact .nil, by simp [toPys, PyData.canLayAll0]⟩
  | _, _, .cons r rs, h => by
    simp only [isDats, Bool.and_eq_true] at h
    obtain ⟨h1, h2⟩ := Rep.dp r h.1
    obtain ⟨h3, h4⟩ := Reps.dp rs h.2
    exact ⟨by simp only [toPys]; exact .cons h1 h3, by simp only [toPys, PyData.canLayAll0, h2, h4, Bool.and_self]⟩
end
/-- what is seen of a thing -/
theorem see_dp (S : Sim K mg mu st H) {d : D} {v : V} (r : Rep K mg mu H v d) (h : (d.see st).isDat = true) : Dp K H v (d.see st).toPy ∧ (d.see st).toPy.canLay0 = true := by
  cases r with
  | @ref a n hm =>
    unfold D.see at h ⊢
    simp only at h ⊢
    split at h
    · rename_i xs e
      obtain ⟨vs, h1, h2, h3⟩ := S.lst hm e
      simp only [D.isDat] at h
      obtain ⟨h4, h5⟩ := h3.dp h
      exact ⟨by simp only [D.toPy]; exact .lst (.of h1) h4, by simp only [D.toPy, PyData.canLay0]; exact h5⟩
    · simp [D.isDat] at h
  | non => exact Rep.dp (mu := mu) (mg := mg) .non h
  | bl b => exact Rep.dp (mu := mu) (mg := mg) (.bl b) h
  | int i => exact Rep.dp (mu := mu) (mg := mg) (.int i) h
  | str q => exact Rep.dp (mu := mu) (mg := mg) (.str q) h
  | tup a z q => exact Rep.dp (.tup a z q) h
  | lst a z q => exact Rep.dp (.lst a z q) h
  | scr a z q => simp [D.see, D.isDat] at h
  | fn q => simp [D.see, D.isDat] at h
  | ty n => simp [D.see, D.isDat] at h
theorem seqOf_dp (S : Sim K mg mu st H) {d : D} {v : V} {xs : List D} (r : Rep K mg mu H v d) (h : seqOf d st = some xs) (hd : isDats xs = true) (hs : ∀ ys, d ≠ .scr ys) : (Dp K H v (.list (toPys xs)) ∨ Dp K H v (.tuple (toPys xs))) ∧ PyData.canLayAll0 (toPys xs) = true := by
  obtain ⟨l, vs, rfl, h1, h2, h3⟩ := seqOf_rep S r h
  obtain ⟨h4, h5⟩ := h2.dp hd
  rcases h1 with h1 | h1
  · exact ⟨.inl (.lst h1 h4), h5⟩
  · exact ⟨.inr (.tup h1 h4), h5⟩
end

/-! ### rules by values -/
/-- what is asked of two values that stand for data -/
def rr {α β : Type} (K : PySem.W.Frag) (mg : Str → Option Value) (rel : Mu → Hp → β → α → Prop) (f : D → D → So → R α) : V → V → Hp → (β → Hp → Prop) → Prop := fun x y H Q =>
  ∃ a b st mu W s, Rep K mg mu H x a ∧ Rep K mg mu H y b ∧ Sim K mg mu st H ∧ Fin K mg W s rel mu H (f a b st) Q
abbrev rrE (K : PySem.W.Frag) (mg : Str → Option Value) (f : D → D → So → R D) : R2 := rr K mg (relE K mg) f
abbrev rrT (K : PySem.W.Frag) (mg : Str → Option Value) (f : D → D → So → R Bool) : R2 := fun x y H Q => rr K mg relT f x y H fun k H' => Q (.bl k) H'
section
variable {X : Cx} {W : WX} {s' : L2.St} {mu : Mu} {st : So} {pins : List (Addr × Obj)} {s : Shared} {σ : L2.St} {H : Hp} {x y : V} {v u : Value} {Q : VK} {a b : D} {A : Around} {k : Nat}

/-- the object that was just laid -/
theorem fin_new {d : D} {p : Addr} {o : HO} (S : Sim X.K X.mg mu st H) (hp : H p = none) (h : Fin X.K X.mg W s' (relE X.K X.mg) mu H (.ok d st) Q) (r : Rep X.K X.mg mu (upd H p o) (.ref p) d) : Q (.ref p) (upd H p o) :=
  h mu _ _ (ext_new S hp) (S.new hp) r
theorem fin_same {d : D} (S : Sim X.K X.mg mu st H) (h : Fin X.K X.mg W s' (relE X.K X.mg) mu H (.ok d st) Q) {v : V} (r : Rep X.K X.mg mu H v d) : Q v H :=
  h mu _ _ (Ext.refl _ _) S r
theorem new_lst (S : Sim X.K X.mg mu st H) {p : Addr} (hp : H p = none) {vs : List V} {ds : List D} (r : Reps X.K X.mg mu H vs ds) (hz : ds.length ≤ sizeLine) : Rep X.K X.mg mu (upd H p (.lst vs)) (.ref p) (.lst ds) :=
  .lst ⟨upd_same, S.ne hp⟩ hz (r.mono (ext_new S hp))
theorem new_tup (S : Sim X.K X.mg mu st H) {p : Addr} (hp : H p = none) {vs : List V} {ds : List D} (r : Reps X.K X.mg mu H vs ds) (hz : ds.length ≤ sizeLine) : Rep X.K X.mg mu (upd H p (.tup vs)) (.ref p) (.tup ds) :=
  .tup (.inl ⟨upd_same, S.ne hp⟩) hz (r.mono (ext_new S hp))

theorem op_addL (I : Inv X pins σ H s) (rx : RelV x v) (ry : RelV y u) (ra : Rep X.K X.mg mu H x a) (rb : Rep X.K X.mg mu H y b) (S : Sim X.K X.mg mu st H)
    (h : Fin X.K X.mg W s' (relE X.K X.mg) mu H (match lstOf a st, lstOf b st with
    | some xs, some ys => if xs.length + ys.length ≤ sizeLine then .ok (.lst (xs ++ ys)) st else .bad
    | _, _ => .bad) Q) : wpAny (model X.prog X.w) X.A (binaryOp .Add v u) (EP X pins σ Q) X.xe s := by
  cases e1 : lstOf a st with
  | none => rw [e1] at h; exact h.elim
  | some xs =>
    cases e2 : lstOf b st with
    | none => rw [e1, e2] at h; exact h.elim
    | some ys =>
      rw [e1, e2] at h
      simp only at h
      split at h
      · rename_i hz
        obtain ⟨l, vs, rfl, h1, q1, z1⟩ := lstOf_rep S ra e1
        obtain ⟨m, ws, rfl, h2, q2, z2⟩ := lstOf_rep S rb e2
        refine op_cat pins s σ H _ _ v u Q I rx ry ⟨l, m, vs, ws, rfl, rfl, h1, h2, by rw [q1.length, q2.length]; exact hz, fun p hp => fin_new S hp h (new_lst S hp (q1.append q2) (by rw [List.length_append]; exact hz))⟩
      · exact h.elim
theorem strGood_append {i j : Str} (hi : strGood i) (hj : strGood j) (hz : i.length + j.length ≤ sizeLine) : strGood (i ++ j) := by
  refine ⟨?_, ?_⟩
  · show (i.cps ++ j.cps).size ≤ sizeLine
    rw [Array.size_append]; exact hz
  · show (i.cps ++ j.cps).all (· < 0x110000) = true
    rw [Array.all_append, Bool.and_eq_true]
    exact ⟨hi.2, hj.2⟩
theorem op_repTW : OpR X (binaryOp .Mult) (fun x y H Q => ∃ l k xs, x = .ref l ∧ y = .int k ∧ SqT X.K H l xs ∧ xs ≠ [] ∧ 2 ≤ k ∧ (xs.length : Int) * k ≤ 1000000 ∧ ∀ p, H p = none → Q (.ref p) (upd H p (.tup (List.replicate k.toNat xs).flatten))) := by
  intro pins s σ H x y v u Q I rx ry h
  obtain ⟨l, k, xs, rfl, rfl, hT, hne, h1, h2, q⟩ := h
  cases rx
  obtain ⟨t, rfl⟩ := ry
  obtain ⟨its, r, ⟨⟨cls, dd, data, sl⟩, ho, hc, n, hd⟩, hs⟩ := I.tuple hT
  simp only at hc hd
  subst hc hd
  have hle : its.length = xs.length := r.length.symm
  have hn : its ≠ [] := fun e => hne (by
    rw [e] at hle
    exact List.eq_nil_of_length_eq_zero hle.symm)
  have hi : its.toArray.isEmpty = false := by
    cases its with
    | nil => exact absurd rfl hn
    | cons a b => rfl
  have hsz0 : its.toArray.size = xs.length := by rw [List.size_toArray, hle]
  have hpos : 1 ≤ xs.length := by
    cases xs with
    | nil => exact absurd rfl hne
    | cons a b => simp
  have hm : ((its.toArray.size : Nat) : Int) * k ≤ 1000000 := by rw [hsz0]; exact h2
  have hk : k ≤ 1000000 := by
    have : 1 * k ≤ (xs.length : Int) * k := Int.mul_le_mul_of_nonneg_right (by omega) (by omega)
    omega
  have hprod : k.toNat * xs.length ≤ 1000000 := by
    have e : ((k.toNat * xs.length : Nat) : Int) = (xs.length : Int) * k := by
      rw [Int.natCast_mul, Int.toNat_of_nonneg (by omega), Int.mul_comm]
    omega
  have flen : (List.replicate k.toNat its).flatten.length ≤ sizeLine := by
    rw [PyProof.Rows.lm_len_rep_flat, hle, sizeLine_eq]
    omega
  have c0 : (decide (k < -(2 ^ 63)) || decide (k ≥ 2 ^ 63)) = false := by
    rw [decide_eq_false (by omega), decide_eq_false (by omega)] <;> rfl
  have c1 : (its.toArray.isEmpty || k == 1) = false := by
    rw [hi, Bool.false_or]
    exact beq_eq_false_iff_ne.mpr (by omega)
  have c2 : (decide (k ≤ 0) || its.toArray.isEmpty) = false := by
    rw [hi, Bool.or_false]
    exact decide_eq_false (by omega)
  have c4 : Builtin.Tuple.tupleTooMany (((its.toArray.size : Nat) : Int) * k) = false := by
    unfold Builtin.Tuple.tupleTooMany
    rw [sizeLine_eq]
    exact decide_eq_false (by omega)
  refine wpAny_binaryOp_repeat_ref (T := "tuple") (U := "int") (by decide) ⟨_, ho, rfl⟩ (fun s' => typeIs_int s' k t) noFill_tuple_mul F.fills_int_mul F.slot_int_rmul repeat_tuple F.slot_int_index.lookup
    (call_meets F.slot_int_rmul (typeIs_int s k t) F.entry_int_rmul (F.args_int_rmul_2 _ _) (int_rmul_tuple k t l its.toArray n dd sl)
      ⟨ho, rfl, ⟨_, ho, rfl⟩, call_meets F.slot_tuple_mul ⟨_, ho, rfl⟩ F.entry_tuple_mul (F.args_tuple_mul_2 _ _) (tuple_mulW l its.toArray n dd sl k t c0 c1 c2 (by omega) c4 (by rw [size_rep, List.size_toArray]; exact flen)) ⟨ho, ?_⟩⟩)
  rw [size_rep]
  refine ⟨.ref s.heap.objs.size, _, I.laid (t' := s.toks) (o := .tup (List.replicate k.toNat xs).flatten) (fun b ob q => Heap.get?_push_of_some _ q) (Nat.le_refl _) ?_, rfl, q _ (I.hok.fresh (Nat.le_refl _))⟩
  exact ⟨by rw [PyProof.Rows.lm_len_rep_flat, sizeLine_eq]; omega, _, r.rep k.toNat, IsTup.new _ _⟩

theorem len_rep {α : Type} (xs : List α) : ∀ k : Nat, (List.replicate k xs).flatten.length = k * xs.length
  | 0 => by simp
  | k + 1 => by rw [List.replicate_succ, List.flatten_cons, List.length_append, len_rep xs k, Nat.succ_mul, Nat.add_comm]
set_option maxHeartbeats 4000000 in
theorem opD_ok (o : BO) : OpR X (binaryOp o.py) (rrE X.K X.mg (opD o)) := by
  intro pins s σ H x y v u Q I rx ry h
  obtain ⟨a, b, st, mu, W, s', ra, rb, S, h⟩ := h
  cases o with
  | add =>
    show wpAny _ _ (binaryOp .Add v u) _ _ _
    cases ra with
    | int i =>
      cases rb with
      | int j => exact op_add pins s σ H _ _ v u Q I rx ry ⟨i, j, rfl, rfl, fin_same S h (.int _)⟩
      | _ => exact h.elim
    | @str i hi =>
      cases rb with
      | @str j hj =>
        simp only [opD] at h
        split at h
        · rename_i hz
          exact op_add_str pins s σ H _ _ v u Q I rx ry ⟨i, j, rfl, rfl, hz, fin_same S h (.str (strGood_append hi hj hz))⟩
        · exact h.elim
      | _ => exact h.elim
    | @tup l vs xs hl zl q1 =>
      cases rb with
      | @tup m ws ys hm zm q2 =>
        simp only [opD] at h
        split at h
        · rename_i hz
          have e1 := q1.length
          have e2 := q2.length
          refine op_catA pins s σ H _ _ v u Q I rx ry ⟨l, m, vs, ws, rfl, rfl, hl.sq, hm.sq, by rw [e1, e2]; exact hz, fun e => ?_, fun _ e => ?_, fun _ _ p hp => ?_⟩
          · subst e
            cases q1
            exact fin_same S h (.tup hm zm q2)
          · subst e
            cases q2
            rw [List.append_nil] at h
            exact fin_same S h (.tup hl zl q1)
          · exact fin_new S hp h (new_tup S hp (q1.append q2) (by rw [List.length_append]; exact hz))
        · exact h.elim
      | _ => exact h.elim
    | lst hl z q => exact op_addL I rx ry (.lst hl z q) rb S (by cases rb <;> exact h)
    | ref hm => exact op_addL I rx ry (.ref hm) rb S (by cases rb <;> exact h)
    | _ => cases rb <;> exact h.elim
  | sub =>
    cases ra with
    | int i =>
      cases rb with
      | int j => exact op_sub pins s σ H _ _ v u Q I rx ry ⟨i, j, rfl, rfl, fin_same S h (.int _)⟩
      | _ => exact h.elim
    | _ => cases rb <;> exact h.elim
  | mul =>
    cases ra with
    | int i =>
      cases rb with
      | int j =>
        simp only [opD] at h
        split at h
        · rename_i hz
          unfold mulOk at hz
          simp only [Bool.or_eq_true, Bool.and_eq_true, decide_eq_true_eq] at hz
          exact op_mul pins s σ H _ _ v u Q I rx ry ⟨i, j, rfl, rfl, hz, fin_same S h (.int _)⟩
        · exact h.elim
      | _ => exact h.elim
    | @tup l vs xs hl zl q1 =>
      cases rb with
      | int k =>
        simp only [opD] at h
        split at h
        · rename_i hz
          obtain ⟨z1, z2, z3⟩ := hz
          have e1 := q1.length
          refine op_repTW pins s σ H _ _ v u Q I rx ry ⟨l, k, vs, rfl, rfl, hl.sq, ?_, z1, by rw [e1]; exact z2, fun p hp => fin_new S hp h (new_tup S hp (q1.rep _) ?_)⟩
          · intro e
            rw [e] at e1
            simp at e1
            omega
          · show (List.replicate k.toNat xs).flatten.length ≤ sizeLine
            rw [len_rep]
            have e : ((k.toNat * xs.length : Nat) : Int) = (xs.length : Int) * k := by
              rw [Int.natCast_mul, Int.toNat_of_nonneg (by omega), Int.mul_comm]
            have hs : sizeLine = 16777216 := sizeLine_eq
            omega
        · exact h.elim
      | _ => exact h.elim
    | @lst l vs xs hl zl q1 =>
      cases rb with
      | int k =>
        simp only [opD] at h
        split at h
        · rename_i hz
          obtain ⟨z1, z2, z3⟩ := hz
          have e1 := q1.length
          refine op_rep pins s σ H _ _ v u Q I rx ry ⟨l, k, vs, rfl, rfl, hl.1, z1, z2, by rw [e1]; exact z3, fun p hp => fin_new S hp h (new_lst S hp (q1.rep _) ?_)⟩
          show (List.replicate k.toNat xs).flatten.length ≤ sizeLine
          rw [len_rep, Nat.mul_comm]
          exact z3
        · exact h.elim
      | _ => exact h.elim
    | _ => cases rb <;> exact h.elim
  | fdiv =>
    cases ra with
    | int i =>
      cases rb with
      | int j =>
        simp only [opD] at h
        split at h
        · rename_i hz
          exact op_fdiv pins s σ H _ _ v u Q I rx ry ⟨i, j, rfl, rfl, hz, fin_same S h (.int _)⟩
        · exact h.elim
      | _ => exact h.elim
    | _ => cases rb <;> exact h.elim
  | mod =>
    cases ra with
    | int i =>
      cases rb with
      | int j =>
        simp only [opD] at h
        split at h
        · rename_i hz
          exact op_mod pins s σ H _ _ v u Q I rx ry ⟨i, j, rfl, rfl, hz, fin_same S h (.int _)⟩
        · exact h.elim
      | _ => exact h.elim
    | _ => cases rb <;> exact h.elim
  | pow =>
    cases ra with
    | int i =>
      cases rb with
      | int j =>
        simp only [opD] at h
        split at h
        · rename_i hz
          exact op_pow pins s σ H _ _ v u Q I rx ry ⟨i, j, rfl, rfl, hz, fin_same S h (.int _)⟩
        · exact h.elim
      | _ => exact h.elim
    | _ => cases rb <;> exact h.elim
end
end CP

set_option Elab.async false
set_option linter.all false
set_option maxRecDepth 100000
set_option autoImplicit false
/-! CpLt: which of two data comes first; the first place at which they differ decides. -/
namespace CP
open PySem PySem.Spec PyProof.Rows L2 PySem.SeqAt PySem.W
open AutoSeq1 (wpAny_loadPart')

theorem lt_walk (p q : Addr) (us vs : Array Value) (n m : Nat) (d1 d2 : Option Addr) (l1 l2 : Array (Option Value)) (k : Bool) (Z : Nat → Option Bool) :
    Meets (Builtin.«tuple.__lt__» ⟨[.ref p, .ref q], []⟩) (fun A R s =>
      s.heap.get? p = some { cls := .type "tuple", dict := d1, data := .seq us n, slots := l1 } ∧ s.heap.get? q = some { cls := .type "tuple", dict := d2, data := .seq vs m, slots := l2 } ∧
      (∀ i (a : i < us.size) (b : i < vs.size) z, Z i = some z → (EqAt A.in1 s us[i] vs[i] true ∧ Z (i + 1) = some z) ∨ (EqAt A.in1 s us[i] vs[i] false ∧ RcLt A.in1 s us[i] vs[i] z)) ∧
      (∀ z, Z (min us.size vs.size) = some z → z = decide (us.size < vs.size)) ∧ Z 0 = some k ∧ R (.ok (.ret (.bool k))) s) :=
  .of_wp fun prog w A R s h => by
    obtain ⟨hp, g, d, tk, os⟩ := s
    obtain ⟨e1, e2, step, fin, h0, hR⟩ := h
    have two := AutoSeq1.sub_tuple_tuple
    have len : (us.toList.zip vs.toList).length = min us.size vs.size := by simp
    wp_walk using wpAny_loadPart' e1, wpAny_loadPart' e2, wpAny_forIn_list _ (fun left acc st => acc.1 = none ∧ st = ⟨hp, g, d, tk, os⟩ ∧ ∃ i, left = (us.toList.zip vs.toList).drop i ∧ Z i = some k ∧ i ≤ min us.size vs.size) _
    case turn =>
      rintro ⟨u, v⟩ left acc st ⟨hacc, rfl, i, hi, hz, hle⟩
      by_cases hlt : i < min us.size vs.size
      · have a : i < us.size := by omega
        have b : i < vs.size := by omega
        rw [List.drop_eq_getElem_cons (by rw [len]; exact hlt)] at hi
        injection hi with huv hleft
        have eu : u = us[i] := by simpa using congrArg Prod.fst huv
        have ev : v = vs[i] := by simpa using congrArg Prod.snd huv
        subst eu ev
        rcases step i a b k hz with ⟨q1, q2⟩ | ⟨q1, q2⟩
        · refine wpAny_bind (q1 prog w _ _ ?_)
          wp_walk
          exact ⟨rfl, rfl, i + 1, hleft, q2, by omega⟩
        · refine wpAny_bind (q1 prog w _ _ ?_)
          have q3 : ∀ (E Q : Value → Shared → Prop), Q (.bool k) ⟨hp, g, d, tk, os⟩ → wpAny (model prog w) A.in1 (richCompare CmpOp.Lt us[i] vs[i]) Q E ⟨hp, g, d, tk, os⟩ := q2 prog w
          generalize richCompare CmpOp.Lt us[i] vs[i] = rc at q3 ⊢
          wp_walk
          refine q3 _ _ ?_
          wp_walk
          exact ⟨_, rfl, hR⟩
      · rw [List.drop_of_length_le (by rw [len]; omega)] at hi
        cases hi
    case fin =>
      rintro ⟨b1, b2⟩ st ⟨hacc, rfl, i, hi, hz, hle⟩
      simp only at hacc
      subst hacc
      have ei : i = min us.size vs.size := by
        by_cases hlt : i < min us.size vs.size
        · rw [List.drop_eq_getElem_cons (by rw [len]; exact hlt)] at hi
          cases hi
        · omega
      rw [ei] at hz
      have ek := fin k hz
      wp_walk
      exact ⟨_, rfl, by simpa [Builtin.Tuple.tupleCompareSizes, ek] using hR⟩
    case h => exact ⟨rfl, rfl, 0, rfl, h0, Nat.zero_le _⟩
theorem lt_first {A : Around} {s : Shared} {p q : Addr} {us vs : Array Value} {k : Bool} (Z : Nat → Option Bool) (hp : s.heap.IsTuple p us) (hq : s.heap.IsTuple q vs) (hu : A.units < cLine)
    (step : ∀ i (a : i < us.size) (b : i < vs.size) z, Z i = some z → (EqAt A.in1 s us[i] vs[i] true ∧ Z (i + 1) = some z) ∨ (EqAt A.in1 s us[i] vs[i] false ∧ RcLt A.in1 s us[i] vs[i] z))
    (fin : ∀ z, Z (min us.size vs.size) = some z → z = decide (us.size < vs.size)) (h0 : Z 0 = some k) : RcLt A s (.ref p) (.ref q) k := fun prog w E Q hQ => by
  obtain ⟨⟨c1, d1, t1, l1⟩, ho, hc, n, hd⟩ := id hp
  obtain ⟨⟨c2, d2, t2, l2⟩, ho2, hc2, m, hd2⟩ := id hq
  simp only at hc hd hc2 hd2
  subst hc hd hc2 hd2
  exact richCompare_meets_room (op := .Lt) ⟨_, ho, rfl⟩ ⟨_, ho2, rfl⟩ F.slot_tuple_lt F.entry_tuple_lt (F.args_tuple_lt_2 _ _) (lt_walk p q us vs n m d1 d2 l1 l2 k Z)
    ⟨ho, ho2, step, fin, h0, show Value.bool k ≠ Value.notImplemented ∧ Q (.bool k) s from ⟨(fun x => nomatch x), hQ⟩⟩ hu
theorem readsAll_at {h : Heap} : ∀ {ds : List PyData} {vs : List Value} {as : List Addr} (j : Nat) (a : j < vs.length) (b : j < ds.length), ReadsAll h vs ds as → ∃ bs, Reads h vs[j] ds[j] bs
  | [], _, _, j, _, b, _ => absurd b (Nat.not_lt_zero _)
  | d :: ds, _, _, 0, _, _, .cons r _ => ⟨_, r⟩
  | d :: ds, _, _, j + 1, a, b, .cons _ r => readsAll_at j (Nat.lt_of_succ_lt_succ a) (Nat.lt_of_succ_lt_succ b) r
theorem toPys_len : ∀ xs : List D, (toPys xs).length = xs.length
  | [] => rfl
  | x :: xs => by simp [toPys, toPys_len xs]
theorem toPys_at : ∀ (xs : List D) (j : Nat) (a : j < (toPys xs).length) (b : j < xs.length), (toPys xs)[j] = xs[j].toPy
  | x :: xs, 0, _, _ => rfl
  | x :: xs, j + 1, a, b => toPys_at xs j (Nat.lt_of_succ_lt_succ a) (Nat.lt_of_succ_lt_succ b)
theorem lay_at : ∀ (xs : List D) (j : Nat) (b : j < xs.length), PyData.canLayAll0 (toPys xs) = true → xs[j].toPy.canLay0 = true
  | x :: xs, 0, _, h => by
    simp only [toPys, PyData.canLayAll0, Bool.and_eq_true] at h
    exact h.1
  | x :: xs, j + 1, b, h => by
    simp only [toPys, PyData.canLayAll0, Bool.and_eq_true] at h
    exact lay_at xs j (Nat.lt_of_succ_lt_succ b) h.2
theorem dat_at : ∀ (xs : List D) (j : Nat) (b : j < xs.length), isDats xs = true → xs[j].isDat = true
  | x :: xs, 0, _, h => by
    simp only [isDats, Bool.and_eq_true] at h
    exact h.1
  | x :: xs, j + 1, b, h => by
    simp only [isDats, Bool.and_eq_true] at h
    exact dat_at xs j (Nat.lt_of_succ_lt_succ b) h.2
theorem dep_at : ∀ (xs : List D) (j : Nat) (b : j < xs.length), xs[j].dep ≤ deps xs
  | x :: xs, 0, _ => by simp only [deps, List.getElem_cons_zero]; omega
  | x :: xs, j + 1, b => by
    have := dep_at xs j (Nat.lt_of_succ_lt_succ b)
    simp only [deps, List.getElem_cons_succ]
    omega
theorem rc_atom {n : Nat} {x y : D} {A : Around} {s : Shared} {a b : Value} {as bs : List Addr} {k : Bool} (hn : ∀ xs, x ≠ .tup xs) (ra : Reads s.heap a x.toPy as) (rb : Reads s.heap b y.toPy bs) (h : ltD x y = some k) (hu : A.units + n < cLine) : RcLt A s a b k := by
  cases x with
  | int i => cases y with
    | int j =>
      simp only [ltD, Option.some.injEq] at h
      rw [← h, ← dataLt_int]
      exact rcLt_alike _ _ A s a b as bs ra rb rfl (fun z => by cases z) (by simp [D.toPy, PyData.depth]; omega)
    | _ => simp [ltD] at h
  | bl i => cases y with
    | bl j =>
      simp only [ltD, Option.some.injEq] at h
      have e : dataLt (.bool i) (.bool j) = k := by
        rw [dataLt_bool, ← h]
        cases i <;> cases j <;> rfl
      rw [← e]
      exact rcLt_alike _ _ A s a b as bs ra rb rfl (fun z => by cases z) (by simp [D.toPy, PyData.depth]; omega)
    | _ => simp [ltD] at h
  | str i => cases y with
    | str j =>
      simp only [ltD, Option.some.injEq] at h
      rw [← h, ← dataLt_str]
      exact rcLt_alike _ _ A s a b as bs ra rb rfl (fun z => by cases z) (by simp [D.toPy, PyData.depth]; omega)
    | _ => simp [ltD] at h
  | tup xs => exact absurd rfl (hn xs)
  | _ => cases y <;> simp [ltD] at h
theorem rc_lt : ∀ (n : Nat) (x y : D) (A : Around) (s : Shared) (a b : Value) (as bs : List Addr) (k : Bool), x.dep ≤ n → x.isDat = true → y.isDat = true → x.toPy.canLay0 = true → y.toPy.canLay0 = true →
    Reads s.heap a x.toPy as → Reads s.heap b y.toPy bs → ltD x y = some k → A.units + n < cLine → RcLt A s a b k := by
  intro n
  induction n with
  | zero =>
    intro x y A s a b as bs k hn hx hy lx ly ra rb h hu
    exact rc_atom (fun xs e => by rw [e] at hn; simp [D.dep] at hn) ra rb h hu
  | succ n ih =>
    intro x y A s a b as bs k hn hx hy lx ly ra rb h hu
    by_cases hxt : ∃ xs, x = .tup xs
    · obtain ⟨xs, rfl⟩ := hxt
      cases y with
      | tup ys =>
        simp only [D.isDat] at hx hy
        simp only [D.dep, Nat.add_le_add_iff_right] at hn
        simp only [ltD] at h
        have lx : PyData.canLayAll0 (toPys xs) = true := by simpa [D.toPy, PyData.canLay0] using lx
        have ly : PyData.canLayAll0 (toPys ys) = true := by simpa [D.toPy, PyData.canLay0] using ly
        cases ra with
        | @tuple l o us n1 _ as₁ h1 h2 h3 h4 =>
          cases rb with
          | @tuple l' o' vs n2 _ bs₁ k1 k2 k3 k4 =>
            have e1 : us.size = xs.length := by simpa [toPys_len] using ReadsAll.length _ _ _ h4
            have e2 : vs.size = ys.length := by simpa [toPys_len] using ReadsAll.length _ _ _ k4
            refine lt_first (fun i => ltsD (xs.drop i) (ys.drop i)) ⟨_, h1, h2, _, h3⟩ ⟨_, k1, k2, _, k3⟩ (by omega) (fun i a b z hz => ?_) (fun z hz => ?_) (by simpa using h)
            · have ax : i < xs.length := by omega
              have bx : i < ys.length := by omega
              obtain ⟨as', r1⟩ := readsAll_at i (by simpa using a) (by rw [toPys_len]; exact ax) h4
              obtain ⟨bs', r2⟩ := readsAll_at i (by simpa using b) (by rw [toPys_len]; exact bx) k4
              rw [toPys_at xs i (by rw [toPys_len]; exact ax) ax] at r1
              rw [toPys_at ys i (by rw [toPys_len]; exact bx) bx] at r2
              have d1 := dat_at xs i ax hx
              have d2 := dat_at ys i bx hy
              have c1 := lay_at xs i ax lx
              have c2 := lay_at ys i bx ly
              have p1 := dep_at xs i ax
              have eq := eqAt_reads _ _ A.in1 s _ _ _ _ r1 r2 c1 c2 (by rw [dep_toPy _ d1]; show A.units + 1 + _ < _; omega)
              rw [eqv_toPy _ _ d1 d2] at eq
              simp only [List.drop_eq_getElem_cons ax, List.drop_eq_getElem_cons bx, ltsD] at hz
              cases he : xs[i].eqv ys[i] with
              | true =>
                rw [he] at eq hz
                exact .inl ⟨by simpa using eq, by simpa using hz⟩
              | false =>
                rw [he] at eq hz
                exact .inr ⟨by simpa using eq, by simpa using ih _ _ A.in1 s _ _ _ _ z (by omega) d1 d2 c1 c2 r1 r2 (by simpa using hz) (by show A.units + 1 + n < _; omega)⟩
            · rw [e1, e2] at hz ⊢
              by_cases hlt : xs.length < ys.length
              · rw [Nat.min_eq_left (by omega), List.drop_length, List.drop_eq_getElem_cons hlt] at hz
                simp only [ltsD, Option.some.injEq] at hz
                simp [hlt, ← hz]
              · by_cases heq : xs.length = ys.length
                · rw [heq, Nat.min_self, List.drop_length, ← heq, List.drop_length] at hz
                  simp only [ltsD, Option.some.injEq] at hz
                  simp [hlt, ← hz]
                · rw [Nat.min_eq_right (by omega), List.drop_length, List.drop_eq_getElem_cons (show ys.length < xs.length by omega)] at hz
                  simp only [ltsD, Option.some.injEq] at hz
                  simp [hlt, ← hz]
      | _ => simp [ltD] at h
    · exact rc_atom (fun xs e => hxt ⟨xs, e⟩) ra rb h hu
end CP

set_option Elab.async false
set_option linter.all false
set_option maxRecDepth 100000
set_option autoImplicit false
/-! CpSort: data put in order. -/
namespace CP
open PySem PySem.Spec PyProof.Rows L2

/-! ### the order of data -/
mutual
theorem cmpD_eq : ∀ {x y : D}, cmpD x y = some .eq → x = y
  | .int i, .int j, h => by
    simp only [cmpD, Option.some.injEq] at h
    split at h
    · cases h
    · split at h
      · rename_i e; rw [e]
      · cases h
  | .bl a, .bl b, h => by cases a <;> cases b <;> simp [cmpD] at h ⊢
  | .str x, .str y, h => by
    simp only [cmpD, Option.some.injEq] at h
    split at h
    · cases h
    · split at h
      · rename_i e; rw [e]
      · cases h
  | .tup xs, .tup ys, h => by
    simp only [cmpD] at h
    rw [cmpsD_eq h]
  | .int _, .non, h | .int _, .bl _, h | .int _, .str _, h | .int _, .tup _, h | .int _, .lst _, h | .int _, .scr _, h | .int _, .dct _ _, h | .int _, .ref _, h | .int _, .fn _, h | .int _, .ty _, h | .int _, .cls _, h => by simp [cmpD] at h
  | .bl _, .non, h | .bl _, .int _, h | .bl _, .str _, h | .bl _, .tup _, h | .bl _, .lst _, h | .bl _, .scr _, h | .bl _, .dct _ _, h | .bl _, .ref _, h | .bl _, .fn _, h | .bl _, .ty _, h | .bl _, .cls _, h => by simp [cmpD] at h
  | .str _, .non, h | .str _, .bl _, h | .str _, .int _, h | .str _, .tup _, h | .str _, .lst _, h | .str _, .scr _, h | .str _, .dct _ _, h | .str _, .ref _, h | .str _, .fn _, h | .str _, .ty _, h | .str _, .cls _, h => by simp [cmpD] at h
  | .tup _, .non, h | .tup _, .bl _, h | .tup _, .int _, h | .tup _, .str _, h | .tup _, .lst _, h | .tup _, .scr _, h | .tup _, .dct _ _, h | .tup _, .ref _, h | .tup _, .fn _, h | .tup _, .ty _, h | .tup _, .cls _, h => by simp [cmpD] at h
  | .non, _, h | .lst _, _, h | .scr _, _, h | .dct _ _, _, h | .ref _, _, h | .fn _, _, h | .ty _, _, h | .cls _, _, h => by simp [cmpD] at h
theorem cmpsD_eq : ∀ {xs ys : List D}, cmpsD xs ys = some .eq → xs = ys
  | [], [], _ => rfl
  | [], _ :: _, h => by simp [cmpsD] at h
  | _ :: _, [], h => by simp [cmpsD] at h
  | x :: xs, y :: ys, h => by
    unfold cmpsD at h
    cases e : cmpD x y with
    | none => rw [e] at h; cases h
    | some o =>
      rw [e] at h
      cases o with
      | eq => rw [cmpD_eq e, cmpsD_eq h]
      | lt => cases h
      | gt => cases h
end
mutual
theorem cmpD_swap : ∀ {x y : D} {o : Ordering}, cmpD x y = some o → cmpD y x = some o.swap
  | .int i, .int j, o, h => by
    simp only [cmpD, Option.some.injEq] at h ⊢
    subst h
    rcases Int.lt_trichotomy i j with c | c | c
    · simp [c, show ¬ j < i by omega, show ¬ j = i by omega]
    · simp [c]
    · simp [c, show ¬ i < j by omega, show ¬ i = j by omega]
  | .bl a, .bl b, o, h => by
    simp only [cmpD, Option.some.injEq] at h ⊢
    subst h
    cases a <;> cases b <;> rfl
  | .str x, .str y, o, h => by
    simp only [cmpD, Option.some.injEq] at h ⊢
    subst h
    by_cases c : x.cps.toList < y.cps.toList
    · have c2 : ¬ y.cps.toList < x.cps.toList := fun z => List.lt_irrefl _ (List.lt_trans c z)
      have c3 : ¬ y = x := fun z => by rw [z] at c; exact List.lt_irrefl _ c
      simp [c, c2, c3]
    · by_cases c4 : x = y
      · subst c4
        simp [c]
      · have c5 : y.cps.toList < x.cps.toList := by
          have q : ¬ x.cps.toList = y.cps.toList := fun z => c4 (by
            cases x; cases y
            simp only at z
            rw [Array.toList_inj.mp z])
          exact Decidable.byContradiction fun z => q (List.le_antisymm (List.not_lt.mp z) (List.not_lt.mp c))
        simp [c, c4, c5]
  | .tup xs, .tup ys, o, h => by
    simp only [cmpD] at h ⊢
    exact cmpsD_swap h
  | .int _, .non, _, h | .int _, .bl _, _, h | .int _, .str _, _, h | .int _, .tup _, _, h | .int _, .lst _, _, h | .int _, .scr _, _, h | .int _, .dct _ _, _, h | .int _, .ref _, _, h | .int _, .fn _, _, h | .int _, .ty _, _, h | .int _, .cls _, _, h => by simp [cmpD] at h
  | .bl _, .non, _, h | .bl _, .int _, _, h | .bl _, .str _, _, h | .bl _, .tup _, _, h | .bl _, .lst _, _, h | .bl _, .scr _, _, h | .bl _, .dct _ _, _, h | .bl _, .ref _, _, h | .bl _, .fn _, _, h | .bl _, .ty _, _, h | .bl _, .cls _, _, h => by simp [cmpD] at h
  | .str _, .non, _, h | .str _, .bl _, _, h | .str _, .int _, _, h | .str _, .tup _, _, h | .str _, .lst _, _, h | .str _, .scr _, _, h | .str _, .dct _ _, _, h | .str _, .ref _, _, h | .str _, .fn _, _, h | .str _, .ty _, _, h | .str _, .cls _, _, h => by simp [cmpD] at h
  | .tup _, .non, _, h | .tup _, .bl _, _, h | .tup _, .int _, _, h | .tup _, .str _, _, h | .tup _, .lst _, _, h | .tup _, .scr _, _, h | .tup _, .dct _ _, _, h | .tup _, .ref _, _, h | .tup _, .fn _, _, h | .tup _, .ty _, _, h | .tup _, .cls _, _, h => by simp [cmpD] at h
  | .non, _, _, h | .lst _, _, _, h | .scr _, _, _, h | .dct _ _, _, _, h | .ref _, _, _, h | .fn _, _, _, h | .ty _, _, _, h | .cls _, _, _, h => by simp [cmpD] at h
theorem cmpsD_swap : ∀ {xs ys : List D} {o : Ordering}, cmpsD xs ys = some o → cmpsD ys xs = some o.swap
  | [], [], _, h => by cases h; rfl
  | [], _ :: _, _, h => by cases h; rfl
  | _ :: _, [], _, h => by cases h; rfl
  | x :: xs, y :: ys, o, h => by
    unfold cmpsD at h ⊢
    cases e : cmpD x y with
    | none => rw [e] at h; cases h
    | some p =>
      rw [e] at h
      rw [cmpD_swap e]
      cases p with
      | eq => exact cmpsD_swap h
      | lt => cases h; rfl
      | gt => cases h; rfl
end
abbrev IO : PyProof.Rows.KeyOrd := PyProof.Rows.itemOrd
theorem lex_yes {a b : Int ⊕ List Nat} {l m : List (Int ⊕ List Nat)} (hne : a ≠ b) (h : itemLt a b = true) : lexLt IO (a :: l) (b :: m) = true := (lex_diff (O := IO) hne).trans h
theorem lex_same1 {a : Int ⊕ List Nat} {l m : List (Int ⊕ List Nat)} (h : lexLt IO l m = true) : lexLt IO (a :: l) (a :: m) = true := by
  rw [lex_cons]
  have e : itemLt a a = false := IO.irrefl a
  show (itemLt a a || !itemLt a a && lexLt IO l m) = true
  simp only [e, Bool.false_or, Bool.not_false, Bool.true_and]
  exact h
theorem lex_app {l m : List (Int ⊕ List Nat)} : ∀ {a : List (Int ⊕ List Nat)}, lexLt IO l m = true → lexLt IO (a ++ l) (a ++ m) = true
  | [], h => h
  | _ :: a, h => lex_same1 (lex_app (a := a) h)
mutual
theorem cmp_tok : ∀ {x y : D}, cmpD x y = some .lt → ∀ l m, lexLt IO (tokD x ++ l) (tokD y ++ m) = true
  | .int i, .int j, h, l, m => by
    simp only [cmpD, Option.some.injEq] at h
    split at h
    · rename_i c
      exact lex_yes (fun z => by cases z; omega) (by simpa [itemLt] using c)
    · split at h <;> cases h
  | .bl a, .bl b, h, l, m => by
    cases a <;> cases b <;> simp [cmpD] at h
    exact lex_yes (by simp) (by simp [itemLt])
  | .str x, .str y, h, l, m => by
    simp only [cmpD, Option.some.injEq] at h
    split at h
    · rename_i c
      exact lex_yes (fun z => by injection z with z; rw [z] at c; exact List.lt_irrefl _ c) (by
        show PyProof.Rows.strKind.blt _ _ = true
        simpa [PyProof.Rows.strKind] using c)
    · split at h <;> cases h
  | .tup xs, .tup ys, h, l, m => by
    simp only [cmpD] at h
    exact cmps_tok h l m
  | .int _, .non, h, _, _ | .int _, .bl _, h, _, _ | .int _, .str _, h, _, _ | .int _, .tup _, h, _, _ | .int _, .lst _, h, _, _ | .int _, .scr _, h, _, _ | .int _, .dct _ _, h, _, _ | .int _, .ref _, h, _, _ | .int _, .fn _, h, _, _ | .int _, .ty _, h, _, _ | .int _, .cls _, h, _, _ => by simp [cmpD] at h
  | .bl _, .non, h, _, _ | .bl _, .int _, h, _, _ | .bl _, .str _, h, _, _ | .bl _, .tup _, h, _, _ | .bl _, .lst _, h, _, _ | .bl _, .scr _, h, _, _ | .bl _, .dct _ _, h, _, _ | .bl _, .ref _, h, _, _ | .bl _, .fn _, h, _, _ | .bl _, .ty _, h, _, _ | .bl _, .cls _, h, _, _ => by simp [cmpD] at h
  | .str _, .non, h, _, _ | .str _, .bl _, h, _, _ | .str _, .int _, h, _, _ | .str _, .tup _, h, _, _ | .str _, .lst _, h, _, _ | .str _, .scr _, h, _, _ | .str _, .dct _ _, h, _, _ | .str _, .ref _, h, _, _ | .str _, .fn _, h, _, _ | .str _, .ty _, h, _, _ | .str _, .cls _, h, _, _ => by simp [cmpD] at h
  | .tup _, .non, h, _, _ | .tup _, .bl _, h, _, _ | .tup _, .int _, h, _, _ | .tup _, .str _, h, _, _ | .tup _, .lst _, h, _, _ | .tup _, .scr _, h, _, _ | .tup _, .dct _ _, h, _, _ | .tup _, .ref _, h, _, _ | .tup _, .fn _, h, _, _ | .tup _, .ty _, h, _, _ | .tup _, .cls _, h, _, _ => by simp [cmpD] at h
  | .non, _, h, _, _ | .lst _, _, h, _, _ | .scr _, _, h, _, _ | .dct _ _, _, h, _, _ | .ref _, _, h, _, _ | .fn _, _, h, _, _ | .ty _, _, h, _, _ | .cls _, _, h, _, _ => by simp [cmpD] at h
theorem cmps_tok : ∀ {xs ys : List D}, cmpsD xs ys = some .lt → ∀ l m, lexLt IO (toksD xs ++ l) (toksD ys ++ m) = true
  | [], [], h, _, _ => by cases h
  | [], y :: ys, _, l, m => by
    simp only [toksD, List.cons_append]
    exact lex_yes (by simp) (by simp [itemLt])
  | _ :: _, [], h, _, _ => by cases h
  | x :: xs, y :: ys, h, l, m => by
    unfold cmpsD at h
    simp only [toksD, List.cons_append, List.append_assoc]
    refine lex_same1 ?_
    cases e : cmpD x y with
    | none => rw [e] at h; cases h
    | some p =>
      rw [e] at h
      cases p with
      | eq =>
        rw [cmpD_eq e]
        exact lex_app (cmps_tok h l m)
      | lt => exact cmp_tok e _ _
      | gt => cases h
end
/-- the signs say the order -/
theorem tok_lt {x y : D} {o : Ordering} (h : cmpD x y = some o) : lexLt IO (tokD x) (tokD y) = (o == .lt) := by
  cases o with
  | lt => have := cmp_tok h [] []; simpa using this
  | eq => rw [cmpD_eq h]; exact lex_irrefl _
  | gt =>
    have q := cmp_tok (cmpD_swap h) [] []
    simp only [List.append_nil] at q
    cases e : lexLt IO (tokD x) (tokD y) with
    | false => rfl
    | true =>
      have := lex_trans (O := IO) _ _ _ e q
      rw [lex_irrefl] at this; cases this
mutual
theorem eqv_self : ∀ {x : D}, x.isDat = true → x.eqv x = true
  | .non, _ => rfl
  | .bl b, _ => by simp [D.eqv]
  | .int i, _ => by simp [D.eqv]
  | .str i, _ => by simp [D.eqv]
  | .tup xs, h => by simp only [D.isDat] at h; simp only [D.eqv]; exact eqvs_self h
  | .lst xs, h => by simp only [D.isDat] at h; simp only [D.eqv]; exact eqvs_self h
  | .scr _, h | .dct _ _, h | .ref _, h | .fn _, h | .ty _, h | .cls _, h => by simp [D.isDat] at h
theorem eqvs_self : ∀ {xs : List D}, isDats xs = true → eqvs xs xs = true
  | [], _ => rfl
  | x :: xs, h => by
    simp only [isDats, Bool.and_eq_true] at h
    simp [eqvs, eqv_self h.1, eqvs_self h.2]
end
mutual
/-- what can be compared is plain data, if both are; and == says whether it is the same -/
theorem cmp_eqv : ∀ {x y : D} {o : Ordering}, cmpD x y = some o → x.eqv y = (o == .eq)
  | .int i, .int j, o, h => by
    simp only [cmpD, Option.some.injEq] at h
    subst h
    rcases Int.lt_trichotomy i j with c | c | c
    · simp [D.eqv, c, show ¬ i = j by omega]
    · simp [D.eqv, c]
    · simp [D.eqv, show ¬ i < j by omega, show ¬ i = j by omega]
  | .bl a, .bl b, o, h => by
    simp only [cmpD, Option.some.injEq] at h
    subst h
    cases a <;> cases b <;> rfl
  | .str x, .str y, o, h => by
    simp only [cmpD, Option.some.injEq] at h
    subst h
    by_cases c4 : x = y
    · subst c4
      simp [D.eqv, List.lt_irrefl]
    · by_cases c : x.cps.toList < y.cps.toList <;> simp [D.eqv, c, c4]
  | .tup xs, .tup ys, o, h => by
    simp only [cmpD] at h
    simp only [D.eqv]
    exact cmps_eqv h
  | .int _, .non, _, h | .int _, .bl _, _, h | .int _, .str _, _, h | .int _, .tup _, _, h | .int _, .lst _, _, h | .int _, .scr _, _, h | .int _, .dct _ _, _, h | .int _, .ref _, _, h | .int _, .fn _, _, h | .int _, .ty _, _, h | .int _, .cls _, _, h => by simp [cmpD] at h
  | .bl _, .non, _, h | .bl _, .int _, _, h | .bl _, .str _, _, h | .bl _, .tup _, _, h | .bl _, .lst _, _, h | .bl _, .scr _, _, h | .bl _, .dct _ _, _, h | .bl _, .ref _, _, h | .bl _, .fn _, _, h | .bl _, .ty _, _, h | .bl _, .cls _, _, h => by simp [cmpD] at h
  | .str _, .non, _, h | .str _, .bl _, _, h | .str _, .int _, _, h | .str _, .tup _, _, h | .str _, .lst _, _, h | .str _, .scr _, _, h | .str _, .dct _ _, _, h | .str _, .ref _, _, h | .str _, .fn _, _, h | .str _, .ty _, _, h | .str _, .cls _, _, h => by simp [cmpD] at h
  | .tup _, .non, _, h | .tup _, .bl _, _, h | .tup _, .int _, _, h | .tup _, .str _, _, h | .tup _, .lst _, _, h | .tup _, .scr _, _, h | .tup _, .dct _ _, _, h | .tup _, .ref _, _, h | .tup _, .fn _, _, h | .tup _, .ty _, _, h | .tup _, .cls _, _, h => by simp [cmpD] at h
  | .non, _, _, h | .lst _, _, _, h | .scr _, _, _, h | .dct _ _, _, _, h | .ref _, _, _, h | .fn _, _, _, h | .ty _, _, _, h | .cls _, _, _, h => by simp [cmpD] at h
theorem cmps_eqv : ∀ {xs ys : List D} {o : Ordering}, cmpsD xs ys = some o → eqvs xs ys = (o == .eq)
  | [], [], _, h => by cases h; rfl
  | [], _ :: _, _, h => by cases h; rfl
  | _ :: _, [], _, h => by cases h; rfl
  | x :: xs, y :: ys, o, h => by
    unfold cmpsD at h
    simp only [eqvs]
    cases e : cmpD x y with
    | none => rw [e] at h; cases h
    | some p =>
      rw [e] at h
      rw [cmp_eqv e]
      cases p with
      | eq => simpa using cmps_eqv h
      | lt => cases h; rfl
      | gt => cases h; rfl
end
mutual
theorem cmp_ltD : ∀ {x y : D} {o : Ordering}, cmpD x y = some o → ltD x y = some (o == .lt)
  | .int i, .int j, o, h => by
    simp only [cmpD, Option.some.injEq] at h
    subst h
    by_cases c : i < j
    · simp [ltD, c]
    · by_cases c2 : i = j <;> simp [ltD, c, c2]
  | .bl a, .bl b, o, h => by
    simp only [cmpD, Option.some.injEq] at h
    subst h
    cases a <;> cases b <;> rfl
  | .str x, .str y, o, h => by
    simp only [cmpD, Option.some.injEq] at h
    subst h
    by_cases c : x.cps.toList < y.cps.toList
    · simp only [ltD, c, decide_true, if_true]
      rfl
    · by_cases c2 : x = y
      · simp only [ltD, c, c2, decide_false, if_false, if_true]
        simp [List.lt_irrefl]
      · simp only [ltD, c, c2, decide_false, if_false]
        rfl
  | .tup xs, .tup ys, o, h => by
    simp only [cmpD] at h
    simp only [ltD]
    exact cmps_ltD h
  | .int _, .non, _, h | .int _, .bl _, _, h | .int _, .str _, _, h | .int _, .tup _, _, h | .int _, .lst _, _, h | .int _, .scr _, _, h | .int _, .dct _ _, _, h | .int _, .ref _, _, h | .int _, .fn _, _, h | .int _, .ty _, _, h | .int _, .cls _, _, h => by simp [cmpD] at h
  | .bl _, .non, _, h | .bl _, .int _, _, h | .bl _, .str _, _, h | .bl _, .tup _, _, h | .bl _, .lst _, _, h | .bl _, .scr _, _, h | .bl _, .dct _ _, _, h | .bl _, .ref _, _, h | .bl _, .fn _, _, h | .bl _, .ty _, _, h | .bl _, .cls _, _, h => by simp [cmpD] at h
  | .str _, .non, _, h | .str _, .bl _, _, h | .str _, .int _, _, h | .str _, .tup _, _, h | .str _, .lst _, _, h | .str _, .scr _, _, h | .str _, .dct _ _, _, h | .str _, .ref _, _, h | .str _, .fn _, _, h | .str _, .ty _, _, h | .str _, .cls _, _, h => by simp [cmpD] at h
  | .tup _, .non, _, h | .tup _, .bl _, _, h | .tup _, .int _, _, h | .tup _, .str _, _, h | .tup _, .lst _, _, h | .tup _, .scr _, _, h | .tup _, .dct _ _, _, h | .tup _, .ref _, _, h | .tup _, .fn _, _, h | .tup _, .ty _, _, h | .tup _, .cls _, _, h => by simp [cmpD] at h
  | .non, _, _, h | .lst _, _, _, h | .scr _, _, _, h | .dct _ _, _, _, h | .ref _, _, _, h | .fn _, _, _, h | .ty _, _, _, h | .cls _, _, _, h => by simp [cmpD] at h
theorem cmps_ltD : ∀ {xs ys : List D} {o : Ordering}, cmpsD xs ys = some o → ltsD xs ys = some (o == .lt)
  | [], [], _, h => by cases h; rfl
  | [], _ :: _, _, h => by cases h; rfl
  | _ :: _, [], _, h => by cases h; rfl
  | x :: xs, y :: ys, o, h => by
    unfold cmpsD at h
    unfold ltsD
    cases e : cmpD x y with
    | none => rw [e] at h; cases h
    | some p =>
      rw [e] at h
      rw [cmp_eqv e]
      cases p with
      | eq => simpa using cmps_ltD h
      | lt => cases h; simpa using cmp_ltD e
      | gt => cases h; simpa using cmp_ltD e
end
end CP

set_option Elab.async false
set_option linter.all false
set_option maxRecDepth 100000
set_option autoImplicit false
/-! CpSort2: sorted(..) of data. -/
namespace CP
open PySem PySem.Spec PyProof.Rows L2 PySem.SeqAt PySem.W

mutual
theorem reads_uniq {h : Heap} : ∀ {x y : D} {v : Value} {o : Ordering} {as bs : List Addr}, cmpD x y = some o → Reads h v x.toPy as → Reads h v y.toPy bs → x = y
  | .int i, .int j, _, _, _, _, _, ra, rb => by
    simp only [D.toPy] at ra rb
    cases ra; cases rb; rfl
  | .bl i, .bl j, _, _, _, _, _, ra, rb => by
    simp only [D.toPy] at ra rb
    cases ra; cases rb; rfl
  | .str i, .str j, _, _, _, _, _, ra, rb => by
    simp only [D.toPy] at ra rb
    cases ra; cases rb; rfl
  | .tup xs, .tup ys, _, _, _, _, e, ra, rb => by
    simp only [cmpD] at e
    simp only [D.toPy] at ra rb
    cases ra with
    | tuple h1 h2 h3 h4 =>
      cases rb with
      | tuple k1 k2 k3 k4 =>
        rw [h1] at k1; cases k1
        rw [h3] at k3; cases k3
        rw [readsAll_uniq e h4 k4]
  | .int _, .non, _, _, _, _, e, _, _ | .int _, .bl _, _, _, _, _, e, _, _ | .int _, .str _, _, _, _, _, e, _, _ | .int _, .tup _, _, _, _, _, e, _, _ | .int _, .lst _, _, _, _, _, e, _, _ | .int _, .scr _, _, _, _, _, e, _, _ | .int _, .dct _ _, _, _, _, _, e, _, _ | .int _, .ref _, _, _, _, _, e, _, _ | .int _, .fn _, _, _, _, _, e, _, _ | .int _, .ty _, _, _, _, _, e, _, _ | .int _, .cls _, _, _, _, _, e, _, _ => by simp [cmpD] at e
  | .bl _, .non, _, _, _, _, e, _, _ | .bl _, .int _, _, _, _, _, e, _, _ | .bl _, .str _, _, _, _, _, e, _, _ | .bl _, .tup _, _, _, _, _, e, _, _ | .bl _, .lst _, _, _, _, _, e, _, _ | .bl _, .scr _, _, _, _, _, e, _, _ | .bl _, .dct _ _, _, _, _, _, e, _, _ | .bl _, .ref _, _, _, _, _, e, _, _ | .bl _, .fn _, _, _, _, _, e, _, _ | .bl _, .ty _, _, _, _, _, e, _, _ | .bl _, .cls _, _, _, _, _, e, _, _ => by simp [cmpD] at e
  | .str _, .non, _, _, _, _, e, _, _ | .str _, .bl _, _, _, _, _, e, _, _ | .str _, .int _, _, _, _, _, e, _, _ | .str _, .tup _, _, _, _, _, e, _, _ | .str _, .lst _, _, _, _, _, e, _, _ | .str _, .scr _, _, _, _, _, e, _, _ | .str _, .dct _ _, _, _, _, _, e, _, _ | .str _, .ref _, _, _, _, _, e, _, _ | .str _, .fn _, _, _, _, _, e, _, _ | .str _, .ty _, _, _, _, _, e, _, _ | .str _, .cls _, _, _, _, _, e, _, _ => by simp [cmpD] at e
  | .tup _, .non, _, _, _, _, e, _, _ | .tup _, .bl _, _, _, _, _, e, _, _ | .tup _, .int _, _, _, _, _, e, _, _ | .tup _, .str _, _, _, _, _, e, _, _ | .tup _, .lst _, _, _, _, _, e, _, _ | .tup _, .scr _, _, _, _, _, e, _, _ | .tup _, .dct _ _, _, _, _, _, e, _, _ | .tup _, .ref _, _, _, _, _, e, _, _ | .tup _, .fn _, _, _, _, _, e, _, _ | .tup _, .ty _, _, _, _, _, e, _, _ | .tup _, .cls _, _, _, _, _, e, _, _ => by simp [cmpD] at e
  | .non, _, _, _, _, _, e, _, _ | .lst _, _, _, _, _, _, e, _, _ | .scr _, _, _, _, _, _, e, _, _ | .dct _ _, _, _, _, _, _, e, _, _ | .ref _, _, _, _, _, _, e, _, _ | .fn _, _, _, _, _, _, e, _, _ | .ty _, _, _, _, _, _, e, _, _ | .cls _, _, _, _, _, _, e, _, _ => by simp [cmpD] at e
theorem readsAll_uniq {h : Heap} : ∀ {xs ys : List D} {vs : List Value} {o : Ordering} {as bs : List Addr}, cmpsD xs ys = some o → ReadsAll h vs (toPys xs) as → ReadsAll h vs (toPys ys) bs → xs = ys
  | [], [], _, _, _, _, _, _, _ => rfl
  | [], _ :: _, _, _, _, _, _, ra, rb => by
    simp only [toPys] at ra rb
    cases ra; cases rb
  | _ :: _, [], _, _, _, _, _, ra, rb => by
    simp only [toPys] at ra rb
    cases rb; cases ra
  | x :: xs, y :: ys, _, _, _, _, e, ra, rb => by
    simp only [toPys] at ra rb
    unfold cmpsD at e
    cases ra with
    | cons r1 r2 =>
      cases rb with
      | cons k1 k2 =>
        cases q : cmpD x y with
        | none => rw [q] at e; cases e
        | some p =>
          have exy := reads_uniq q r1 k1
          subst exy
          rw [q] at e
          have ep : p = .eq := by
            have := cmpD_swap q
            rw [q] at this
            cases p <;> simp at this ⊢
          subst ep
          rw [readsAll_uniq e r2 k2]
end
theorem cmp_self {x : D} {o : Ordering} (h : cmpD x x = some o) : o = .eq := by
  have := cmpD_swap h
  rw [h] at this
  cases o <;> simp at this ⊢
mutual
theorem cmp_dat : ∀ {x : D} {o : Ordering}, cmpD x x = some o → x.isDat = true
  | .int _, _, _ => rfl
  | .bl _, _, _ => rfl
  | .str _, _, _ => rfl
  | .tup xs, _, h => by
    simp only [cmpD] at h
    simp only [D.isDat]
    exact cmps_dat h
  | .non, _, h | .lst _, _, h | .scr _, _, h | .dct _ _, _, h | .ref _, _, h | .fn _, _, h | .ty _, _, h | .cls _, _, h => by simp [cmpD] at h
theorem cmps_dat : ∀ {xs : List D} {o : Ordering}, cmpsD xs xs = some o → isDats xs = true
  | [], _, _ => rfl
  | x :: xs, _, h => by
    unfold cmpsD at h
    cases q : cmpD x x with
    | none => rw [q] at h; cases h
    | some p =>
      rw [q] at h
      have ep := cmp_self q
      subst ep
      simp [isDats, cmp_dat q, cmps_dat h]
end
/-- which kind -/
def kndD : D → Nat
  | .int _ => 1
  | .bl _ => 2
  | .str _ => 3
  | .tup _ => 4
  | _ => 0
theorem cmp_type {x y : D} {o : Ordering} (h : cmpD x y = some o) : dataType x.toPy = dataType y.toPy := by
  cases x <;> cases y <;> simp [cmpD] at h <;> rfl
structure SOk (xs : List D) : Prop where
  cmp : ∀ a ∈ xs, ∀ b ∈ xs, ∃ o, cmpD a b = some o
  emp : ∀ a ∈ xs, noEmp a = true
  dep : deps xs ≤ 60
theorem sortOk_iff {xs : List D} : sortOk xs = true ↔ SOk xs := by
  unfold sortOk
  simp only [Bool.and_eq_true, List.all_eq_true, decide_eq_true_eq, Option.isSome_iff_exists]
  exact ⟨fun ⟨⟨a, b⟩, c⟩ => ⟨a, b, c⟩, fun h => ⟨⟨h.cmp, h.emp⟩, h.dep⟩⟩
theorem SOk.dat {xs : List D} (h : SOk xs) {a : D} (ha : a ∈ xs) : a.isDat = true := let ⟨_, e⟩ := h.cmp a ha a ha; cmp_dat e
theorem depth_mem : ∀ {xs : List D} {a : D}, a ∈ xs → a.dep ≤ deps xs
  | x :: xs, a, h => by
    simp only [deps]
    rcases List.mem_cons.mp h with rfl | h
    · omega
    · have := depth_mem h; omega
/-- the kind of keys that data make -/
noncomputable def dKind (h : Heap) (ds : List D) : PyProof.Rows.KeyKind where
  toKeyOrd := listOrd itemOrd
  keyOf v := open Classical in if q : ∃ d, d ∈ ds ∧ ∃ as, Reads h v d.toPy as then some (tokD q.choose) else none
  dflt := ([] : List (Int ⊕ List Nat))
theorem dKind_some {h : Heap} {ds : List D} (S : SOk ds) {v : Value} {d : D} {as : List Addr} (hd : d ∈ ds) (r : Reads h v d.toPy as) : (dKind h ds).keyOf v = some (tokD d) := by
  have q : ∃ d, d ∈ ds ∧ ∃ as, Reads h v d.toPy as := ⟨d, hd, as, r⟩
  have e : (dKind h ds).keyOf v = some (tokD q.choose) := by
    unfold dKind
    simp only
    rw [dif_pos q]
  obtain ⟨h1, as', h2⟩ := q.choose_spec
  obtain ⟨o, ho⟩ := S.cmp _ h1 _ hd
  rw [e, reads_uniq ho h2 r]
theorem dKind_inv {h : Heap} {ds : List D} {v : Value} {k : List (Int ⊕ List Nat)} (e : (dKind h ds).keyOf v = some k) : ∃ d as, d ∈ ds ∧ Reads h v d.toPy as ∧ k = tokD d := by
  unfold dKind at e
  simp only at e
  split at e
  · rename_i q
    obtain ⟨h1, as', h2⟩ := q.choose_spec
    exact ⟨_, as', h1, h2, (Option.some.inj e).symm⟩
  · cases e
section
variable {prog : Program} {w : World} {A : Around} {s : Shared}
/-- one against another, neither a tuple -/
theorem one_lt {f : Bool} {x y : D} {a b : Value} {as bs : List Addr} {E : Value → Shared → Prop} {Q : Bool → Shared → Prop} {o : Ordering} (hf : f = true → ∀ xs, x ≠ .tup xs) (ra : Reads s.heap a x.toPy as) (rb : Reads s.heap b y.toPy bs) (h : cmpD x y = some o)
    (lx : x.toPy.canLay0 = true) (ly : y.toPy.canLay0 = true) (hx : x.isDat = true) (hy : y.isDat = true) (hn : x.dep ≤ 60) (hu : A.units + 61 < cLine) (hq : Q (o == .lt) s) : wpAny (model prog w) A (oneLt' f a b) Q E s := by
  have hl := cmp_ltD h
  cases f with
  | false =>
    rw [oneLt'_eq]
    simp only [Bool.false_eq_true, if_false]
    exact wpAny_bind (rc_lt 60 x y A s a b as bs (o == .lt) hn hx hy lx ly ra rb hl (by omega) prog w E _ (wpAny_truthy_bool hq))
  | true =>
    have al : alike x.toPy y.toPy = true ∧ dataLt x.toPy y.toPy = (o == .lt) ∧ x.toPy ≠ .none ∧ x.toPy.depth = 0 ∧ ∀ xs, x.toPy ≠ .tuple xs := by
      cases x with
      | int i => cases y with
        | int j =>
          simp only [ltD, Option.some.injEq] at hl
          exact ⟨rfl, by show dataLt (.int i) (.int j) = _; rw [dataLt_int]; exact hl, (fun z => by cases z), rfl, (fun _ z => by cases z)⟩
        | _ => simp [cmpD] at h
      | bl i => cases y with
        | bl j =>
          simp only [ltD, Option.some.injEq] at hl
          exact ⟨rfl, by show dataLt (.bool i) (.bool j) = _; rw [dataLt_bool, ← hl]; cases i <;> cases j <;> rfl, (fun z => by cases z), rfl, (fun _ z => by cases z)⟩
        | _ => simp [cmpD] at h
      | str i => cases y with
        | str j =>
          simp only [ltD, Option.some.injEq] at hl
          exact ⟨rfl, by show dataLt (.str i) (.str j) = _; rw [dataLt_str]; exact hl, (fun z => by cases z), rfl, (fun _ z => by cases z)⟩
        | _ => simp [cmpD] at h
      | tup xs => exact absurd rfl (hf rfl xs)
      | _ => simp [cmpD] at h
    obtain ⟨a1, a2, a3, a4, a5⟩ := al
    exact oneLt_alike (fun _ => a5) ra rb a1 a3 (by rw [a4]; omega) (by rw [a2]; exact hq)
/-- tuple against tuple, from a place on -/
theorem tup_lt {b fin : Bool} {Q : Bool → Shared → Prop} : ∀ (xs ys : List D) (i : Nat) (vs ws : List Value) (as bs : List Addr) (o : Ordering), ReadsAll s.heap vs (toPys xs) as → ReadsAll s.heap ws (toPys ys) bs → cmpsD xs ys = some o → isDats xs = true → isDats ys = true →
    PyData.canLayAll0 (toPys xs) = true → PyData.canLayAll0 (toPys ys) = true → deps xs ≤ 60 → A.units + 61 < cLine → (b = true → i = 0 → ∀ x r t, xs = x :: r → x ≠ .tup t) → fin = decide (xs.length < ys.length) → Q (o == .lt) s → KatLex prog w A b fin Q (vs.zip ws) i s
  | [], [], i, _, _, _, _, _, ra, rb, h, _, _, _, _, _, _, _, hf, hq => by
    simp only [toPys] at ra rb
    cases ra; cases rb; cases h
    exact kat_nil (by rw [hf]; exact hq)
  | [], y :: ys, i, _, _, _, _, _, ra, _, h, _, _, _, _, _, _, _, hf, hq => by
    simp only [toPys] at ra
    cases ra; cases h
    rw [List.zip_nil_left]
    exact kat_nil (by rw [hf]; simpa using hq)
  | x :: xs, [], i, _, _, _, _, _, _, rb, h, _, _, _, _, _, _, _, hf, hq => by
    simp only [toPys] at rb
    cases rb; cases h
    rw [List.zip_nil_right]
    exact kat_nil (by rw [hf]; simpa using hq)
  | x :: xs, y :: ys, i, _, _, _, _, o, ra, rb, h, hx, hy, lx, ly, hn, hu, hb, hf, hq => by
    simp only [toPys] at ra rb lx ly
    simp only [isDats, Bool.and_eq_true] at hx hy
    simp only [PyData.canLayAll0, Bool.and_eq_true] at lx ly
    simp only [deps] at hn
    have hf' : fin = decide (xs.length < ys.length) := by
      rw [hf]; simp only [List.length_cons, Nat.add_lt_add_iff_right]
    unfold cmpsD at h
    cases ra with
    | cons r rs =>
      cases rb with
      | cons r' rs' =>
        rw [List.zip_cons_cons]
        cases e : cmpD x y with
        | none => rw [e] at h; cases h
        | some p =>
          rw [e] at h
          have eq := eqAt_reads _ _ A s _ _ _ _ r r' lx.1 ly.1 (by rw [dep_toPy _ hx.1, dep_toPy _ hy.1]; omega)
          rw [eqv_toPy _ _ hx.1 hy.1, cmp_eqv e] at eq
          refine kat_cons (eq prog w _ _ ?_)
          cases p with
          | eq => exact kat_yes (tup_lt xs ys (i + 1) _ _ _ _ o rs rs' h hx.2 hy.2 lx.2 ly.2 (by omega) hu (fun _ hi => absurd hi (Nat.succ_ne_zero i)) hf' hq)
          | lt =>
            cases h
            refine kat_no (one_lt (fun hbi t => ?_) r r' e lx.1 ly.1 hx.1 hy.1 (by omega) hu hq)
            rw [Bool.and_eq_true] at hbi
            exact hb hbi.1 (by simpa using hbi.2) x xs t rfl
          | gt =>
            cases h
            refine kat_no (one_lt (fun hbi t => ?_) r r' e lx.1 ly.1 hx.1 hy.1 (by omega) hu hq)
            rw [Bool.and_eq_true] at hbi
            exact hb hbi.1 (by simpa using hbi.2) x xs t rfl
theorem each_tups {h : Heap} : ∀ {vs : List Value} {ds : List D}, EachIs (fun v d => ∃ as, Reads h v d.toPy as) vs ds → (∀ d ∈ ds, ∃ x r, d = .tup (x :: r)) → ∃ fs, KatTups h vs fs ∧ fs.length = vs.length ∧ ∀ f ∈ fs, ∃ x r as, .tup (x :: r) ∈ ds ∧ Reads h f x.toPy as
  | _, _, .nil, _ => ⟨[], KatTups.nil, rfl, fun f hf => absurd hf (by simp)⟩
  | _, _, .cons (b := d) ⟨as, r⟩ t, ht => by
    obtain ⟨fs, h1, h2, h3⟩ := each_tups t fun d hd => ht d (List.mem_cons_of_mem _ hd)
    obtain ⟨x, rest, rfl⟩ := ht d List.mem_cons_self
    simp only [D.toPy, toPys] at r
    cases r with
    | @tuple a o xs n _ _ ho hc hd hr =>
      cases q : xs.toList with
      | nil => rw [q] at hr; cases hr
      | cons f fr =>
        rw [q] at hr
        cases hr with
        | cons r1 r2 =>
          have hf : xs[0]? = some f := by rw [← Array.getElem?_toList, q]; rfl
          refine ⟨f :: fs, KatTups.cons ho hc hd hf h1, by simp [h2], fun g hg => ?_⟩
          rcases List.mem_cons.mp hg with rfl | hg
          · exact ⟨x, rest, _, List.mem_cons_self, r1⟩
          · obtain ⟨x', r', as', m1, m2⟩ := h3 g hg
            exact ⟨x', r', as', List.mem_cons_of_mem _ m1, m2⟩
theorem sorts_at {vs : List Value} {ds : List D} (e : EachIs (fun v d => ∃ as, Reads s.heap v d.toPy as) vs ds) (S : SOk ds) (lay : ∀ d ∈ ds, d.toPy.canLay0 = true) (hu : A.units + 63 < cLine) : SortsAt prog w A s (dKind s.heap ds) vs := by
  refine ⟨fun v hv => ?_, ?_⟩
  · obtain ⟨d, hd, as, r⟩ := e.left v hv
    exact ⟨_, dKind_some S hd r⟩
  · have hdep : ∀ d ∈ ds, d.dep ≤ 60 := fun d hd => Nat.le_trans (depth_mem hd) S.dep
    have lt : ∀ (kd : SortKind), (∀ (E : Value → Shared → Prop) (x y : Value) (d d' : D) (as bs : List Addr) (o : Ordering) {Q : Bool → Shared → Prop}, d ∈ ds → d' ∈ ds → Reads s.heap x d.toPy as → Reads s.heap y d'.toPy bs → cmpD d d' = some o → Q (o == .lt) s → wpAny (model prog w) A (keyLt' kd x y) Q E s) →
        H.LtAt prog w A s (dKind s.heap ds) kd := fun kd hk E x y a b Q ha hb hq => by
      obtain ⟨d, as, hd, ra, rfl⟩ := dKind_inv ha
      obtain ⟨d', as', hd', rb, rfl⟩ := dKind_inv hb
      obtain ⟨o, ho⟩ := S.cmp d hd d' hd'
      have hq' : Q (lexLt IO (tokD d) (tokD d')) s := hq
      rw [tok_lt ho] at hq'
      exact hk E x y d d' as as' o hd hd' ra rb ho hq'
    cases ds with
    | nil =>
      cases e
      exact ⟨general', lt _ fun E x y d d' as bs o Q hd => absurd hd (by simp), fun h2 => absurd h2 (by simp)⟩
    | cons d₀ ds₀ =>
      have m0 : d₀ ∈ d₀ :: ds₀ := List.mem_cons_self
      by_cases ht : ∃ xs, d₀ = .tup xs
      · have tups : ∀ d ∈ d₀ :: ds₀, ∃ x r, d = .tup (x :: r) := fun d hd => by
          obtain ⟨xs, rfl⟩ := ht
          obtain ⟨o, ho⟩ := S.cmp _ m0 d hd
          have em := S.emp d hd
          cases d with
          | tup ys => cases ys with
            | nil => cases em
            | cons x r => exact ⟨x, r, rfl⟩
          | _ => simp [cmpD] at ho
        obtain ⟨x₀, r₀, e₀⟩ := tups d₀ m0
        have firsts : ∀ x r, .tup (x :: r) ∈ d₀ :: ds₀ → ∃ o, cmpD x x₀ = some o := fun x r hm => by
          obtain ⟨o, ho⟩ := S.cmp _ hm d₀ m0
          rw [e₀] at ho
          simp only [cmpD, cmpsD] at ho
          cases q : cmpD x x₀ with
          | none => rw [q] at ho; cases ho
          | some p => exact ⟨p, rfl⟩
        refine ⟨tuples' (dataType x₀.toPy != Value.type "tuple"), lt _ fun E x y d d' as bs o Q hd hd' ra rb ho hq => ?_, fun h2 E Q hq => ?_⟩
        · have dd := S.dat hd
          have dd' := S.dat hd'
          have ll := lay d hd
          have ll' := lay d' hd'
          have p1 := hdep d hd
          obtain ⟨x1, r1, rfl⟩ := tups d hd
          obtain ⟨x2, r2, rfl⟩ := tups d' hd'
          simp only [D.isDat] at dd dd'
          simp only [D.toPy, PyData.canLay0] at ll ll'
          simp only [D.dep] at p1
          simp only [D.toPy] at ra rb
          simp only [cmpD] at ho
          cases ra with
          | @tuple l o1 xs n _ _ h1 h2 h3 h4 =>
            cases rb with
            | @tuple l' o2 xs' n' _ _ k1 k2 k3 k4 =>
              have n1 : xs.size = (x1 :: r1).length := by simpa [toPys, toPys_len] using SeqAt.ReadsAll.length _ _ _ h4
              have n2 : xs'.size = (x2 :: r2).length := by simpa [toPys, toPys_len] using SeqAt.ReadsAll.length _ _ _ k4
              refine kat_lt h1 h3 k1 k3 (tup_lt (x1 :: r1) (x2 :: r2) 0 _ _ _ _ o h4 k4 ho dd dd' ll ll' (by omega) (by omega) (fun hb _ x r t ex => ?_) (by rw [n1, n2]) hq)
              obtain ⟨rfl, rfl⟩ := List.cons.inj ex
              obtain ⟨oo, q⟩ := firsts _ _ hd
              rw [← cmp_type q] at hb
              rintro rfl
              simp [D.toPy, dataType] at hb
        · obtain ⟨fs, t1, t2, t3⟩ := each_tups e tups
          refine kat_kind (T := dataType x₀.toPy) t1 (by omega) (fun f hf => ?_) (beq_self_eq_true _) hq
          obtain ⟨x, r, as, m1, m2⟩ := t3 f hf
          obtain ⟨oo, q⟩ := firsts x r m1
          rw [← cmp_type q]
          exact looks_reads m2
      · have hnt : ∀ d ∈ d₀ :: ds₀, ∀ xs, d ≠ .tup xs := fun d hd xs e => by
          obtain ⟨o, ho⟩ := S.cmp d hd d₀ m0
          subst e
          cases d₀ with
          | tup ys => exact ht ⟨ys, rfl⟩
          | _ => simp [cmpD] at ho
        refine ⟨oneType', lt _ fun E x y d d' as bs o Q hd hd' ra rb ho hq => ?_, fun h2 E Q hq => ?_⟩
        · rw [keyLt'_oneType]
          exact one_lt (fun _ => hnt d hd) ra rb ho (lay d hd) (lay d' hd') (S.dat hd) (S.dat hd') (hdep d hd) (by omega) hq
        · refine kas_kind (T := dataType d₀.toPy) h2 (fun v hv => ?_) ?_ (beq_self_eq_true _) hq
          · obtain ⟨d, hd, as, r⟩ := e.left v hv
            obtain ⟨o, ho⟩ := S.cmp d hd d₀ m0
            rw [← cmp_type ho]
            exact looks_reads r
          · refine dataType_other fun xs => ?_
            have := hnt d₀ m0
            obtain ⟨o, ho⟩ := S.cmp d₀ m0 d₀ m0
            cases d₀ with
            | tup ys => exact absurd rfl (this ys)
            | int _ => exact fun z => by cases z
            | str _ => exact fun z => by cases z
            | bl _ => exact fun z => by cases z
            | _ => simp [cmpD] at ho
end
end CP

set_option Elab.async false
set_option linter.all false
set_option maxRecDepth 100000
set_option autoImplicit false
/-! CpSort3: sorted(..) of lists, tuples, dicts. -/
namespace CP
open PySem PySem.Spec PyProof.Rows L2 PySem.SeqAt PySem.W
section
variable {prog : Program} {w : World} {A : Around} {E : Value → Shared → Prop} {s : Shared}
/-- sorted(u): what is collected, put in order -/
theorem sorted_gen {u : Value} {Q : Value → Shared → Prop}
    (hc : ∀ E', wpAny (model prog w) A.in1 (collect u) (fun vs s1 => vs.length ≤ sizeLine ∧ ∃ κ : PyProof.Rows.KeyKind, SortsAt prog w A.in1.in1 { s1 with heap := sortingHeap (s1.heap.push (seqObj "list" vs.toArray 0)) s1.heap.objs.size vs } κ vs ∧
      Q (.ref s1.heap.objs.size) { s1 with heap := sortedHeap (s1.heap.push (seqObj "list" vs.toArray 0)) s1.heap.objs.size vs (sortVals κ false vs vs).toArray }) E' s) :
    wpAny (model prog w) A (call (.builtin "sorted") [u]) Q E s := by
  refine Calls.call_function_entry kind_sorted plain_sorted entry_sorted (args_sorted1 _) ?_
  unfold Builtin.«sorted»
  refine wpAny_bind (m := checkCount "sorted" 1 1 _) (wpAny_pure ?_)
  refine wpAny_bind (wpAny_mono (hc _) (fun vs s1 ⟨hz, κ, S, q⟩ => ?_) fun _ _ e => e)
  refine wpAny_bind (wpAny_newList ?_ hz)
  have ho : (s1.heap.push (seqObj "list" vs.toArray 0)).get? s1.heap.objs.size = some (seqObj "list" vs.toArray 0) := Heap.get?_push_size _ rfl
  refine wpAny_bind (wpAny_holding (wpAny_call_entry slot_list_sort ⟨_, ho, rfl⟩ entry_list_sort (list_sort_vals (s := { s1 with heap := s1.heap.push (seqObj "list" vs.toArray 0) }) ho S hz ⟨_, rfl, wpAny_pure ⟨_, rfl, q⟩⟩) (args_list_sort _)))
/-- what a tuple or a list holds, collected -/
theorem collect_seq {l : Addr} {o : Obj} {vs : List Value} {n : Nat} {Q : List Value → Shared → Prop} (ho : s.heap.get? l = some o) (hT : o.cls = .type "list" ∨ o.cls = .type "tuple") (hd : o.data = .seq vs.toArray n) (hsz : vs.length ≤ sizeLine)
    (h : ∀ h', (∀ b u, s.heap.get? b = some u → h'.get? b = some u) → s.heap.objs.size ≤ h'.objs.size → Q vs { s with heap := h' }) : wpAny (model prog w) A (collect (.ref l)) Q E s := by
  unfold collect
  refine wpAny_bind (wpAny_runValue (codeAny_builtin entry_proto_collect' ?_))
  show wpAny _ _ (newList [] >>= fun z => again (.builtin "list.__iadd__" ⟨[z, .ref l], []⟩)) _ _ s
  refine wpAny_bind (wpAny_newList (wpAny_pure ⟨Code.quiet_builtin _ (by decide +kernel), codeAny_builtin entry_list_iadd' ?_⟩))
  have hp : (s.heap.push (seqObj "list" #[] 0)).get? s.heap.objs.size = some (seqObj "list" #[] 0) := Heap.get?_push_size _ rfl
  have hl : (s.heap.push (seqObj "list" #[] 0)).get? l = some o := Heap.get?_push_of_some _ ho
  show wpAny _ _ (Builtin.List.listExtendWith (.ref s.heap.objs.size) (.ref l) (.ref s.heap.objs.size)) _ _ { s with heap := s.heap.push (seqObj "list" #[] 0) }
  unfold Builtin.List.listExtendWith
  obtain ⟨T, hc, hT⟩ : ∃ T : String, o.cls = .type T ∧ (T = "list" ∨ T = "tuple") := by
    rcases hT with e | e
    · exact ⟨_, e, .inl rfl⟩
    · exact ⟨_, e, .inr rfl⟩
  refine wpAny_bind (wpAny_typeOf (T := T) ⟨o, hl, hc⟩ ?_)
  have c1 : (Builtin.List.listSameRef (.ref s.heap.objs.size) (.ref l) || Value.type T == Value.type "list" || Value.type T == Value.type "tuple") = true := by
    rcases hT with rfl | rfl
    · have e : (Value.type "list" == Value.type "list") = true := rfl
      rw [e, Bool.or_true, Bool.true_or]
    · have e : (Value.type "tuple" == Value.type "tuple") = true := rfl
      rw [e, Bool.or_true]
  rw [if_pos c1]
  refine wpAny_bind (listItems_at hl hd (wpAny_bind (listItems_at hp rfl ?_)))
  rw [if_neg (by simp)]
  have room : ((#[] : Array Value) ++ vs.toArray).size ≤ sizeLine + 1 := by
    rw [Array.size_append, List.size_toArray]
    show 0 + vs.length ≤ _
    omega
  refine wpAny_bind (listUpdate_at hp rfl ?_ (Nat.zero_le _) room)
  refine wpAny_pure ?_
  show wpAny (model prog w) A (load s.heap.objs.size >>= fun q => match q.data with
      | .seq xs _ => pure xs.toList
      | _ => unsupported "internal:collect") Q E { s with heap := (s.heap.push (seqObj "list" #[] 0)).update s.heap.objs.size (Obj.mapSeq (· ++ vs.toArray)) }
  refine wpAny_bind (wpAny_load (get?_update_seq hp _) ?_)
  show wpAny _ _ (pure ((#[] : Array Value) ++ vs.toArray).toList) Q E _
  have ev : ((#[] : Array Value) ++ vs.toArray).toList = vs := by simp
  rw [ev]
  refine wpAny_pure (h _ (fun b u e => ?_) (by rw [Heap.size_update, size_push']; omega))
  have hb : b < s.heap.objs.size := Heap.lt_size e
  rw [Heap.get?_update_ne _ _ _ _ (Nat.ne_of_lt hb)]
  exact Heap.get?_push_of_some _ e
end

section
variable {X : Cx} {pins : List (Addr × Obj)} {s : Shared} {σ : L2.St} {H : Hp} {mu : Mu}
theorem each_reps : ∀ {vs : List V} {its : List Value} {ds : List D}, Vals vs its → Reps X.K X.mg mu H vs ds → EachIs (fun v d => ∃ x, RelV x v ∧ Rep X.K X.mg mu H x d) its ds
  | _, _, _, .nil, .nil => .nil
  | _, _, _, .cons r rs, .cons q qs => .cons ⟨_, r, q⟩ (each_reps rs qs)
theorem reps_each : ∀ {its : List Value} {ds : List D}, EachIs (fun v d => ∃ x, RelV x v ∧ Rep X.K X.mg mu H x d) its ds → ∃ vs, Vals vs its ∧ Reps X.K X.mg mu H vs ds
  | _, _, .nil => ⟨[], .nil, .nil⟩
  | _, _, .cons ⟨x, r, q⟩ t => let ⟨vs, h1, h2⟩ := reps_each t; ⟨x :: vs, .cons r h1, .cons q h2⟩
theorem each_imp {α β : Type} {R R' : α → β → Prop} : ∀ {as : List α} {bs : List β}, EachIs R as bs → (∀ a, ∀ b ∈ bs, R a b → R' a b) → EachIs R' as bs
  | _, _, .nil, _ => .nil
  | _, _, .cons r t, h => .cons (h _ _ List.mem_cons_self r) (each_imp t fun a b hb => h a b (List.mem_cons_of_mem _ hb))
theorem each_rep_mem {R : Value → D → Prop} : ∀ {its : List Value} {ds : List D}, EachIs R its ds → ∀ d ∈ ds, ∃ v, R v d
  | _, _, .cons r t, d, h => by
    rcases List.mem_cons.mp h with rfl | h
    · exact ⟨_, r⟩
    · exact each_rep_mem t d h
theorem sortD_len (ds : List D) : (sortD ds).length = ds.length := by unfold sortD; exact List.length_mergeSort ds
/-- what is collected is sorted -/
theorem sorted_end {vs : List V} {its : List Value} {ds : List D} {Q : VK} (I : Inv X pins σ H s) (rv : Vals vs its) (rs : Reps X.K X.mg mu H vs ds) (S : SOk ds) (hu : X.A.units + 200 < cLine) (hz : ds.length ≤ sizeLine)
    (q : ∀ p ws, H p = none → Reps X.K X.mg mu H ws (sortD ds) → Q (.ref p) (upd H p (.lst ws))) :
    its.length ≤ sizeLine ∧ ∃ κ : PyProof.Rows.KeyKind, SortsAt X.prog X.w X.A.in1.in1 { s with heap := sortingHeap (s.heap.push (seqObj "list" its.toArray 0)) s.heap.objs.size its } κ its ∧
      EP X pins σ Q (.ref s.heap.objs.size) { s with heap := sortedHeap (s.heap.push (seqObj "list" its.toArray 0)) s.heap.objs.size its (sortVals κ false its its).toArray } := by
  have hl : its.length = ds.length := by rw [← rv.length, rs.length]
  have E := each_reps rv rs
  have old : ∀ b o, s.heap.get? b = some o → (sortingHeap (s.heap.push (seqObj "list" its.toArray 0)) s.heap.objs.size its).get? b = some o := fun b o e =>
    sortingHeap_old (Nat.ne_of_lt (Heap.lt_size e)) (Heap.get?_push_of_some _ e)
  have rd : ∀ d ∈ ds, ∀ v x, RelV x v → Rep X.K X.mg mu H x d → (∃ as, Reads s.heap v d.toPy as) ∧ d.toPy.canLay0 = true := fun d hd v x r q => by
    obtain ⟨dp, cl⟩ := Rep.dp q (S.dat hd)
    exact ⟨Dp.reads I _ x v dp r, cl⟩
  have lay : ∀ d ∈ ds, d.toPy.canLay0 = true := fun d hd => by
    obtain ⟨v, x, r, q⟩ := each_rep_mem E d hd
    exact (rd d hd v x r q).2
  have E2 : EachIs (fun v d => ∃ as, Reads (sortingHeap (s.heap.push (seqObj "list" its.toArray 0)) s.heap.objs.size its) v d.toPy as) its ds := each_imp E fun v d hd ⟨x, r, q⟩ => by
    obtain ⟨⟨as, z⟩, _⟩ := rd d hd v x r q
    exact ⟨as, PyProof.Rows.Reads.keeps old z⟩
  have SA := sorts_at (prog := X.prog) (w := X.w) (A := X.A.in1.in1) (s := { s with heap := sortingHeap (s.heap.push (seqObj "list" its.toArray 0)) s.heap.objs.size its }) E2 S lay (by show X.A.units + 1 + 1 + 63 < _; omega)
  refine ⟨by rw [hl]; exact hz, _, SA, ?_⟩
  have EK : EachIs (fun v d => (dKind (sortingHeap (s.heap.push (seqObj "list" its.toArray 0)) s.heap.objs.size its) ds).keyOf v = some (tokD d)) its ds := each_imp E2 fun v d hd ⟨as, z⟩ => dKind_some S hd z
  have EO := sortVals_each (κ := dKind (sortingHeap (s.heap.push (seqObj "list" its.toArray 0)) s.heap.objs.size its) ds) (rev := false) tokD E EK
  have EO : EachIs (fun v d => ∃ x, RelV x v ∧ Rep X.K X.mg mu H x d) (sortVals (dKind (sortingHeap (s.heap.push (seqObj "list" its.toArray 0)) s.heap.objs.size its) ds) false its its) (sortD ds) := EO
  obtain ⟨ws, w1, w2⟩ := reps_each EO
  have ho : (s.heap.push (seqObj "list" its.toArray 0)).get? s.heap.objs.size = some (seqObj "list" its.toArray 0) := Heap.get?_push_size _ rfl
  generalize sortVals (dKind (sortingHeap (s.heap.push (seqObj "list" its.toArray 0)) s.heap.objs.size its) ds) false its its = out at w1
  obtain ⟨c, hc⟩ := sortedHeap_at (vs := its) (out := out.toArray) ho
  have hp : H s.heap.objs.size = none := I.hok.fresh (Nat.le_refl _)
  refine ⟨.ref s.heap.objs.size, upd H s.heap.objs.size (.lst ws), I.laid (t' := s.toks) (fun b u e => ?_) (Nat.le_refl _) ⟨?_, out, c, w1, hc⟩, rfl, q _ ws hp w2⟩
  · have hb : b < s.heap.objs.size := Heap.lt_size e
    rw [sortedHeap_old (Nat.ne_of_lt hb) (by rw [size_push']; exact Nat.lt_succ_of_lt hb)]
    exact Heap.get?_push_of_some _ e
  · rw [w2.length, sortD_len]; exact hz
end
section
variable {X : Cx}
/-- sorted(x), x a list or a tuple -/
theorem call_sortL (hu : X.A.units + 200 < cLine) : CallR X (.builtin "sorted") (fun xs H Q => ∃ (l : Addr) (vs : List V) (mu : Mu) (ds : List D), xs = [.ref l] ∧ (SqL X.K H l vs ∨ SqT X.K H l vs) ∧ Reps X.K X.mg mu H vs ds ∧ SOk ds ∧ ds.length ≤ sizeLine ∧
    ∀ p ws, H p = none → Reps X.K X.mg mu H ws (sortD ds) → Q (.ref p) (upd H p (.lst ws))) := by
  intro pins s σ H xs us Q I r h
  obtain ⟨l, vs, mu, ds, rfl, hq, rs, S, hz, q⟩ := h
  rw [Vals.ref1 r]
  have go : ∀ (o : Obj) (its : List Value) (n : Nat), s.heap.get? l = some o → (o.cls = .type "list" ∨ o.cls = .type "tuple") → o.data = .seq its.toArray n → Vals vs its → wpAny (model X.prog X.w) X.A (call (.builtin "sorted") [.ref l]) (EP X pins σ Q) X.xe s := fun o its n ho hc hd rv => by
    have hl : its.length = ds.length := by rw [← rv.length, rs.length]
    refine sorted_gen fun E' => collect_seq ho hc hd (by rw [hl]; exact hz) fun h' hk _ => ?_
    have I1 : Inv X pins σ H { s with heap := h' } := I.kept (t' := s.toks) hk
    exact sorted_end I1 rv rs S hu hz q
  rcases hq with hq | hq
  · obtain ⟨its, rv, p, hzz⟩ := I.list hq
    obtain ⟨o, ho, hc, n, hd⟩ := p.isList
    exact go o its n ho (.inl hc) hd rv
  · obtain ⟨its, rv, p, hzz⟩ := I.tuple hq
    obtain ⟨o, ho, hc, n, hd⟩ := (show s.heap.IsTuple l its.toArray from p)
    exact go o its n ho (.inr hc) hd rv
theorem reps_keys {K : PySem.W.Frag} {mg : Str → Option Value} {mu : Mu} {H : Hp} : ∀ {ks : List Key}, (∀ k ∈ ks, ∀ x, k = .inr x → strGood x) → Reps K mg mu H (ks.map kV) (ks.map keyVal)
  | [], _ => .nil
  | .inl i :: ks, h => .cons (.int i) (reps_keys fun k hk => h k (List.mem_cons_of_mem _ hk))
  | .inr x :: ks, h => .cons (.str (h _ List.mem_cons_self x rfl)) (reps_keys fun k hk => h k (List.mem_cons_of_mem _ hk))
/-- sorted(d), d a dict -/
theorem call_sortK (hc : X.calm = true) (hu : X.A.units + 200 < cLine) : CallR X (.builtin "sorted") (fun xs H Q => ∃ (a : Addr) (kvs : List (Key × V)) (ks : List Key) (mu : Mu), xs = [.ref a] ∧ H a = some (.dK kvs) ∧ kvs.map (·.1) = ks ∧ (∀ k ∈ ks, ∀ x, k = .inr x → strGood x) ∧ SOk (ks.map keyVal) ∧ ks.length < 64 ∧
    ∀ p ws, H p = none → Reps X.K X.mg mu H ws (sortD (ks.map keyVal)) → Q (.ref p) (upd H p (.lst ws))) := by
  intro pins s σ H xs us Q I r h
  obtain ⟨a, kvs, ks, mu, rfl, ha, hks, hg, S, h64, q⟩ := h
  rw [Vals.ref1 r]
  obtain ⟨z, lo, vs, rel, dd⟩ := dk_of I.hok ha
  obtain ⟨ep, hat⟩ := dd.dictAt
  have ek : (kvs.map fun kv => kV kv.1) = ks.map kV := by rw [← hks, List.map_map]; rfl
  have ek2 : (kvs.map fun kv => kV kv.1) = vs.map fun p => kV p.1 := by
    have e := congrArg (List.map kV) rel.keys
    rw [List.map_map, List.map_map] at e
    exact e
  have h16 : vs.length ≤ sizeLine := by rw [← rel.length]; exact z
  have hz : (ks.map keyVal).length ≤ sizeLine := by rw [List.length_map, sizeLine_eq]; omega
  refine sorted_gen fun E' => PySem.W.kdu_collect (A := X.A.in1) (PySem.W.kdl_dict (knd := mixKind X.prog X.w) (kvs := vs) (ep := ep) lo) (I.ok.hd hc) hat h16 fun h' tk acc hk hacc => ?_
  have rv : Vals (ks.map kV) acc.toList := by
    rw [← ek, ek2]
    exact keys_at (by rw [Array.length_toList]; exact hacc.1) fun j v e => hacc.2 j v (by rw [← Array.getElem?_toList]; exact e)
  have I1 : Inv X pins σ H { s with heap := h', toks := tk } := I.kept hk
  exact sorted_end I1 rv (reps_keys hg) S hu hz q
end
end CP

set_option Elab.async false
set_option linter.all false
set_option maxRecDepth 100000
set_option autoImplicit false
/-! CpSet1: sets of nested keys: what is asked of a key. -/
namespace CP
open PySem PySem.Spec PyProof.Rows L2
section
variable {P : Program} {w : World}
/-- no class statement is behind v -/
def ClsNo (P : Program) (w : World) (n : Nat) (s : Shared) (v : Value) : Prop := ∀ (B : Around) (Ex : Value → Shared → Prop) (R : Bool → Shared → Prop), R false s → wpAny (model P w) B (ofAClassStatement n v) R Ex s
/-- whether hash(v) goes by value: it is told -/
def ByvSome (P : Program) (w : World) (n : Nat) (s : Shared) (v : Value) : Prop := ∀ (B : Around) (Ex : Value → Shared → Prop) (R : Bool → Shared → Prop), (∀ c, R c s) → wpAny (model P w) B (hashByValue n v) R Ex s
theorem ClsNo.flat {n : Nat} {s : Shared} {v : Value} (h : ofAClassStatement n v = pure false) : ClsNo P w n s v := fun B Ex R hr => by
  rw [h]; exact wpAny_pure hr
theorem ByvSome.flat {n : Nat} {s : Shared} {v : Value} {c : Bool} (h : hashByValue n v = pure c) : ByvSome P w n s v := fun B Ex R hr => by
  rw [h]; exact wpAny_pure (hr c)
theorem ClsNo.tup {n : Nat} {s : Shared} {b : Addr} {o : Obj} {us : Array Value} {m : Nat} (g : s.heap.get? b = some o) (gc : o.cls = .type "tuple") (gd : o.data = .seq us m) (all : ∀ u ∈ us.toList, ClsNo P w n s u) : ClsNo P w (n + 1) s (.ref b) := fun B Ex R hr => by
  unfold ofAClassStatement
  refine wpAny_bind (wpAny_typeOf (T := "tuple") ⟨o, g, gc⟩ ?_)
  dsimp only
  have e : (("tuple" : String) == "tuple") = true := by decide
  simp only [e, if_true, Bool.not_true, Bool.false_eq_true, if_false]
  try refine wpAny_bind (wpAny_pure ?_)
  try simp only [Bool.not_true, Bool.false_eq_true, if_false]
  show wpAny _ _ (seqItems? (.ref b) >>= _) _ _ s
  refine wpAny_bind (wpAny_seqItems g gd ?_)
  dsimp only
  refine wpAny_bind ?_
  show wpAny _ _ (forIn us _ _) _ _ s
  rw [← Array.forIn_toList]
  refine wpAny_forIn_list _ (fun left c s1 => c.1 = none ∧ s1 = s ∧ ∀ u ∈ left, ClsNo P w n s u) _ (fun u left c s1 hh => ?_) (fun c s1 hh => ?_) _ _ ⟨rfl, rfl, all⟩
  · obtain ⟨h1, rfl, h3⟩ := hh
    refine wpAny_bind (h3 u List.mem_cons_self _ _ _ ?_)
    simp only [Bool.false_eq_true, if_false]
    exact wpAny_pure ⟨rfl, rfl, fun z hz => h3 z (List.mem_cons_of_mem _ hz)⟩
  · obtain ⟨c1, c2⟩ := c
    obtain ⟨h1, rfl, _⟩ := hh
    simp only at h1
    subst h1
    exact wpAny_pure hr
theorem ByvSome.tup {n : Nat} {s : Shared} {b : Addr} {o : Obj} {us : Array Value} {m : Nat} (g : s.heap.get? b = some o) (gc : o.cls = .type "tuple") (gd : o.data = .seq us m) (all : ∀ u ∈ us.toList, ByvSome P w n s u) : ByvSome P w (n + 1) s (.ref b) := fun B Ex R hr => by
  unfold hashByValue
  refine wpAny_bind (wpAny_specialOf (T := "tuple") ⟨o, g, gc⟩ F.slot_tuple_hash.lookup ?_)
  show wpAny _ _ (seqItems? (.ref b) >>= _) _ _ s
  refine wpAny_bind (wpAny_seqItems g gd ?_)
  refine wpAny_bind ?_
  show wpAny _ _ (forIn us _ _) _ _ s
  rw [← Array.forIn_toList]
  refine wpAny_forIn_list _ (fun left c s1 => c.1 = none ∧ s1 = s ∧ ∀ u ∈ left, ByvSome P w n s u) _ (fun u left c s1 hh => ?_) (fun c s1 hh => ?_) _ _ ⟨rfl, rfl, all⟩
  · obtain ⟨h1, rfl, h3⟩ := hh
    refine wpAny_bind (h3 u List.mem_cons_self _ _ _ fun k => ?_)
    cases k with
    | true =>
      simp only [Bool.not_true, Bool.false_eq_true, if_false]
      exact wpAny_pure ⟨rfl, rfl, fun z hz => h3 z (List.mem_cons_of_mem _ hz)⟩
    | false =>
      simp only [Bool.not_false, if_true]
      exact wpAny_pure (wpAny_pure (hr false))
  · obtain ⟨c1, c2⟩ := c
    obtain ⟨h1, rfl, _⟩ := hh
    simp only at h1
    subst h1
    exact wpAny_pure (hr _)
mutual
theorem cls_key : ∀ (y : NestedKey) (v : Value) (n : Nat) (s : Shared), NestedIs s.heap y v → y.depth ≤ n → ClsNo P w n s v
  | .none, _, n, s, x, _ => by cases x; exact .flat (by cases n <;> rfl)
  | .num i, _, n, s, x, _ => by cases x <;> exact .flat (by cases n <;> rfl)
  | .text z, _, n, s, x, _ => by cases x; exact .flat (by cases n <;> rfl)
  | .tup ys, _, n, s, x, hn => by
    cases x with
    | tup g gc gd ga =>
      simp only [NestedKey.depth] at hn
      cases n with
      | zero => exact absurd hn (Nat.not_succ_le_zero _)
      | succ n => exact .tup g gc gd (cls_keys ys _ n s ga (Nat.le_of_succ_le_succ hn))
theorem cls_keys : ∀ (ys : List NestedKey) (us : List Value) (n : Nat) (s : Shared), NestedAll s.heap ys us → NestedKey.depthAll ys ≤ n → ∀ u ∈ us, ClsNo P w n s u
  | [], _, n, s, x, _, u, hu => by cases x; cases hu
  | y :: ys, _, n, s, x, hn, u, hu => by
    cases x with
    | cons x1 x2 =>
      simp only [NestedKey.depthAll] at hn
      rcases List.mem_cons.mp hu with rfl | hu
      · exact cls_key y _ n s x1 (by omega)
      · exact cls_keys ys _ n s x2 (by omega) u hu
end
mutual
theorem byv_key : ∀ (y : NestedKey) (v : Value) (n : Nat) (s : Shared), NestedIs s.heap y v → ByvSome P w n s v
  | .none, _, n, s, x => by cases x; exact .flat (c := true) (by cases n <;> rfl)
  | .num i, _, n, s, x => by cases x <;> exact .flat (c := true) (by cases n <;> rfl)
  | .text z, _, n, s, x => by cases x; exact .flat (c := false) (by cases n <;> rfl)
  | .tup ys, _, n, s, x => by
    cases x with
    | tup g gc gd ga =>
      cases n with
      | zero => exact .flat (c := false) rfl
      | succ n => exact .tup g gc gd (byv_keys ys _ n s ga)
theorem byv_keys : ∀ (ys : List NestedKey) (us : List Value) (n : Nat) (s : Shared), NestedAll s.heap ys us → ∀ u ∈ us, ByvSome P w n s u
  | [], _, n, s, x, u, hu => by cases x; cases hu
  | y :: ys, _, n, s, x, u, hu => by
    cases x with
    | cons x1 x2 =>
      rcases List.mem_cons.mp hu with rfl | hu
      · exact byv_key y _ n s x1
      · exact byv_keys ys _ n s x2 u hu
end
/-- the tuple at a is the key y -/
structure KeyAt (h : Heap) (y : NestedKey) (a : Addr) : Prop where
  is : NestedIs h y (.ref a)
  low : y.depth ≤ 8
theorem KeyAt.knd {h : Heap} {y : NestedKey} {a : Addr} (x : KeyAt h y a) : (nestedKind P w).is h y a := ⟨x.is, x.low⟩
theorem KeyAt.old {h h' : Heap} {y : NestedKey} {a : Addr} (x : KeyAt h y a) (old : ∀ b o us m, h.get? b = some o → o.data = .seq us m → h'.get? b = some o) : KeyAt h' y a := ⟨NestedIs.at old y _ x.is, x.low⟩
theorem KeyAt.inj {h : Heap} {y z : NestedKey} {a : Addr} (x : KeyAt h y a) (x' : KeyAt h z a) : y = z := NestedIs.inj _ _ _ x.is x'.is
/-- a search among keys shows nothing -/
theorem seen_keys {B : Around} {Ex : Value → Shared → Prop} {s : Shared} {y : NestedKey} {b : Addr} {R : Bool → Shared → Prop} (hb : KeyAt s.heap y b) {us : List Value} (hu : ∀ u ∈ us, ∃ z c, u = Value.ref c ∧ KeyAt s.heap z c) (hr : R false s) :
    wpAny (model P w) B (searchCouldBeSeen (.ref b) us) R Ex s := by
  unfold searchCouldBeSeen
  refine wpAny_bind ?_
  refine wpAny_forIn_list _ (fun left c s1 => c.1 = none ∧ s1 = s ∧ ∀ u ∈ left, ∃ z c, u = Value.ref c ∧ KeyAt s.heap z c) _ (fun u left c s1 hh => ?_) (fun c s1 hh => ?_) _ _ ⟨rfl, rfl, hu⟩
  · obtain ⟨h1, rfl, h3⟩ := hh
    obtain ⟨z, d, rfl, hd⟩ := h3 u List.mem_cons_self
    have tail : ∀ u ∈ left, ∃ z c, u = Value.ref c ∧ KeyAt s1.heap z c := fun u hu => h3 u (List.mem_cons_of_mem _ hu)
    dsimp only
    by_cases same : (b == d || (carriedByValue (.ref b) && carriedByValue (.ref d))) = true
    · exact wp_if_pos same (wpAny_pure ⟨rfl, rfl, tail⟩)
    · refine wp_if_neg same (wpAny_bind ((nestedKind P w).quiet hb.knd ?_))
      simp only [Bool.not_true, Bool.false_eq_true, if_false]
      refine wpAny_bind ((nestedKind P w).quiet hd.knd ?_)
      simp only [Bool.not_true, Bool.false_eq_true, if_false]
      refine wpAny_bind (cls_key y _ 8 s1 hb.is hb.low _ _ _ ?_)
      simp only [Bool.false_eq_true, if_false]
      refine wpAny_bind (cls_key z _ 8 s1 hd.is hd.low _ _ _ ?_)
      simp only [Bool.false_eq_true, if_false]
      exact wpAny_pure ⟨rfl, rfl, tail⟩
  · obtain ⟨c1, c2⟩ := c
    obtain ⟨h1, rfl, _⟩ := hh
    simp only at h1
    subst h1
    exact wpAny_pure hr
end
end CP

set_option Elab.async false
set_option linter.all false
set_option maxRecDepth 100000
set_option autoImplicit false
/-! CpSet2: sets of nested keys: the search, and adding. -/
namespace CP
open PySem PySem.Spec PyProof.Rows L2
/-- where a search for hv stands behind c steps -/
def stand (m : Nat) (hv : Int) (c : Nat) : SetTable.Probe := nth m (runAt m (SetTable.bits hv % (m + 1)) (SetTable.bits hv)) c
theorem stand_on (m : Nat) (hv : Int) (c d : Nat) : nth m (stand m hv c) d = stand m hv (c + d) := (nth_add m c _ d).symm
theorem stand_clean (m : Nat) (hv : Int) : ∀ c, (stand m hv c).dummy = none := fun c => by
  have go : ∀ (d : Nat) (p : SetTable.Probe), p.dummy = none → (nth m p d).dummy = none := by
    intro d
    induction d with
    | zero => exact fun p hp => hp
    | succ d ih => exact fun p hp => ih (adv m p) (by unfold adv; split <;> exact hp)
  exact go c _ rfl
abbrev Mem := List (Addr × NestedKey)
def rowsN (w : World) (M : Mem) : List (Int × Value) := M.map fun p => (p.2.hash w, Value.ref p.1)
def hashN (w : World) (M : Mem) : List Int := M.map fun p => p.2.hash w
/-- the set at a has the members M, so laid -/
structure NSet (w : World) (h : Heap) (a : Addr) (M : Mem) (rs : Array (Int × Value)) (e0 : Nat) (tb : SetTable) : Prop where
  obj : ∃ o, h.get? a = some o ∧ o.ExactSet ∧ o.data = .set rs e0 tb
  rows : rs.toList = rowsN w M
  lay : TabOk tb (hashN w M)
  one : (M.map Prod.snd).Nodup
  keys : ∀ p ∈ M, KeyAt h p.2 p.1
  led : w.params.followText "set-order" = true ∨ tb.led = true
  room : M.length * 5 < tb.mask * 3
  few : M.length < 64
theorem rowsN_len {w : World} {M : Mem} {rs : Array (Int × Value)} (h : rs.toList = rowsN w M) : rs.size = M.length := by
  rw [← Array.length_toList, h, rowsN, List.length_map]
theorem hashN_len (w : World) (M : Mem) : (hashN w M).length = M.length := List.length_map _
theorem rowsN_at {w : World} {M : Mem} {rs : Array (Int × Value)} (h : rs.toList = rowsN w M) {i : Nat} {p : Addr × NestedKey} (hi : M[i]? = some p) : rs[i]? = some (p.2.hash w, Value.ref p.1) := by
  rw [← Array.getElem?_toList, h, rowsN, List.getElem?_map, hi]
  rfl
theorem fits_of {tb : SetTable} {n : Nat} (h1 : tb.place.size = n) (h2 : tb.dummies = #[]) (h3 : n ≤ tb.mask) : tb.fits n = true := by
  unfold SetTable.fits SetTable.fill
  rw [h2, h1]
  simpa using h3
section
variable {P : Program} {w : World} {B : Around} {Ex : Value → Shared → Prop} {s : Shared} {a : Addr} {M : Mem} {rs : Array (Int × Value)} {e0 : Nat} {tb : SetTable}
theorem NSet.size (Z : NSet w s.heap a M rs e0 tb) : rs.size = M.length := rowsN_len Z.rows
theorem NSet.places (Z : NSet w s.heap a M rs e0 tb) : tb.place.size = M.length := Z.lay.sz.trans (hashN_len w M)
theorem NSet.fits (Z : NSet w s.heap a M rs e0 tb) : tb.fits rs.size = true := by
  have := Z.room
  rw [Z.size]
  exact fits_of Z.places Z.lay.dm (by omega)
theorem NSet.clean (Z : NSet w s.heap a M rs e0 tb) : ¬ tb.gaveWay = true := by
  unfold SetTable.gaveWay
  rw [mask_odd Z.lay.mok]
  decide
section
variable {x : Addr} {y : NestedKey} {K : Nat} {R : SetFound → Shared → Prop}
/-- the members that are y stand further on the way -/
def Ahead (w : World) (M : Mem) (tb : SetTable) (y : NestedKey) (K c : Nat) : Prop := ∀ (i : Nat) p, M[i]? = some p → p.2 = y → ∃ d, c ≤ d ∧ d < K ∧ tb.place.toList[i]? = some (way tb.mask (y.hash w) d)
theorem seek (Z : NSet w s.heap a M rs e0 tb) (hx : KeyAt s.heap y x) (hu : B.units + 8 < cLine) (kf : K < 10 * SetTable.turns tb.mask) (kn : way tb.mask (y.hash w) K ∉ tb.place.toList) (kb : ∀ c, c < K → way tb.mask (y.hash w) c ∈ tb.place.toList)
    (yes : y ∈ M.map Prod.snd → R (.there none) s) (no : y ∉ M.map Prod.snd → R (.free (way tb.mask (y.hash w) K) false) s) :
    ∀ (fuel c : Nat) (at? : Option SetTable.Probe), at?.getD (tb.probeStart (y.hash w)) = stand tb.mask (y.hash w) c → c ≤ K → K < fuel + c → Ahead w M tb y K c → wpAny (model P w) B (setSearchFrom a (.ref x) (y.hash w) true fuel at?) R Ex s := by
  intro fuel
  induction fuel with
  | zero => intro c at? _ h1 h2 _; omega
  | succ fuel ih =>
    intro c at? hat hc hf ah
    obtain ⟨o, ho, hex, hd⟩ := Z.obj
    have wj : ∀ d, (nth tb.mask (stand tb.mask (y.hash w) c) d).j = way tb.mask (y.hash w) (c + d) := fun d => congrArg SetTable.Probe.j (stand_on tb.mask (y.hash w) c d)
    have told := go_spec tb Z.lay.ris Z.lay.dm (fun i => (rs[i]?.map (·.1)).getD 0) (y.hash w) (10 * SetTable.turns tb.mask) (K - c) (stand tb.mask (y.hash w) c) (stand_clean _ _ c) (Nat.lt_of_le_of_lt (Nat.sub_le K c) kf)
      (fun d hd' => by rw [wj]; exact kb _ (by omega)) (by rw [wj, Nat.add_sub_cancel' hc]; exact kn)
    have hashes : ∀ (i : Nat) p, M[i]? = some p → (rs[i]?.map (·.1)).getD 0 = p.2.hash w := fun i p hp => by
      rw [rowsN_at Z.rows hp]
      rfl
    rw [setSearchFrom_succ]
    refine wpAny_bind (wpAny_setState_of ho hd Z.fits ?_)
    dsimp only
    refine wp_if_neg Z.clean ?_
    try refine wpAny_bind (wpAny_pure ?_)
    rcases told with ⟨d, i, hdk, hi, hh, before, found⟩ | ⟨before, found⟩
    · -- one of the same hash
      rw [wj] at hi
      have probe : tb.probe (fun i => (rs[i]?.map (·.1)).getD 0) (y.hash w) (at?.getD (tb.probeStart (y.hash w))) = some (.candidate (way tb.mask (y.hash w) (c + d)) i (stand tb.mask (y.hash w) (c + (d + 1)))) := by
        rw [hat, ← wj, ← stand_on]
        exact found
      rw [probe]
      dsimp only
      have hil : i < M.length := by
        have := (List.getElem?_eq_some_iff.mp hi).1
        rw [Array.length_toList, Z.places] at this
        exact this
      obtain ⟨p, hp⟩ : ∃ p, M[i]? = some p := ⟨_, List.getElem?_eq_getElem hil⟩
      have pm := List.mem_of_getElem? hp
      have live := slot_live Z.lay.ris hi
      have look : wpAny (model P w) B (searchRest a (.ref x) (y.hash w) true fuel rs tb (way tb.mask (y.hash w) (c + d)) i (stand tb.mask (y.hash w) (c + (d + 1)))) R Ex s := by
        unfold searchRest
        rw [rowsN_at Z.rows hp]
        dsimp only
        refine wpAny_bind (wpAny_holding ((nestedKind P w).eqBool hu (Z.keys p pm).knd hx.knd ?_))
        refine wpAny_bind (wpAny_setState_of ho hd Z.fits ?_)
        dsimp only
        by_cases same : p.2 = y
        · exact wp_if_pos (by simp [same]) (wpAny_pure (yes (List.mem_map.mpr ⟨p, pm, same⟩)))
        · refine wp_if_neg (by simp [same]) ?_
          try refine wpAny_bind (wpAny_pure ?_)
          rw [sameMem]
          dsimp only
          simp only [if_true, live, rowsN_at Z.rows hp]
          refine wpAny_bind (wpAny_isSame_ref_self (wpAny_bind (wpAny_pure ?_)))
          simp only [if_true]
          refine wp_if_neg (by simp [same]) (ih (c + (d + 1)) _ rfl (by omega) (by omega) fun j q hq e => ?_)
          obtain ⟨g, g1, g2, g3⟩ := ah j q hq e
          have n1 : ¬ g < c + d := fun lt => before (g - c) j (by omega) (by rw [wj, Nat.add_sub_cancel' g1]; exact g3) ((hashes j q hq).trans (by rw [e]))
          have n2 : g ≠ c + d := fun eg => by
            rw [eg] at g3
            have z := slot_live Z.lay.ris g3
            rw [live] at z
            injection z with z
            subst z
            rw [hp] at hq
            cases hq
            exact same e
          exact ⟨g, by omega, g2, g3⟩
      by_cases hl : tb.led = true
      · refine wp_if_neg (by simp [hl]) ?_
        try refine wpAny_bind (wpAny_pure ?_)
        exact look
      · refine wp_if_pos (by simp [hl]) (wpAny_bind (seen_keys hx (fun u hu' => ?_) (wp_if_neg (by decide) ?_)))
        · obtain ⟨r, hr, er⟩ := List.mem_map.mp hu'
          have hr1 : r ∈ rs.toList := by
            have : r ∈ rs ∧ r.1 = y.hash w := by simpa using hr
            simpa using this.1
          rw [Z.rows] at hr1
          obtain ⟨q, hq, eq⟩ := List.mem_map.mp hr1
          exact ⟨q.2, q.1, by rw [← er, ← eq], Z.keys q hq⟩
        · try refine wpAny_bind (wpAny_pure ?_)
          exact look
    · -- a free place
      have probe : tb.probe (fun i => (rs[i]?.map (·.1)).getD 0) (y.hash w) (at?.getD (tb.probeStart (y.hash w))) = some (.empty (way tb.mask (y.hash w) K) none) := by
        have e : way tb.mask (y.hash w) K = (nth tb.mask (stand tb.mask (y.hash w) c) (K - c)).j := by rw [wj, Nat.add_sub_cancel' hc]
        rw [hat, e]
        exact found
      rw [probe]
      dsimp only
      refine wpAny_pure (no fun hm => ?_)
      obtain ⟨p, pm, e⟩ := List.mem_map.mp hm
      obtain ⟨i, hi⟩ := List.getElem?_of_mem pm
      obtain ⟨g, g1, g2, g3⟩ := ah i p hi e
      exact before (g - c) i (by omega) (by rw [wj, Nat.add_sub_cancel' g1]; exact g3) ((hashes i p hi).trans (by rw [e]))
/-- the search, as adding asks for it -/
theorem find (Z : NSet w s.heap a M rs e0 tb) (hx : KeyAt s.heap y x) (hu : B.units + 8 < cLine) (yes : y ∈ M.map Prod.snd → R (.there none) s)
    (no : ∀ L, y ∉ M.map Prod.snd → way tb.mask (y.hash w) L ∉ tb.place.toList → (∀ c, c < L → way tb.mask (y.hash w) c ∈ tb.place.toList) → R (.free (way tb.mask (y.hash w) L) false) s) :
    wpAny (model P w) B (setSearch a (.ref x) (y.hash w) true) R Ex s := by
  have r1 := Z.room
  obtain ⟨L, lf, ln, lb⟩ := Z.lay.first (by rw [hashN_len]; omega) (y.hash w)
  have short : 10 * SetTable.turns tb.mask ≤ 2000 := by
    unfold SetTable.turns
    rcases Z.lay.mok with e | e | e <;> rw [e] <;> decide
  unfold setSearch
  refine seek Z hx hu lf ln lb yes (fun n => no L n ln lb) 100000 0 none rfl (Nat.zero_le _) (by omega) fun i p hp e => ?_
  have hi : (hashN w M)[i]? = some (y.hash w) := by
    rw [hashN, List.getElem?_map, hp, ← e]
    rfl
  have il : i < tb.place.toList.length := by
    rw [Array.length_toList, Z.places]
    exact (List.getElem?_eq_some_iff.mp hp).1
  obtain ⟨d, dk, ed⟩ := Z.lay.before ln hi (List.getElem?_eq_getElem il)
  exact ⟨d, Nat.zero_le _, dk, by rw [List.getElem?_eq_getElem il, ed]⟩
end
/-! ### the table, laid anew -/
theorem pick_range {α : Type} : ∀ l : List α, (List.range l.length).filterMap (fun i => l[i]?) = l
  | [] => rfl
  | x :: l => by
    rw [List.length_cons, List.range_succ_eq_map]
    have e : (fun i => (x :: l)[i]?) 0 = some x := rfl
    rw [List.filterMap_cons_some e, List.filterMap_map]
    exact congrArg (x :: ·) (pick_range l)
theorem pick_all {α β : Type} {f : α → Option β} {g : α → β} : ∀ {l : List α}, (∀ i ∈ l, f i = some (g i)) → l.filterMap f = l.map g
  | [], _ => rfl
  | i :: l, h => by
    rw [List.filterMap_cons_some (h i List.mem_cons_self), pick_all fun j hj => h j (List.mem_cons_of_mem _ hj)]
    rfl
theorem order_at {rs : Array (Int × Value)} {M : Mem} {order : Array Nat} (hr : rs.toList = rowsN w M) (hp : order.toList.Perm (List.range M.length)) :
    ∃ M', (order.filterMap (rs[·]?)).toList = rowsN w M' ∧ M'.Perm M ∧ hashN w M' = order.toList.map fun i => (rs.map (·.1)).getD i 0 := by
  have rsAt : ∀ i, rs[i]? = (M[i]?).map fun (p : Addr × NestedKey) => (p.2.hash w, Value.ref p.1) := fun i => by
    rw [← Array.getElem?_toList, hr, rowsN, List.getElem?_map]
  refine ⟨order.toList.filterMap fun i => M[i]?, ?_, ?_, ?_⟩
  · rw [rowsN, List.map_filterMap, Array.toList_filterMap]
    exact congrArg (fun f => List.filterMap f order.toList) (funext rsAt)
  · have q := hp.filterMap fun i => M[i]?
    rwa [pick_range] at q
  · rw [hashN, List.map_filterMap]
    refine pick_all fun i hi => ?_
    have il : i < M.length := List.mem_range.mp (hp.mem_iff.mp hi)
    have e1 : M[i]? = some M[i] := List.getElem?_eq_getElem il
    have e2 : (rs.map (·.1))[i]? = some (M[i].2.hash w) := by rw [Array.getElem?_map, rsAt, e1]; rfl
    rw [e1, Array.getD_eq_getD_getElem?, e2]
    rfl
theorem other_set {h h' : Heap} {o : Obj} {y : NestedKey} {b : Addr} (x : KeyAt h y b) (ho : h.get? a = some o) (hd : o.data = .set rs e0 tb) (sb : Heap.SameBut a h h') : KeyAt h' y b := x.old fun c q us m e de => by
  have ne : c ≠ a := fun z => by
    subst z
    rw [ho] at e
    cases e
    rw [hd] at de
    cases de
  exact (sb.2 c ne).trans e
/-- what is said of the set behind a step -/
def Then (w : World) (s : Shared) (a : Addr) (M : Mem) (C : Mem → Heap → Prop) : Prop := ∀ h' M' rs' e' tb', Heap.SameBut a s.heap h' → NSet w h' a M' rs' e' tb' → M'.Perm M → C M' h'
theorem relay {o : Obj} (ho : s.heap.get? a = some o) (hex : o.ExactSet) (hd : o.data = .set rs e0 tb) (hr : rs.toList = rowsN w M) (hp : tb.place.size = M.length) (hdm : tb.dummies = #[]) (hm : M.length ≤ tb.mask)
    (one : (M.map Prod.snd).Nodup) (keys : ∀ p ∈ M, KeyAt s.heap p.2 p.1) (led : w.params.followText "set-order" = true ∨ tb.led = true) (few : M.length < 64) {wanted top : Nat}
    (ht : SetTable.sizeAbove wanted - 1 = top) (hk : MaskOk top) (hw : SetTable.sizeAbove wanted ≤ 128) (room : M.length * 5 < top * 3) {R : Unit → Shared → Prop}
    (q : Then w s a M fun _ h' => R () { s with heap := h' }) : wpAny (model P w) B (setRelay a wanted) R Ex s := by
  have zr := rowsN_len hr
  have ft : tb.fits rs.size = true := fits_of (by rw [zr]; exact hp) hdm (by rw [zr]; exact hm)
  obtain ⟨tb', order, e, pm, lay, em, el, _, _⟩ := relaid_ok tb (hs := rs.map (·.1)) (wanted := wanted) ht hk (by rw [Array.size_map, zr]; omega)
  rw [Array.size_map, zr] at pm
  obtain ⟨M', r1, r2, r3⟩ := order_at hr pm
  rw [← r3] at lay
  have zr' : (order.filterMap (rs[·]?)).size = rs.size := by rw [rowsN_len r1, r2.length_eq, zr]
  rw [setRelay_eq]
  refine wpAny_bind (wpAny_setState_of ho hd ft ?_)
  dsimp only
  refine wp_if_neg (by rw [sizeLine_eq]; omega) ?_
  try refine wpAny_bind (wpAny_pure ?_)
  rw [e]
  dsimp only
  refine wpAny_bind (wp_if_neg (by rw [zr']; simp) ?_)
  try refine wpAny_bind (wpAny_pure ?_)
  refine wpAny_pure ?_
  dsimp only
  refine wpAny_storeSet_of ho hd ?_ (by rw [zr', zr, sizeLine_eq]; omega)
  have sb : Heap.SameBut a s.heap (s.heap.update a (Obj.putSet (order.filterMap (rs[·]?)) tb')) := Heap.SameBut.update ..
  refine q _ M' _ (e0 + 1) tb' sb ⟨⟨_, store_at ho hd, ⟨hex.1, hex.2.1, hex.2.2⟩, rfl⟩, r1, lay, (r2.map Prod.snd).nodup_iff.mpr one, fun p hpm => other_set (keys p (r2.mem_iff.mp hpm)) ho hd sb, by rw [el]; exact led, ?_, by rw [r2.length_eq]; exact few⟩ r2
  rw [r2.length_eq, em]
  exact room
theorem rowsN_ins (w : World) (M : Mem) (n : Nat) (x : Addr) (y : NestedKey) : rowsN w (M.take n ++ (x, y) :: M.drop n) = (rowsN w M).take n ++ (y.hash w, Value.ref x) :: (rowsN w M).drop n := by
  simp [rowsN, List.map_take, List.map_drop]
theorem hashN_ins (w : World) (M : Mem) (n : Nat) (x : Addr) (y : NestedKey) : hashN w (M.take n ++ (x, y) :: M.drop n) = (hashN w M).take n ++ y.hash w :: (hashN w M).drop n := by
  simp [hashN, List.map_take, List.map_drop]
theorem lay_like {t t2 : SetTable} {hs : List Int} (T : TabOk t hs) (e1 : t2.mask = t.mask) (e2 : t2.place = t.place) (e3 : t2.dummies = t.dummies) : TabOk t2 hs :=
  ⟨by rw [e2]; exact T.ris, by rw [e3]; exact T.dm, by rw [e2]; exact T.sz, by rw [e1]; exact T.mok, by rw [e1, e2]; exact T.bd, by rw [e1, e2]; exact T.reach⟩
theorem add {x : Addr} {y : NestedKey} {R : Bool → Shared → Prop} (Z : NSet w s.heap a M rs e0 tb) (hx : KeyAt s.heap y x) (hu : B.units + 8 < cLine) (few : M.length + 1 < 64)
    (q : ∀ b h' M' rs' e' tb', Heap.SameBut a s.heap h' → NSet w h' a M' rs' e' tb' → (y ∈ M.map Prod.snd → M' = M) → (y ∉ M.map Prod.snd → M'.Perm ((x, y) :: M)) → R b { s with heap := h' }) :
    wpAny (model P w) B (setAddHashed a (.ref x) (y.hash w)) R Ex s := by
  obtain ⟨o, ho, hex, hd⟩ := Z.obj
  have zr := Z.size
  have r0 := Z.room
  unfold setAddHashed
  refine wpAny_holding ?_
  rw [show (100000 : Nat) = 99999 + 1 from rfl, setAddHashedIn_succ]
  refine wpAny_bind (wpAny_setState_of ho hd Z.fits ?_)
  dsimp only
  refine wp_if_neg (by simp [byScan, Value.scannable]) ?_
  try refine wpAny_bind (wpAny_pure ?_)
  refine wpAny_bind (find Z hx hu (fun yes => ?_) fun L new ln lb => ?_)
  · dsimp only
    exact wpAny_pure (q false s.heap M rs e0 tb (Heap.SameBut.refl a s.heap) Z (fun _ => rfl) fun n => absurd yes n)
  dsimp only
  refine wpAny_bind (wpAny_setState_of ho hd Z.fits ?_)
  dsimp only
  obtain ⟨p1, p2, p3, p4, p5, p6, p7, p8, p9⟩ := Z.lay.put ln lb
  have ins : (SetTable.insertAt rs (SetTable.below tb.place (way tb.mask (y.hash w) L)) (y.hash w, Value.ref x)).toList = rowsN w (M.take (SetTable.below tb.place (way tb.mask (y.hash w) L)) ++ (x, y) :: M.drop (SetTable.below tb.place (way tb.mask (y.hash w) L))) := by
    rw [SetTable.toList_insertAt, rowsN_ins, Z.rows]
  rw [← hashN_ins w M _ x y] at p3
  generalize tb.put (way tb.mask (y.hash w) L) = got at p1 p3 p4 p5 p6 p7 p8 p9 ⊢
  obtain ⟨t1, n⟩ := got
  dsimp only at p1 p3 p4 p5 p6 p7 p8 p9 ⊢
  subst p1
  generalize SetTable.below tb.place (way tb.mask (y.hash w) L) = n at p2 p3 ins ⊢
  have pm := put_perm M n (x, y)
  have one1 : ((M.take n ++ (x, y) :: M.drop n).map Prod.snd).Nodup := by
    rw [(pm.map Prod.snd).nodup_iff, List.map_cons]
    exact List.nodup_cons.mpr ⟨new, Z.one⟩
  have len1 : (M.take n ++ (x, y) :: M.drop n).length = M.length + 1 := pm.length_eq
  generalize M.take n ++ (x, y) :: M.drop n = M1 at pm p3 one1 len1 ins
  have zr1 := rowsN_len ins
  rw [len1] at zr1
  generalize SetTable.insertAt rs n (y.hash w, Value.ref x) = rs1 at ins zr1 ⊢
  have rest : ∀ t2 : SetTable, t2.mask = t1.mask → t2.place = t1.place → t2.dummies = t1.dummies → t2.led = t1.led →
      wpAny (model P w) B (storeSet a rs1 t2 >>= fun _ => if (!false && t2.tooFull) = true then (setRelay a (SetTable.grown (rs.size + 1)) >>= fun _ => pure true) else pure true) R Ex s := fun t2 e1 e2 e3 e4 => by
    have lay2 := lay_like p3 e1 e2 e3
    have fill2 : t2.fill = M.length + 1 := by
      have : t2.fill = t1.fill := by unfold SetTable.fill; rw [e2, e3]
      rw [this, p9, hashN_len]
    have led2 : w.params.followText "set-order" = true ∨ t2.led = true := by rw [e4, p5]; exact Z.led
    refine wpAny_bind (wpAny_storeSet_of ho hd ?_ (by rw [zr1, sizeLine_eq]; omega))
    have sb : Heap.SameBut a s.heap (s.heap.update a (Obj.putSet rs1 t2)) := Heap.SameBut.update ..
    have ho1 := store_at (es' := rs1) (t' := t2) ho hd
    have keys1 : ∀ p ∈ M1, KeyAt (s.heap.update a (Obj.putSet rs1 t2)) p.2 p.1 := fun p hp => by
      rcases List.mem_cons.mp (pm.mem_iff.mp hp) with rfl | old
      · exact other_set hx ho hd sb
      · exact other_set (Z.keys p old) ho hd sb
    generalize s.heap.update a (Obj.putSet rs1 t2) = h1 at sb ho1 keys1 ⊢
    by_cases full : t2.tooFull = true
    · refine wp_if_pos (by rw [full]; rfl) (wpAny_bind ?_)
      have much : (M.length + 1) * 5 ≥ tb.mask * 3 := by
        unfold SetTable.tooFull at full
        rw [decide_eq_true_eq, fill2, e1, p4] at full
        exact full
      have again : ∀ top, SetTable.sizeAbove (SetTable.grown (rs.size + 1)) - 1 = top → MaskOk top → SetTable.sizeAbove (SetTable.grown (rs.size + 1)) ≤ 128 → (M.length + 1) * 5 < top * 3 → M.length + 1 ≤ tb.mask →
          wpAny (model P w) B (setRelay a (SetTable.grown (rs.size + 1))) (fun _ s1 => wpAny (model P w) B (pure true) R Ex s1) Ex { s with heap := h1 } := fun top t1' t2' t3' t4' t5' => by
        refine relay (s := { s with heap := h1 }) ho1 ⟨hex.1, hex.2.1, hex.2.2⟩ rfl ins (by rw [lay2.sz, hashN_len]) lay2.dm (by rw [len1, e1, p4]; exact t5') one1 keys1 led2 (by rw [len1]; exact few) t1' t2' t3' (by rw [len1]; exact t4') ?_
        intro h2 M2 rs2 e2' tb2 sb2 Z2 pm2
        exact wpAny_pure (q true h2 M2 rs2 e2' tb2 (sb.trans sb2) Z2 (fun yes => absurd yes new) fun _ => pm2.trans pm)
      rw [zr] at again ⊢
      rcases Z.lay.mok with e | e | e
      · have m4 : M.length = 4 := by rw [e] at much r0; omega
        exact again 31 (by rw [m4, size_20]) (.inr (.inl rfl)) (by rw [m4, size_20]; decide) (by omega) (by omega)
      · have m18 : M.length = 18 := by rw [e] at much r0; omega
        exact again 127 (by rw [m18, size_76]) (.inr (.inr rfl)) (by rw [m18, size_76]; decide) (by omega) (by omega)
      · exact absurd much (by rw [e]; omega)
    · refine wp_if_neg (by simpa using full) (wpAny_pure (q true h1 M1 rs1 (e0 + 1) t2 sb ⟨⟨_, ho1, ⟨hex.1, hex.2.1, hex.2.2⟩, rfl⟩, ins, lay2, one1, keys1, led2, ?_, by rw [len1]; exact few⟩ (fun yes => absurd yes new) fun _ => pm))
      unfold SetTable.tooFull at full
      rw [decide_eq_true_eq, fill2] at full
      rw [len1]
      omega
  have r1 := rest t1 rfl rfl rfl rfl
  have r2 := rest { t1 with plain := false } rfl rfl rfl rfl
  by_cases hp : t1.plain = true
  · refine wp_if_pos hp (wpAny_bind (byv_key y _ 8 s hx.is _ _ _ fun c => ?_))
    cases c
    · exact r2
    · exact r1
  · refine wp_if_neg hp ?_
    try refine wpAny_bind (wpAny_pure ?_)
    exact r1
end
end CP

set_option Elab.async false
set_option linter.all false
set_option maxRecDepth 100000
set_option autoImplicit false
/-! CpSet3: set(list) of nested keys. -/
namespace CP
open PySem PySem.Spec PyProof.Rows L2
/-- M holds each key of the items so far, and nothing else -/
structure Holds (items M : Mem) (i : Nat) : Prop where
  sub : ∀ p ∈ M, p ∈ items
  all : ∀ j p, j < i → items[j]? = some p → p.2 ∈ M.map Prod.snd
  len : M.length ≤ i
theorem Holds.none (items : Mem) : Holds items [] 0 := ⟨(by intro p h; cases h), (by intro j p h; exact absurd h (Nat.not_lt_zero _)), Nat.le_refl _⟩
theorem Holds.step {items M M' : Mem} {i : Nat} {x : Addr × NestedKey} (h : Holds items M i) (hx : items[i]? = some x) (c1 : x.2 ∈ M.map Prod.snd → M' = M) (c2 : x.2 ∉ M.map Prod.snd → M'.Perm (x :: M)) : Holds items M' (i + 1) := by
  by_cases c : x.2 ∈ M.map Prod.snd
  · rw [c1 c]
    refine ⟨h.sub, fun j p hj hp => ?_, Nat.le_succ_of_le h.len⟩
    rcases Nat.lt_succ_iff_lt_or_eq.mp hj with lt | rfl
    · exact h.all j p lt hp
    · rw [hx] at hp; cases hp; exact c
  · have pm := c2 c
    refine ⟨fun p hp => ?_, fun j p hj hp => ?_, by rw [pm.length_eq, List.length_cons]; exact Nat.succ_le_succ h.len⟩
    · rcases List.mem_cons.mp (pm.mem_iff.mp hp) with rfl | old
      · exact List.mem_of_getElem? hx
      · exact h.sub p old
    · rw [(pm.map Prod.snd).mem_iff, List.map_cons]
      rcases Nat.lt_succ_iff_lt_or_eq.mp hj with lt | rfl
      · exact List.mem_cons_of_mem _ (h.all j p lt hp)
      · rw [hx] at hp; cases hp; exact List.mem_cons_self
theorem KeyAt.kept {h h' : Heap} {y : NestedKey} {b : Addr} (x : KeyAt h y b) (k : ∀ c o, h.get? c = some o → h'.get? c = some o) : KeyAt h' y b := x.old fun c o _ _ e _ => k c o e
theorem NSet.kept {w : World} {h h' : Heap} {a : Addr} {M : Mem} {rs : Array (Int × Value)} {e0 : Nat} {tb : SetTable} (Z : NSet w h a M rs e0 tb) (ka : ∀ o, h.get? a = some o → h'.get? a = some o) (kk : ∀ p ∈ M, KeyAt h' p.2 p.1) : NSet w h' a M rs e0 tb :=
  let ⟨o, ho, r⟩ := Z.obj
  ⟨⟨o, ka o ho, r⟩, Z.rows, Z.lay, Z.one, kk, Z.led, Z.room, Z.few⟩
/-- a set that was just made -/
abbrev newSet (w : World) : Obj := { cls := .type "set", dict := none, data := .set #[] 0 (.fresh 0 0 (!w.params.followText "set-order")) }
theorem NSet.empty {w : World} {h : Heap} {a : Addr} (ho : h.get? a = some (newSet w)) : NSet w h a [] #[] 0 (.fresh 0 0 (!w.params.followText "set-order")) := by
  have lay : TabOk (.fresh 0 0 (!w.params.followText "set-order")) (hashN w []) := by
    refine ⟨.nil, rfl, rfl, .inl rfl, ?_, ?_⟩
    · intro z hz; cases hz
    · intro i hv j hi; simp [hashN] at hi
  refine ⟨⟨_, ho, ⟨rfl, rfl, rfl⟩, rfl⟩, rfl, lay, .nil, ?_, ?_, by show 0 * 5 < 7 * 3; decide, by decide⟩
  · intro p hp; cases hp
  · show _ ∨ (!w.params.followText "set-order") = true
    cases w.params.followText "set-order"
    · exact .inr rfl
    · exact .inl rfl
section
variable {P : Program} {w : World} {B : Around} {Ex : Value → Shared → Prop} {s : Shared}
/-- what a loop that adds the items leaves -/
structure Left (w : World) (h0 : Heap) (items : Mem) (S : Addr) (i : Nat) (h : Heap) : Prop where
  old : ∀ b o, h0.get? b = some o → h.get? b = some o
  got : ∃ M rs e0 tb, NSet w h S M rs e0 tb ∧ Holds items M i
theorem set_loop {I : Addr} {fp wr : List Addr} {G : Array GenState → Array GenState → Prop} {n : Nat} {Pv : Nat → Value → Prop} {St : Nat → Shared → Prop} {R : Result → Shared → Prop}
    (W : WalksS P w B.in1 I fp wr G n Pv St) (S : Addr) (nS : S ∉ fp) (items : Mem) (hn : n = items.length) (few : items.length < 64) (vals : ∀ i v, Pv i v → ∃ p, items[i]? = some p ∧ v = .ref p.1)
    (h0 : Heap) (keys : ∀ p ∈ items, KeyAt h0 p.2 p.1) (newS : h0.get? S = none) (newW : ∀ b ∈ wr, h0.get? b = none) (hu : B.in1.units + 8 < cLine) (q : ∀ s1, Moved (S :: wr) G s s1 → Left w h0 items S n s1.heap → R (.ok (.ret .none)) s1) :
    ∀ (d i : Nat) (s1 : Shared), n - i = d → i ≤ n → St i s1 → Moved (S :: wr) G s s1 → Left w h0 items S i s1.heap → codeAny (model P w) B (.builtin "set.update.loop" ⟨[.ref S, .ref I], []⟩) R s1 := by
  have inW : ∀ b ∈ wr, b ∈ S :: wr := fun b hb => List.mem_cons_of_mem _ hb
  have nW : S ∉ wr := fun h => nS (W.sub _ h)
  have on : ∀ {s1 s2 : Shared} {i : Nat}, Moved wr G s1 s2 → Left w h0 items S i s1.heap → Left w h0 items S i s2.heap := fun hm L => by
    have old2 : ∀ b o, h0.get? b = some o → _ := fun b o e => hm.heap b o (fun hb => by rw [newW b hb] at e; cases e) (L.old b o e)
    obtain ⟨M, rs, e0, tb, Z, g⟩ := L.got
    exact ⟨old2, M, rs, e0, tb, Z.kept (fun o e => hm.heap S o nW e) fun p hp => (keys p (g.sub p hp)).kept old2, g⟩
  intro d
  induction d with
  | zero =>
    intro i s1 hd hi hst mv L
    obtain rfl : i = n := by omega
    refine codeAny_builtin F.entry_set_update_loop ?_
    rw [Around.under_plainId F.plain_set_update_loop _]
    show wpAny _ B.in1 (pyNext (.ref I) >>= _) _ _ s1
    refine wpAny_bind (W.done s1 _ _ hst fun s2 hm => ?_)
    show wpAny _ B.in1 (ret Value.none) _ _ s2
    exact wpAny_pure (q s2 (Moved.trans W.gtrans mv (hm.mono inW)) (on hm L))
  | succ d ih =>
    intro i s1 hd hi hst mv L
    have lt : i < n := by omega
    refine codeAny_builtin F.entry_set_update_loop ?_
    rw [Around.under_plainId F.plain_set_update_loop _]
    show wpAny _ B.in1 (pyNext (.ref I) >>= _) _ _ s1
    refine wpAny_bind (W.item i s1 _ _ lt hst fun v s2 hP hst2 hm => ?_)
    obtain ⟨p, hp, rfl⟩ := vals i v hP
    have L2 := on hm L
    obtain ⟨M, rs, e0, tb, Z, g⟩ := L2.got
    have kp : KeyAt s2.heap p.2 p.1 := (keys p (List.mem_of_getElem? hp)).kept L2.old
    show wpAny _ B.in1 (holding [Value.ref p.1] (setAdd S (.ref p.1)) >>= _) _ _ s2
    refine wpAny_bind (wpAny_holding ?_)
    unfold setAdd
    refine wpAny_holding (wpAny_bind ((nestedKind P w).pyHash hu kp.knd ?_))
    refine add (s := { s2 with toks := s2.toks + p.2.draws }) Z kp hu (by have := g.len; omega) fun b h3 M3 rs3 e3 tb3 sb Z3 c1 c2 => ?_
    have other : ∀ b, b ≠ S → ∀ o, s2.heap.get? b = some o → h3.get? b = some o := fun b nb o e => (sb.2 b nb).trans e
    have old3 : ∀ b o, h0.get? b = some o → h3.get? b = some o := fun b o e => other b (fun z => by rw [z, newS] at e; cases e) o (L2.old b o e)
    refine wpAny_pure ⟨plainId_quiet F.plain_set_update_loop _, ih (i + 1) _ (by omega) lt (W.frame _ s2 _ _ hst2 (Nat.le_add_right _ _) fun b hb o e => other b (fun z => nS (z ▸ hb)) o e) ?_ ⟨old3, M3, rs3, e3, tb3, Z3, g.step hp c1 c2⟩⟩
    refine Moved.trans W.gtrans mv ((hm.mono inW).then_heap (Nat.le_add_right _ _) fun b o hb e => ?_)
    exact other b (fun z => hb (z ▸ List.mem_cons_self)) o e
/-- how set(l) ends -/
structure Made (w : World) (s : Shared) (items : Mem) (h' : Heap) : Prop where
  old : ∀ b o, s.heap.get? b = some o → h'.get? b = some o
  got : ∃ M rs e0 tb, NSet w h' s.heap.objs.size M rs e0 tb ∧ Holds items M items.length
set_option maxHeartbeats 3200000 in
theorem call_setN {l : Addr} {its : Array Value} (items : Mem) {R : Value → Shared → Prop} (hh : B.handled = none) (hl : s.heap.IsList l its) (hi : its.toList = items.map fun p => Value.ref p.1) (keys : ∀ p ∈ items, KeyAt s.heap p.2 p.1) (few : items.length < 64)
    (hu : B.units + 12 < cLine) (q : ∀ (h' : Heap) (tk : Nat), Made w s items h' → R (.ref s.heap.objs.size) { s with heap := h', toks := tk }) : wpAny (model P w) B (call (.type "set") [.ref l]) R Ex s := by
  have zi : its.size = items.length := by rw [← Array.length_toList, hi, List.length_map]
  have none_at : ∀ b, s.heap.objs.size ≤ b → s.heap.get? b = none := fun b hb => by
    cases e : s.heap.get? b with
    | none => rfl
    | some o => exact absurd (Heap.lt_size e) (Nat.not_lt_of_le hb)
  obtain ⟨mc, mt, hmro⟩ := F.called_set.mro
  have hmade := F.called_set.made
  have hsub := F.called_set.sub
  have hnt := F.called_set.notType
  have hcc := F.called_set.canCreate
  have htc := F.typeCall_set_1 (.ref l)
  refine wpAny_call (codeAny_of_tree ?_)
  show wpAny _ _ (callAny (.type "set") _) _ _ _
  refine wpAny_pure ⟨Code.quiet_builtin _ (by decide +kernel), codeAny_builtin F.entry_type_call ?_⟩
  rw [Around.under_plain (weight_type_call_type "set" [.ref l] []) rfl]
  repeat (any_goals (first | assumption | wp_step))
  refine codeAny_mono (code_set_led1 (.ref l) (E := Ex) (Q₁ := fun u s1 => u = .ref s.heap.objs.size ∧ s1 = { s with heap := s.heap.push (newSet w) }) ⟨rfl, rfl⟩) fun r s1 hr => ?_
  cases r with
  | error e => exact hr
  | ok fl =>
    cases fl with
    | ret u =>
      obtain ⟨rfl, rfl⟩ := hr
      have hS : (s.heap.push (newSet w)).get? s.heap.objs.size = some (newSet w) := Heap.get?_push_size _ rfl
      have tS : Shared.TypeIs { s with heap := s.heap.push (newSet w) } (.ref s.heap.objs.size) "set" := ⟨_, hS, rfl⟩
      have li := F.called_set.init.lookup
      have bi := F.called_set.init.bind (.ref s.heap.objs.size)
      repeat (any_goals (first | assumption | wp_step))
      refine codeAny_mono (codeAny_call_builtin (R := wants (fun v s2 => v = .none ∧ ∃ h' tk, s2 = { s with heap := h', toks := tk } ∧ Made w s items h') Ex) F.called_set.init.plain F.entry_set_init (check_set_init_1 tS ?_)) fun v s2 hv => ?_
      · obtain ⟨ol, hol, hcl, nl, hdl⟩ := id hl
        obtain ⟨lc, ld, lt, ls⟩ := ol
        simp only at hcl hdl
        subst hcl
        subst hdl
        have hol1 : (s.heap.push (newSet w)).get? l = some { cls := .type "list", dict := ld, data := .seq its nl, slots := ls } := Heap.get?_push_of_some _ hol
        have s1 := F.sub_list_set
        have s2 := F.sub_list_frozenset
        have s3 : (Value.type "list" == Value.type "dict") = false := by decide
        have hl1 : (s.heap.push (newSet w)).IsList l its := ⟨_, hol1, rfl, nl, rfl⟩
        have zS : (s.heap.push (newSet w)).objs.size = s.heap.objs.size + 1 := Heap.size_push ..
        have lS : l < s.heap.objs.size := Heap.lt_size hol
        unfold Builtin.«set.__init__» noKeywords Builtin.Frozenset.updateFrom
        generalize hPI : pyIter = PI
        wp_walk
        subst hPI
        refine wpAny_pyIter_list hl1 ?_
        refine wpAny_bind (wpAny_runValue ?_)
        have lI : l ≠ (s.heap.push (newSet w)).objs.size := by rw [zS]; exact Nat.ne_of_lt (Nat.lt_succ_of_lt lS)
        have nS : s.heap.objs.size ∉ [(s.heap.push (newSet w)).objs.size, l] := by
          rw [zS]
          simp only [List.mem_cons, List.not_mem_nil, or_false, not_or]
          exact ⟨Nat.ne_of_lt (Nat.lt_succ_self _), Nat.ne_of_gt lS⟩
        have vals : ∀ (i : Nat) (v : Value), its[i]? = some v → ∃ p, items[i]? = some p ∧ v = .ref p.1 := fun i v e => by
          rw [← Array.getElem?_toList, hi, List.getElem?_map] at e
          cases ep : items[i]? with
          | none => rw [ep] at e; cases e
          | some p => rw [ep] at e; exact ⟨p, rfl, (Option.some.inj e).symm⟩
        refine set_loop (s := { s with heap := (s.heap.push (newSet w)).push { cls := .type "list_iterator", data := .fields #[.ref l, .int 0 0] } }) ((Walks.list (by simp [hh]) _ l lI its).toS) s.heap.objs.size nS items zi few vals s.heap keys (none_at _ (Nat.le_refl _)) (fun b hb => none_at b (by
            rw [List.mem_singleton.mp hb, zS]
            exact Nat.le_succ _)) ?u ?q (its.size - 0) 0 _ (Nat.sub_zero _) (Nat.zero_le _) ⟨⟨_, Heap.get?_push_size _ rfl, rfl, rfl⟩, hl1.push _⟩ ?mv ?left
        case u => show B.units + 1 + 1 + 1 + 8 < _; omega
        case left =>
          exact ⟨fun b o e => Heap.get?_push_of_some _ (Heap.get?_push_of_some _ e), [], #[], 0, _, NSet.empty (Heap.get?_push_of_some _ hS), Holds.none items⟩
        case mv => exact ⟨fun _ _ _ e => e, rfl, rfl, rfl, Nat.le_refl _⟩
        case q =>
          intro s3 hm L
          obtain ⟨h', gens', drawn', tk', os'⟩ := s3
          obtain rfl : gens' = s.gens := hm.gens
          obtain rfl : drawn' = s.drawn := hm.drawn
          obtain rfl : os' = s.os := hm.os
          show wpAny _ _ _ _ _ _
          refine wpAny_pure ?_
          show wpAny _ _ (ret Value.none) _ _ _
          rw [zi] at L
          exact wpAny_pure ⟨rfl, h', tk', rfl, L.old, L.got⟩
      · cases v with
        | error e => exact hv
        | ok fl2 =>
          cases fl2 with
          | ret v =>
            obtain ⟨rfl, h', tk, rfl, made⟩ := hv
            repeat (any_goals (first | assumption | wp_step))
            exact q _ _ made
          | _ => exact hv.elim
    | _ => exact hr.elim
end
end CP

set_option Elab.async false
set_option linter.all false
set_option maxRecDepth 100000
set_option autoImplicit false
/-! CpSet4: sorted(set(list)) of data. -/
namespace CP
open PySem PySem.Spec PyProof.Rows L2
/-- the order of the signs -/
abbrev leT (a b : D) : Bool := PySem.W.sortLe (PyProof.Rows.listOrd PyProof.Rows.itemOrd) false tokD a b
theorem leT_trans {a b c : D} (h : leT a b = true) (h' : leT b c = true) : leT a c = true := (PySem.W.sortLe_total (PyProof.Rows.listOrd PyProof.Rows.itemOrd) false tokD).trans a b c h h'
theorem leT_total (a b : D) : leT a b = true ∨ leT b a = true := (PySem.W.sortLe_total (PyProof.Rows.listOrd PyProof.Rows.itemOrd) false tokD).total a b
theorem leT_cmp {a b : D} {o : Ordering} (h : cmpD a b = some o) : leT a b = (o != .gt) := by
  show (!(PyProof.Rows.lexLt IO (tokD b) (tokD a))) = _
  rw [tok_lt (cmpD_swap h)]
  cases o <;> rfl
theorem sortD_perm (xs : List D) : (sortD xs).Perm xs := List.mergeSort_perm xs _
theorem sortD_le (xs : List D) : (sortD xs).Pairwise (fun a b => leT a b = true) :=
  List.pairwise_mergeSort (le := leT) (fun a b c => leT_trans) (fun a b => by
    rcases leT_total a b with h | h <;> simp [h]) xs
theorem SOk.anti {xs : List D} (S : SOk xs) {a b : D} (ha : a ∈ xs) (hb : b ∈ xs) (h1 : leT a b = true) (h2 : leT b a = true) : a = b := by
  obtain ⟨o, e⟩ := S.cmp a ha b hb
  rw [leT_cmp e] at h1
  rw [leT_cmp (cmpD_swap e)] at h2
  cases o <;> simp at h1 h2
  exact cmpD_eq e
theorem sortD_uniq {xs ys : List D} (S : SOk xs) (p : ys.Perm xs) (h : ys.Pairwise (fun a b => leT a b = true)) : sortD xs = ys :=
  ((sortD_perm xs).trans p.symm).eq_of_pairwise (fun a b ha hb h1 h2 => S.anti ((sortD_perm xs).mem_iff.mp ha) (p.mem_iff.mp hb) h1 h2) (sortD_le xs) h
theorem sortD_same {xs ys : List D} (S : SOk xs) (p : ys.Perm xs) : sortD ys = sortD xs := (sortD_uniq S ((sortD_perm ys).trans p) (sortD_le ys)).symm
/-! ### data as keys -/
mutual
def keyN : D → NestedKey
  | .bl b => .num (if b then 1 else 0)
  | .int i => .num i
  | .str x => .text x
  | .tup xs => .tup (keysN xs)
  | _ => .none
def keysN : List D → List NestedKey
  | [] => []
  | x :: xs => keyN x :: keysN xs
end
mutual
theorem keyN_dep : ∀ d : D, (keyN d).depth ≤ d.dep
  | .tup xs => by
    have := keysN_dep xs
    simp only [keyN, NestedKey.depth, D.dep]; omega
  | .bl _ => by simp [keyN, NestedKey.depth]
  | .int _ => by simp [keyN, NestedKey.depth]
  | .str _ => by simp [keyN, NestedKey.depth]
  | .non => by simp [keyN, NestedKey.depth]
  | .lst _ => by simp [keyN, NestedKey.depth]
  | .scr _ => by simp [keyN, NestedKey.depth]
  | .dct _ _ => by simp [keyN, NestedKey.depth]
  | .ref _ => by simp [keyN, NestedKey.depth]
  | .fn _ => by simp [keyN, NestedKey.depth]
  | .ty _ => by simp [keyN, NestedKey.depth]
  | .cls _ => by simp [keyN, NestedKey.depth]
theorem keysN_dep : ∀ xs : List D, NestedKey.depthAll (keysN xs) ≤ deps xs
  | [] => by simp [keysN, NestedKey.depthAll]
  | x :: xs => by
    have h1 := keyN_dep x
    have h2 := keysN_dep xs
    simp only [keysN, NestedKey.depthAll, deps]; omega
end
mutual
theorem keyN_inj : ∀ {x y : D} {o : Ordering}, cmpD x y = some o → keyN x = keyN y → x = y
  | .int i, y, _, h, e => by
    cases y <;> simp [cmpD] at h
    simp only [keyN, NestedKey.num.injEq] at e
    rw [e]
  | .bl a, y, _, h, e => by
    cases y <;> simp [cmpD] at h
    rename_i b
    simp only [keyN, NestedKey.num.injEq] at e
    cases a <;> cases b <;> simp at e <;> rfl
  | .str a, y, _, h, e => by
    cases y <;> simp [cmpD] at h
    simp only [keyN, NestedKey.text.injEq] at e
    rw [e]
  | .tup xs, .tup ys, _, h, e => by
    simp only [keyN, NestedKey.tup.injEq] at e
    simp only [cmpD] at h
    rw [keysN_inj h e]
  | .tup _, .non, _, h, _ => by simp [cmpD] at h
  | .tup _, .lst _, _, h, _ => by simp [cmpD] at h
  | .tup _, .scr _, _, h, _ => by simp [cmpD] at h
  | .tup _, .dct _ _, _, h, _ => by simp [cmpD] at h
  | .tup _, .ref _, _, h, _ => by simp [cmpD] at h
  | .tup _, .fn _, _, h, _ => by simp [cmpD] at h
  | .tup _, .ty _, _, h, _ => by simp [cmpD] at h
  | .tup _, .cls _, _, h, _ => by simp [cmpD] at h
  | .tup _, .int _, _, h, _ => by simp [cmpD] at h
  | .tup _, .bl _, _, h, _ => by simp [cmpD] at h
  | .tup _, .str _, _, h, _ => by simp [cmpD] at h
  | .non, y, _, h, _ => by cases y <;> simp [cmpD] at h
  | .lst _, y, _, h, _ => by cases y <;> simp [cmpD] at h
  | .scr _, y, _, h, _ => by cases y <;> simp [cmpD] at h
  | .dct _ _, y, _, h, _ => by cases y <;> simp [cmpD] at h
  | .ref _, y, _, h, _ => by cases y <;> simp [cmpD] at h
  | .fn _, y, _, h, _ => by cases y <;> simp [cmpD] at h
  | .ty _, y, _, h, _ => by cases y <;> simp [cmpD] at h
  | .cls _, y, _, h, _ => by cases y <;> simp [cmpD] at h
theorem keysN_inj : ∀ {xs ys : List D} {o : Ordering}, cmpsD xs ys = some o → keysN xs = keysN ys → xs = ys
  | [], [], _, _, _ => rfl
  | [], _ :: _, _, _, e => by simp [keysN] at e
  | _ :: _, [], _, _, e => by simp [keysN] at e
  | x :: xs, y :: ys, o, h, e => by
    simp only [keysN, List.cons.injEq] at e
    simp only [cmpsD] at h
    cases hc : cmpD x y with
    | none => rw [hc] at h; cases h
    | some p =>
      have exy := keyN_inj hc e.1
      subst exy
      have := cmp_self hc
      subst this
      rw [hc] at h
      rw [keysN_inj h e.2]
end
mutual
theorem reads_key {h : Heap} : ∀ {d : D} {v : Value} {as : List Addr} {o : Ordering}, cmpD d d = some o → Reads h v d.toPy as → NestedIs h (keyN d) v
  | .int i, v, _, _, _, r => by simp only [D.toPy] at r; cases r; exact .int _ _
  | .bl b, v, _, _, _, r => by simp only [D.toPy] at r; cases r; exact .bool rfl
  | .str x, v, _, _, _, r => by simp only [D.toPy] at r; cases r; exact .text _ _
  | .tup xs, v, _, _, e, r => by
    simp only [D.toPy] at r
    simp only [cmpD] at e
    cases r with
    | tuple g gc gd ra => exact .tup g gc gd (reads_keys e ra)
  | .non, _, _, _, e, _ => by simp [cmpD] at e
  | .lst _, _, _, _, e, _ => by simp [cmpD] at e
  | .scr _, _, _, _, e, _ => by simp [cmpD] at e
  | .dct _ _, _, _, _, e, _ => by simp [cmpD] at e
  | .ref _, _, _, _, e, _ => by simp [cmpD] at e
  | .fn _, _, _, _, e, _ => by simp [cmpD] at e
  | .ty _, _, _, _, e, _ => by simp [cmpD] at e
  | .cls _, _, _, _, e, _ => by simp [cmpD] at e
theorem reads_keys {h : Heap} : ∀ {ds : List D} {vs : List Value} {as : List Addr} {o : Ordering}, cmpsD ds ds = some o → ReadsAll h vs (toPys ds) as → NestedAll h (keysN ds) vs
  | [], _, _, _, _, r => by simp only [toPys] at r; cases r; exact .nil
  | d :: ds, _, _, o, e, r => by
    simp only [toPys] at r
    simp only [cmpsD] at e
    cases r with
    | cons r1 r2 =>
      cases hc : cmpD d d with
      | none => rw [hc] at e; cases e
      | some p =>
        have := cmp_self hc
        subst this
        rw [hc] at e
        exact .cons (reads_key hc r1) (reads_keys e r2)
end
/-! ### the first of each -/
theorem same_iff {x y : D} {o : Ordering} (h : cmpD x y = some o) : sameD x y = true ↔ x = y := by
  unfold sameD
  rw [h]
  constructor
  · intro e
    have : o = .eq := by simpa using e
    subst this
    exact cmpD_eq h
  · intro e
    subst e
    rw [cmp_self h]; rfl
theorem dd_go : ∀ (xs acc : List D), (∀ a ∈ acc ++ xs, ∀ b ∈ acc ++ xs, ∃ o, cmpD a b = some o) → acc.Nodup →
    (xs.foldl (fun acc x => if acc.any (fun y => sameD y x) then acc else acc ++ [x]) acc).Nodup ∧ ∀ z, z ∈ xs.foldl (fun acc x => if acc.any (fun y => sameD y x) then acc else acc ++ [x]) acc ↔ z ∈ acc ++ xs
  | [], acc, _, nd => ⟨nd, fun z => by simp⟩
  | x :: xs, acc, hc, nd => by
    have any : acc.any (fun y => sameD y x) = true ↔ x ∈ acc := by
      rw [List.any_eq_true]
      constructor
      · rintro ⟨y, hy, e⟩
        obtain ⟨o, h⟩ := hc y (List.mem_append_left _ hy) x (by simp)
        rw [← (same_iff h).mp e]; exact hy
      · intro hx
        obtain ⟨o, h⟩ := hc x (by simp) x (by simp)
        exact ⟨x, hx, (same_iff h).mpr rfl⟩
    rw [List.foldl_cons]
    by_cases hx : x ∈ acc
    · rw [if_pos (any.mpr hx)]
      obtain ⟨h1, h2⟩ := dd_go xs acc (fun a ha b hb => hc a (by simp at ha ⊢; rcases ha with h | h <;> simp [h]) b (by simp at hb ⊢; rcases hb with h | h <;> simp [h])) nd
      refine ⟨h1, fun z => ?_⟩
      rw [h2]
      simp only [List.mem_append, List.mem_cons]
      constructor
      · rintro (h | h)
        · exact .inl h
        · exact .inr (.inr h)
      · rintro (h | h | h)
        · exact .inl h
        · subst h; exact .inl hx
        · exact .inr h
    · rw [if_neg (fun h => hx (any.mp h))]
      obtain ⟨h1, h2⟩ := dd_go xs (acc ++ [x]) (fun a ha b hb => hc a (by simpa using ha) b (by simpa using hb)) (List.nodup_append.mpr ⟨nd, by simp, fun a ha b hb e => hx (by rw [← List.mem_singleton.mp hb, ← e]; exact ha)⟩)
      exact ⟨h1, fun z => by rw [h2]; simp⟩
theorem dd_len (xs : List D) : (ddD xs).length ≤ xs.length := by
  have go : ∀ (xs acc : List D), (xs.foldl (fun acc x => if acc.any (fun y => sameD y x) then acc else acc ++ [x]) acc).length ≤ acc.length + xs.length := by
    intro xs
    induction xs with
    | nil => intro acc; exact Nat.le_refl _
    | cons x xs ih =>
      intro acc
      rw [List.foldl_cons]
      refine Nat.le_trans (ih _) ?_
      split <;> simp <;> omega
  have := go xs []
  simpa [ddD] using this
theorem dd_nodup {xs : List D} (S : SOk xs) : (ddD xs).Nodup := (dd_go xs [] (by simpa using S.cmp) .nil).1
theorem dd_mem {xs : List D} (S : SOk xs) (z : D) : z ∈ ddD xs ↔ z ∈ xs := by
  have h := (dd_go xs [] (by simpa using S.cmp) .nil).2 z
  rw [List.nil_append] at h
  exact h
end CP

set_option Elab.async false
set_option linter.all false
set_option maxRecDepth 100000
set_option autoImplicit false
/-! CpSet5: set(list) and sorted(set) as calls. -/
namespace CP
open PySem PySem.Spec PyProof.Rows L2 PySem.W
/-- data of which a set is made -/
structure SetIn (ds : List D) : Prop where
  ok : SOk ds
  tup : ∀ d ∈ ds, ∃ xs, d = .tup xs
  low : deps ds ≤ 7
  few : ds.length < 64
/-- what a set of data has -/
structure MemOf (K : PySem.W.Frag) (mg : Str → Option Value) (mu : Mu) (H : Hp) (ds : List D) (M : Mem) : Prop where
  src : ∀ p ∈ M, ∃ d ∈ ds, Rep K mg mu H (.ref p.1) d ∧ p.2 = keyN d
  all : ∀ d ∈ ds, keyN d ∈ M.map Prod.snd
/-- the set at a, the members' own objects left aside -/
def NSet0 (w : World) (a : Addr) (M : Mem) (h : Heap) : Prop := ∃ (rs : Array (Int × Value)) (e0 : Nat) (tb : SetTable), (∃ o, h.get? a = some o ∧ o.ExactSet ∧ o.data = .set rs e0 tb) ∧
  ∀ h2 : Heap, (∃ o, h2.get? a = some o ∧ o.ExactSet ∧ o.data = .set rs e0 tb) → (∀ p ∈ M, KeyAt h2 p.2 p.1) → NSet w h2 a M rs e0 tb
theorem NSet.bare {w : World} {h : Heap} {a : Addr} {M : Mem} {rs : Array (Int × Value)} {e0 : Nat} {tb : SetTable} (Z : NSet w h a M rs e0 tb) : NSet0 w a M h := ⟨rs, e0, tb, Z.obj, fun _ ob kk => ⟨ob, Z.rows, Z.lay, Z.one, kk, Z.led, Z.room, Z.few⟩⟩
theorem nset_new {P : Program} {w : World} {H : Hp} {h : Heap} {a : Addr} {M : Mem} (Z : NSet0 w a M h) : ObjOk P w H h a (.ext (NSet0 w a M)) := by
  obtain ⟨rs, e0, tb, ⟨o, ho, r⟩, q⟩ := id Z
  refine ⟨Z, ⟨o, ho⟩, fun h1 h2 p k => ?_⟩
  obtain ⟨rs1, e1, tb1, ⟨o1, ho1, r1⟩, q1⟩ := (show NSet0 w a M h1 from p)
  exact ⟨rs1, e1, tb1, ⟨o1, k o1 ho1, r1⟩, q1⟩
section
variable {K : PySem.W.Frag} {mg : Str → Option Value} {mu : Mu} {H : Hp}
theorem tup_items : ∀ {vs : List V} {ds : List D}, Reps K mg mu H vs ds → (∀ d ∈ ds, ∃ xs, d = .tup xs) → ∃ items : Mem, vs = items.map (fun p => V.ref p.1) ∧ (∀ p ∈ items, ∃ d ∈ ds, Rep K mg mu H (.ref p.1) d ∧ p.2 = keyN d) ∧ ∀ d ∈ ds, ∃ p ∈ items, p.2 = keyN d
  | _, _, .nil, _ => ⟨[], rfl, (by intro p h; cases h), (by intro d h; cases h)⟩
  | _, _, .cons (d := d) r rs, ht => by
    obtain ⟨items, e, h1, h2⟩ := tup_items rs fun d hd => ht d (List.mem_cons_of_mem _ hd)
    obtain ⟨xs, rfl⟩ := ht d List.mem_cons_self
    cases r with
    | @tup a us _ g1 g2 g3 =>
      refine ⟨(a, keyN (.tup xs)) :: items, by rw [List.map_cons, e], fun p hp => ?_, fun d hd => ?_⟩
      · rcases List.mem_cons.mp hp with rfl | hp
        · exact ⟨.tup xs, List.mem_cons_self, .tup g1 g2 g3, rfl⟩
        · obtain ⟨d, hd, z⟩ := h1 p hp
          exact ⟨d, List.mem_cons_of_mem _ hd, z⟩
      · rcases List.mem_cons.mp hd with rfl | hd
        · exact ⟨_, List.mem_cons_self, rfl⟩
        · obtain ⟨p, hp, z⟩ := h2 d hd
          exact ⟨p, List.mem_cons_of_mem _ hp, z⟩
theorem refs_vals : ∀ {items : Mem} {us : List Value}, Vals (items.map fun p => V.ref p.1) us → us = items.map fun p => Value.ref p.1
  | [], _, .nil => rfl
  | p :: items, _, .cons r t => by
    cases r
    exact congrArg (Value.ref p.1 :: ·) (refs_vals t)
end
section
variable {X : Cx} {pins : List (Addr × Obj)} {s : Shared} {σ : L2.St} {H : Hp} {mu : Mu}
theorem rep_key {a : Addr} {d : D} {o : Ordering} (I : Inv X pins σ H s) (r : Rep X.K X.mg mu H (.ref a) d) (hc : cmpD d d = some o) (hd : d.dep ≤ 8) : KeyAt s.heap (keyN d) a := by
  obtain ⟨dp, _⟩ := Rep.dp r (cmp_dat hc)
  obtain ⟨as, rd⟩ := Dp.reads I _ _ (.ref a) dp rfl
  exact ⟨reads_key hc rd, Nat.le_trans (keyN_dep d) hd⟩
theorem SetIn.key {ds : List D} (S : SetIn ds) (I : Inv X pins σ H s) {a : Addr} {d : D} (hd : d ∈ ds) (r : Rep X.K X.mg mu H (.ref a) d) : KeyAt s.heap (keyN d) a := by
  obtain ⟨o, e⟩ := S.ok.cmp d hd d hd
  exact rep_key I r e (Nat.le_trans (depth_mem hd) (Nat.le_trans S.low (by decide)))
theorem MemOf.keys {ds : List D} {M : Mem} (m : MemOf X.K X.mg mu H ds M) (S : SetIn ds) (I : Inv X pins σ H s) : ∀ p ∈ M, KeyAt s.heap p.2 p.1 := fun p hp => by
  obtain ⟨d, hd, r, e⟩ := m.src p hp
  rw [e]
  exact S.key I hd r
end
section
variable {X : Cx}
theorem call_setD (hc : X.calm = true) (hu : X.A.units + 200 < cLine) : CallR X (.type "set") (fun xs H Q => ∃ (l : Addr) (vs : List V) (mu : Mu) (ds : List D), xs = [.ref l] ∧ SqL X.K H l vs ∧ Reps X.K X.mg mu H vs ds ∧ SetIn ds ∧
    ∀ a M, H a = none → MemOf X.K X.mg mu H ds M → Q (.ref a) (upd H a (.ext (NSet0 X.w a M)))) := by
  intro pins s σ H xs us Q I r h
  obtain ⟨l, vs, mu, ds, rfl, hl, rs, S, q⟩ := h
  rw [Vals.ref1 r]
  obtain ⟨its, rv, pl, _⟩ := I.list hl
  obtain ⟨items, rfl, i1, i2⟩ := tup_items rs S.tup
  have len : items.length = ds.length := by rw [← rs.length, List.length_map]
  have hn : H s.heap.objs.size = none := I.hok.fresh (Nat.le_refl _)
  refine call_setN (P := X.prog) (w := X.w) items (I.ok.hd hc) pl.isList (by simpa using refs_vals rv) (fun p hp => ?_) (by rw [len]; exact S.few) (by omega) fun h' tk made => ?_
  · obtain ⟨d, hd, rp, e⟩ := i1 p hp
    rw [e]
    exact S.key I hd rp
  · obtain ⟨M, rs', e0, tb, Z, g⟩ := made.got
    refine ⟨.ref s.heap.objs.size, _, I.laid (t' := tk) made.old (Nat.le_refl _) (nset_new Z.bare), rfl, q _ M hn ⟨fun p hp => i1 p (g.sub p hp), fun d hd => ?_⟩⟩
    obtain ⟨p, hp, e⟩ := i2 d hd
    obtain ⟨i, hi⟩ := List.getElem?_of_mem hp
    rw [← e]
    exact g.all i p (List.getElem?_eq_some_iff.mp hi).1 hi
theorem each_of {α β : Type} {R : α → β → Prop} : ∀ {as : List α}, (∀ a ∈ as, ∃ b, R a b) → ∃ bs, EachIs R as bs
  | [], _ => ⟨[], .nil⟩
  | a :: as, h => by
    obtain ⟨b, r⟩ := h a List.mem_cons_self
    obtain ⟨bs, rs⟩ := each_of fun c hc => h c (List.mem_cons_of_mem _ hc)
    exact ⟨b :: bs, .cons r rs⟩
theorem each_mem {α β : Type} {R : α → β → Prop} : ∀ {as : List α} {bs : List β}, EachIs R as bs → (∀ b ∈ bs, ∃ a ∈ as, R a b) ∧ ∀ a ∈ as, ∃ b ∈ bs, R a b
  | _, _, .nil => ⟨(by intro b h; cases h), (by intro a h; cases h)⟩
  | _, _, .cons r rs => by
    obtain ⟨h1, h2⟩ := each_mem rs
    refine ⟨fun b hb => ?_, fun a ha => ?_⟩
    · rcases List.mem_cons.mp hb with rfl | hb
      · exact ⟨_, List.mem_cons_self, r⟩
      · obtain ⟨a, ha, z⟩ := h1 b hb
        exact ⟨a, List.mem_cons_of_mem _ ha, z⟩
    · rcases List.mem_cons.mp ha with rfl | ha
      · exact ⟨_, List.mem_cons_self, r⟩
      · obtain ⟨b, hb, z⟩ := h2 a ha
        exact ⟨b, List.mem_cons_of_mem _ hb, z⟩
theorem each_nodup {α β : Type} {R : α → β → Prop} : ∀ {as : List α} {bs : List β}, EachIs R as bs → (∀ a ∈ as, ∀ a' ∈ as, ∀ b, R a b → R a' b → a = a') → as.Nodup → bs.Nodup
  | _, _, .nil, _, _ => .nil
  | _, _, .cons (as := as) (bs := bs) r rs, inj, nd => by
    obtain ⟨n1, n2⟩ := List.nodup_cons.mp nd
    refine List.nodup_cons.mpr ⟨fun hb => ?_, each_nodup rs (fun a ha a' ha' => inj a (List.mem_cons_of_mem _ ha) a' (List.mem_cons_of_mem _ ha')) n2⟩
    obtain ⟨a, ha, z⟩ := (each_mem rs).1 _ hb
    rw [inj _ List.mem_cons_self a (List.mem_cons_of_mem _ ha) _ r z] at n1
    exact n1 ha
theorem inj_map {α β : Type} {f : α → β} : ∀ {l : List α}, (l.map f).Nodup → ∀ {x y : α}, x ∈ l → y ∈ l → f x = f y → x = y
  | z :: l, nd, x, y, hx, hy, e => by
    rw [List.map_cons, List.nodup_cons] at nd
    rcases List.mem_cons.mp hx with hx | hx <;> rcases List.mem_cons.mp hy with hy | hy
    · rw [hx, hy]
    · rw [hx] at e
      exact absurd (List.mem_map.mpr ⟨y, hy, e.symm⟩) nd.1
    · rw [hy] at e
      exact absurd (List.mem_map.mpr ⟨x, hx, e⟩) nd.1
    · exact inj_map nd.2 hx hy e
theorem nodup_map {α β : Type} {f : α → β} {l : List α} (inj : ∀ x ∈ l, ∀ y ∈ l, f x = f y → x = y) (nd : l.Nodup) : (l.map f).Nodup :=
  List.pairwise_map.mpr (List.Pairwise.imp_of_mem (fun {x y} hx hy ne e => ne (inj x hx y hy e)) nd)
theorem deps_sub : ∀ {xs ys : List D}, (∀ z ∈ xs, z ∈ ys) → deps xs ≤ deps ys
  | [], ys, _ => Nat.zero_le _
  | x :: xs, ys, h => by
    have h1 := depth_mem (h x List.mem_cons_self)
    have h2 := deps_sub fun z hz => h z (List.mem_cons_of_mem _ hz)
    simp only [deps]
    omega
theorem call_sortN (hc : X.calm = true) (hu : X.A.units + 200 < cLine) : CallR X (.builtin "sorted") (fun xs H Q => ∃ (a : Addr) (M : Mem) (vs : List V) (mu : Mu) (ds : List D), xs = [.ref a] ∧ H a = some (.ext (NSet0 X.w a M)) ∧ SetIn ds ∧ MemOf X.K X.mg mu H ds M ∧
    ∀ p ws, H p = none → Reps X.K X.mg mu H ws (sortD (ddD ds)) → Q (.ref p) (upd H p (.lst ws))) := by
  intro pins s σ H xs us Q I r h
  obtain ⟨a, M, vs, mu, ds, rfl, ha, S, m, q⟩ := h
  rw [Vals.ref1 r]
  have keys := m.keys S I
  obtain ⟨rs, e0, tb, ob, full⟩ := (show NSet0 X.w a M s.heap from (I.hok a _ ha).1)
  have Z := full s.heap ob keys
  obtain ⟨o, ho, hex, hd⟩ := ob
  have few := Z.few
  refine sorted_gen fun E' => collect_set (A := X.A.in1) (I.ok.hd hc) ⟨o, ho, hex.1, hd⟩ Z.fits (by rw [Z.size]; unfold scanBound; omega) Z.lay.ris Z.led fun s1 out old sz hg hos pm => ?_
  have I1 : Inv X pins σ H s1 := I.call' (ch := []) hos (Un.kept old) (I.hok.kept old) (by rw [hg]; exact I.bare) (fun _ z => nomatch z)
  have ev : rs.toList.map (·.2) = M.map fun p => Value.ref p.1 := by
    rw [Z.rows, rowsN, List.map_map]
    rfl
  rw [ev] at pm
  -- an address has one key
  have oneA : ∀ p ∈ M, ∀ p2 ∈ M, p.1 = p2.1 → p = p2 := fun p hp p2 hp2 e => by
    have k1 := keys p hp
    rw [e] at k1
    exact Prod.ext e (k1.inj (keys p2 hp2))
  have oneK : ∀ p ∈ M, ∀ p2 ∈ M, p.2 = p2.2 → p = p2 := fun p hp p2 hp2 e => inj_map Z.one hp hp2 e
  have ndO : out.Nodup := by
    refine pm.nodup_iff.mpr (nodup_map ?_ (nodup_of_map Z.one))
    intro p hp p2 hp2 e
    injection e with e
    exact oneA p hp p2 hp2 e
  have inO : ∀ u, u ∈ out ↔ ∃ p ∈ M, Value.ref p.1 = u := fun u => by rw [pm.mem_iff, List.mem_map]
  obtain ⟨ds', E⟩ := each_of (R := fun (u : Value) (d : D) => ∃ p ∈ M, u = Value.ref p.1 ∧ d ∈ ds ∧ Rep X.K X.mg mu H (.ref p.1) d ∧ p.2 = keyN d) (as := out) fun u hu => by
    obtain ⟨p, hp, e⟩ := (inO u).mp hu
    obtain ⟨d, hd, rp, ek⟩ := m.src p hp
    exact ⟨d, p, hp, e.symm, hd, rp, ek⟩
  have nd' : ds'.Nodup := each_nodup E (fun u _ u2 _ d ⟨p, hp, e, _, _, ek⟩ ⟨p2, hp2, e2, _, _, ek2⟩ => by rw [e, e2, oneK p hp p2 hp2 (ek.trans ek2.symm)]) ndO
  have mem' : ∀ z, z ∈ ds' ↔ z ∈ ds := fun z => by
    constructor
    · intro hz
      obtain ⟨u, _, p, _, _, hd, _⟩ := (each_mem E).1 z hz
      exact hd
    · intro hz
      obtain ⟨p, hp, ek⟩ := List.mem_map.mp (m.all z hz)
      obtain ⟨d, hd, p2, hp2, e2, hd2, _, ek2⟩ := (each_mem E).2 (.ref p.1) ((inO _).mpr ⟨p, hp, rfl⟩)
      injection e2 with e2
      have := oneA p hp p2 hp2 e2
      subst this
      obtain ⟨o, ho⟩ := S.ok.cmp z hz d hd2
      rw [keyN_inj ho (ek.symm.trans ek2)]
      exact hd
  have pd : (ddD ds).Perm ds' := (List.perm_ext_iff_of_nodup (dd_nodup S.ok) nd').mpr fun z => by rw [dd_mem S.ok, mem']
  have S' : SOk ds' := ⟨fun x hx y hy => S.ok.cmp x ((mem' x).mp hx) y ((mem' y).mp hy), fun x hx => S.ok.emp x ((mem' x).mp hx), Nat.le_trans (deps_sub fun z hz => (mem' z).mp hz) S.ok.dep⟩
  obtain ⟨ws, w1, w2⟩ := reps_each (X := X) (H := H) (mu := mu) (each_imp E fun u d _ ⟨p, hp, e, _, rp, _⟩ => ⟨.ref p.1, by rw [e]; rfl, rp⟩)
  have zo : out.length = M.length := by rw [pm.length_eq, List.length_map]
  have zd : ds'.length = out.length := by rw [← w2.length, w1.length]
  exact sorted_end I1 w1 w2 S' hu (by rw [zd, zo, sizeLine_eq]; omega) fun p ws' hp r => q p ws' hp (by rw [sortD_same S' pd]; exact r)
end
end CP

set_option Elab.async false
set_option linter.all false
set_option maxRecDepth 100000
set_option autoImplicit false
/-! CpSort4: the order by putting in. -/
namespace CP
open PySem L2
theorem insD_perm (x : D) : ∀ ys : List D, (insD x ys).Perm (x :: ys)
  | [] => .refl _
  | y :: ys => by
    unfold insD
    split
    · exact ((insD_perm x ys).cons y).trans (.swap x y ys)
    · exact .refl _
theorem insD_le {x : D} : ∀ {ys : List D}, (∀ y ∈ ys, ∃ o, cmpD x y = some o) → ys.Pairwise (fun a b => leT a b = true) → (insD x ys).Pairwise (fun a b => leT a b = true)
  | [], _, _ => by simp [insD]
  | y :: ys, hc, h => by
    obtain ⟨o, e⟩ := hc y List.mem_cons_self
    obtain ⟨h1, h2⟩ := List.pairwise_cons.mp h
    unfold insD
    rw [e]
    by_cases g : o = .gt
    · subst g
      rw [if_pos (show (some Ordering.gt == some Ordering.gt) = true from rfl)]
      refine List.pairwise_cons.mpr ⟨fun z hz => ?_, insD_le (fun w hw => hc w (List.mem_cons_of_mem _ hw)) h2⟩
      rcases List.mem_cons.mp ((insD_perm x ys).mem_iff.mp hz) with rfl | hz
      · rw [leT_cmp (cmpD_swap e)]; rfl
      · exact h1 z hz
    · rw [if_neg (by simpa using g)]
      have hxy : leT x y = true := by rw [leT_cmp e]; cases o <;> first | rfl | exact absurd rfl g
      refine List.pairwise_cons.mpr ⟨fun z hz => ?_, h⟩
      rcases List.mem_cons.mp hz with rfl | hz
      · exact hxy
      · exact leT_trans hxy (h1 z hz)
theorem isortD_perm : ∀ xs : List D, (isortD xs).Perm xs
  | [] => .refl _
  | x :: xs => (insD_perm x _).trans ((isortD_perm xs).cons x)
theorem isortD_le : ∀ {xs : List D}, (∀ a ∈ xs, ∀ b ∈ xs, ∃ o, cmpD a b = some o) → (isortD xs).Pairwise (fun a b => leT a b = true)
  | [], _ => .nil
  | x :: xs, h => by
    refine insD_le (fun y hy => h x List.mem_cons_self y ?_) (isortD_le fun a ha b hb => h a (List.mem_cons_of_mem _ ha) b (List.mem_cons_of_mem _ hb))
    exact List.mem_cons_of_mem _ ((isortD_perm xs).mem_iff.mp hy)
theorem sortD_isort {xs : List D} (S : SOk xs) : sortD xs = isortD xs := sortD_uniq S (isortD_perm xs) (isortD_le S.cmp)
end CP

set_option Elab.async false
set_option linter.all false
set_option maxRecDepth 100000
set_option autoImplicit false
/-! CpOps2: comparisons, truth, built-ins, subscripts, slices. -/
namespace CP
open PySem PySem.Spec PyProof.Rows L2

section
variable {X : Cx} {W : WX} {s' : L2.St} {mu : Mu} {st : So} {pins : List (Addr × Obj)} {s : Shared} {σ : L2.St} {H : Hp} {x y : V} {v u : Value} {Q : VK} {a b : D}

theorem fin_b {k : Bool} (S : Sim X.K X.mg mu st H) {Q : Bool → Hp → Prop} (h : Fin X.K X.mg W s' relT mu H (.ok k st) Q) : Q k H := h mu _ _ (Ext.refl _ _) S rfl
theorem eqD_ok (hu : X.A.units + 200 < cLine) (I : Inv X pins σ H s) (rx : RelV x v) (ry : RelV y u) (ra : Rep X.K X.mg mu H x a) (rb : Rep X.K X.mg mu H y b) (S : Sim X.K X.mg mu st H)
    {Q : Bool → Hp → Prop} (h : Fin X.K X.mg W s' relT mu H (eqD a b st) Q) : ∃ k as bs da db, Reads s.heap v da as ∧ Reads s.heap u db bs ∧ da.canLay0 = true ∧ db.canLay0 = true ∧ X.A.units + min da.depth db.depth < cLine ∧ PyData.eqv da db = k ∧ eqD a b st = .ok k st ∧ Q k H := by
  unfold eqD at h ⊢
  split at h
  · rename_i hz
    simp only [Bool.and_eq_true, decide_eq_true_eq] at hz
    obtain ⟨⟨z1, z2⟩, z3⟩ := hz
    obtain ⟨d1, c1⟩ := see_dp S ra z1
    obtain ⟨d2, c2⟩ := see_dp S rb z2
    obtain ⟨as, q1⟩ := Dp.reads I _ x v d1 rx
    obtain ⟨bs, q2⟩ := Dp.reads I _ y u d2 ry
    refine ⟨_, as, bs, _, _, q1, q2, c1, c2, ?_, eqv_toPy _ _ z1 z2, ?_, fin_b S h⟩
    · rw [dep_toPy _ z1, dep_toPy _ z2]; omega
    · rw [if_pos]
      simp [z1, z2, z3]
  · exact h.elim
theorem any_toPy {d : D} (hd : d.isDat = true) : ∀ xs : List D, isDats xs = true → ((toPys xs).any fun y => PyData.eqv y d.toPy) = inD d xs
  | [], _ => by simp [toPys, inD]
  | x :: xs, h => by
    simp only [isDats, Bool.and_eq_true] at h
    have ih := any_toPy hd xs h.2
    unfold inD at ih ⊢
    simp only [toPys, List.any_cons, eqv_toPy x d h.1 hd, ih]
theorem memD_seq (hu : X.A.units + 200 < cLine) (I : Inv X pins σ H s) (rx : RelV x v) (ry : RelV y u) (ra : Rep X.K X.mg mu H x a) (rb : Rep X.K X.mg mu H y b) (S : Sim X.K X.mg mu st H) (hs : ∀ ys, b ≠ .scr ys)
    {Q : Bool → Hp → Prop} (h : Fin X.K X.mg W s' relT mu H (match seqOf b st with
    | some xs => if a.isDat && isDats xs && decide (a.dep ≤ 64) then .ok (inD a xs) st else .bad
    | none => .bad) Q) : ∃ k xs d as bs, (Reads s.heap u (.list xs) as ∨ Reads s.heap u (.tuple xs) as) ∧ Reads s.heap v d bs ∧ PyData.canLayAll0 xs = true ∧ d.canLay0 = true ∧ X.A.units + 1 + min (PyData.depthAll xs) d.depth < cLine ∧
      (xs.any fun y => PyData.eqv y d) = k ∧ (match seqOf b st with
    | some xs => if a.isDat && isDats xs && decide (a.dep ≤ 64) then R.ok (inD a xs) st else R.bad
    | none => R.bad) = .ok k st ∧ Q k H := by
  cases e : seqOf b st with
  | none => rw [e] at h; exact h.elim
  | some xs =>
    rw [e] at h
    simp only at h ⊢
    split at h
    · rename_i hz
      have hz0 := hz
      simp only [Bool.and_eq_true, decide_eq_true_eq] at hz
      obtain ⟨⟨z1, z2⟩, z3⟩ := hz
      obtain ⟨d1, c1⟩ := Rep.dp ra z1
      obtain ⟨d2, c2⟩ := seqOf_dp S rb e z2 hs
      obtain ⟨bs, q1⟩ := Dp.reads I _ x v d1 rx
      have q2 : ∃ as, Reads s.heap u (.list (toPys xs)) as ∨ Reads s.heap u (.tuple (toPys xs)) as := by
        rcases d2 with d2 | d2
        · obtain ⟨as, q⟩ := Dp.reads I _ y u d2 ry
          exact ⟨as, .inl q⟩
        · obtain ⟨as, q⟩ := Dp.reads I _ y u d2 ry
          exact ⟨as, .inr q⟩
      obtain ⟨as, q2⟩ := q2
      refine ⟨_, _, _, as, bs, q2, q1, c2, c1, ?_, any_toPy z1 xs z2, by rw [if_pos hz0], fin_b S h⟩
      rw [dep_toPy _ z1]
      omega
    · exact h.elim

set_option maxHeartbeats 4000000 in
theorem memD_ok (hu : X.A.units + 200 < cLine) : OpR X (compareOp .In) (rrT X.K X.mg memD) := by
  intro pins s σ H x y v u Q I rx ry h
  obtain ⟨a, b, st, mu, W, s', ra, rb, S, h⟩ := h
  have seq : (∀ ys, b ≠ .scr ys) → (∀ i j, ¬ (a = .str i ∧ b = .str j)) → wpAny (model X.prog X.w) X.A (compareOp .In v u) (EP X pins σ Q) X.xe s := fun hs hn => by
    have h' : Fin X.K X.mg W s' relT mu H (match seqOf b st with
      | some xs => if a.isDat && isDats xs && decide (a.dep ≤ 64) then R.ok (inD a xs) st else R.bad
      | none => R.bad) (fun k H' => Q (.bl k) H') := by
      cases b with
      | scr ys => exact absurd rfl (hs ys)
      | str j => cases a with
        | str i => exact absurd ⟨rfl, rfl⟩ (hn i j)
        | _ => exact h
      | _ => cases a <;> exact h
    obtain ⟨k, xs, d, as, bs, q1, q2, c1, c2, hr, ek, _, q⟩ := memD_seq hu I rx ry ra rb S hs h'
    rcases q1 with q1 | q1
    · exact SeqAt.in_list_reads q1 q2 c1 c2 hr ⟨.bl _, H, I, rfl, by rw [ek]; exact q⟩
    · exact SeqAt.in_tuple_reads q1 q2 c1 c2 hr ⟨.bl _, H, I, rfl, by rw [ek]; exact q⟩
  cases b with
  | scr ys => cases a <;> exact h.elim
  | str j => cases a with
    | str i =>
      cases ra
      cases rb
      exact op_in_str pins s σ H _ _ v u Q I rx ry ⟨i, j, rfl, rfl, fin_b S h⟩
    | _ => exact seq (fun _ => by simp) fun _ _ z => by cases z.1
  | _ => exact seq (fun _ => by simp) fun _ _ z => by cases z.2
set_option maxHeartbeats 4000000 in
theorem nmemD_ok (hu : X.A.units + 200 < cLine) : OpR X (compareOp .NotIn) (rrT X.K X.mg fun a b st => (memD a b st).bind fun k st => .ok (!k) st) := by
  intro pins s σ H x y v u Q I rx ry h
  obtain ⟨a, b, st, mu, W, s', ra, rb, S, h⟩ := h
  have h := h.bind (rel := relT)
  have seq : (∀ ys, b ≠ .scr ys) → (∀ i j, ¬ (a = .str i ∧ b = .str j)) → wpAny (model X.prog X.w) X.A (compareOp .NotIn v u) (EP X pins σ Q) X.xe s := fun hs hn => by
    have h' : Fin X.K X.mg W s' relT mu H (match seqOf b st with
      | some xs => if a.isDat && isDats xs && decide (a.dep ≤ 64) then R.ok (inD a xs) st else R.bad
      | none => R.bad) (fun k H' => Q (.bl (!k)) H') := by
      have h'' : Fin X.K X.mg W s' relT mu H (memD a b st) (fun k H' => Q (.bl (!k)) H') := h.mono fun k H1 ⟨mu1, a1, st1, e1, S1, r1, _, f1⟩ => by cases r1; exact fin_b S1 f1
      cases b with
      | scr ys => exact absurd rfl (hs ys)
      | str j => cases a with
        | str i => exact absurd ⟨rfl, rfl⟩ (hn i j)
        | _ => exact h''
      | _ => cases a <;> exact h''
    obtain ⟨k, xs, d, as, bs, q1, q2, c1, c2, hr, ek, _, q⟩ := memD_seq hu I rx ry ra rb S hs h'
    rcases q1 with q1 | q1
    · exact SeqAt.notIn_list_reads q1 q2 c1 c2 hr ⟨.bl _, H, I, rfl, by rw [ek]; exact q⟩
    · exact SeqAt.notIn_tuple_reads q1 q2 c1 c2 hr ⟨.bl _, H, I, rfl, by rw [ek]; exact q⟩
  cases b with
  | scr ys => cases a <;> exact h.elim
  | str j => cases a with
    | str i =>
      cases ra
      cases rb
      have h2 : Fin X.K X.mg W s' relT mu H (R.ok (inStr i j) st) _ := h
      obtain ⟨mu1, a1, st1, e1, S1, r1, _, f1⟩ := fin_b S h2
      cases r1
      exact op_notIn_str pins s σ H _ _ v u Q I rx ry ⟨i, j, rfl, rfl, fin_b S1 f1⟩
    | _ => exact seq (fun _ => by simp) fun _ _ z => by cases z.1
  | _ => exact seq (fun _ => by simp) fun _ _ z => by cases z.2

theorem isD_ok : OpR X (compareOp .Is) (rrT X.K X.mg isD) := by
  intro pins s σ H x y v u Q I rx ry h
  obtain ⟨a, b, st, mu, W, s', ra, rb, S, h⟩ := h
  cases ra <;> cases rb <;> first
    | exact h.elim
    | exact op_is_bl pins s σ H _ _ v u Q I rx ry ⟨_, _, rfl, rfl, fin_b S h⟩
    | exact op_isN pins s σ H _ _ v u Q I rx ry ⟨rfl, by have q := fin_b S h; simpa using q⟩
theorem nisD_ok : OpR X (compareOp .IsNot) (rrT X.K X.mg fun a b st => (isD a b st).bind fun k st => .ok (!k) st) := by
  intro pins s σ H x y v u Q I rx ry h
  obtain ⟨a, b, st, mu, W, s', ra, rb, S, h⟩ := h
  cases ra <;> cases rb <;> first
    | exact h.elim
    | exact op_isnot_bl pins s σ H _ _ v u Q I rx ry ⟨_, _, rfl, rfl, fin_b S h⟩
    | exact op_notN pins s σ H _ _ v u Q I rx ry ⟨rfl, by have q := fin_b S h; simpa using q⟩
theorem cmpB_ok (hu : X.A.units + 200 < cLine) (o : CO) : OpR X (compareOp o.py) (rrT X.K X.mg (cmpB o)) := by
  cases o with
  | eq =>
    intro pins s σ H x y v u Q I rx ry h
    obtain ⟨a, b, st, mu, W, s', ra, rb, S, h⟩ := h
    obtain ⟨k, as, bs, da, db, q1, q2, c1, c2, hr, ek, _, q⟩ := eqD_ok hu I rx ry ra rb S h
    exact SeqAt.compareEq_reads q1 q2 c1 c2 hr ⟨.bl _, H, I, rfl, by rw [ek]; exact q⟩
  | ne =>
    intro pins s σ H x y v u Q I rx ry h
    obtain ⟨a, b, st, mu, W, s', ra, rb, S, h⟩ := h
    have h : Fin X.K X.mg W s' relT mu H ((eqD a b st).bind fun k st => .ok (!k) st) (fun k H' => Q (.bl k) H') := h
    have h2 : Fin X.K X.mg W s' relT mu H (eqD a b st) (fun k H' => Q (.bl (!k)) H') := (h.bind (rel := relT)).mono fun k H1 ⟨mu1, a1, st1, e1, S1, r1, _, f1⟩ => by cases r1; exact fin_b S1 f1
    obtain ⟨k, as, bs, da, db, q1, q2, c1, c2, hr, ek, _, q⟩ := eqD_ok hu I rx ry ra rb S h2
    exact SeqAt.compareNe_reads q1 q2 c1 c2 hr ⟨.bl _, H, I, rfl, by rw [ek]; exact q⟩
  | mem => exact memD_ok hu
  | nmem => exact nmemD_ok hu
  | is => exact isD_ok
  | nis => exact nisD_ok
  | lt =>
    intro pins s σ H x y v u Q I rx ry h
    obtain ⟨a, b, st, mu, W, s', ra, rb, S, h⟩ := h
    cases ra <;> cases rb <;> first
      | exact h.elim
      | exact op_lt pins s σ H _ _ v u Q I rx ry ⟨_, _, rfl, rfl, fin_b S h⟩
      | exact op_lt_str pins s σ H _ _ v u Q I rx ry ⟨_, _, rfl, rfl, fin_b S h⟩
      | skip
    rename_i a1 v1 xs z1 t1 r1 b1 v2 ys z2 t2 r2
    have h : Fin X.K X.mg W s' relT mu H (if isDats xs && isDats ys && decide (deps xs ≤ 60) then (match ltsD xs ys with
      | some k => .ok k st
      | none => .bad) else .bad) (fun k H' => Q (.bl k) H') := h
    by_cases hz : (isDats xs && isDats ys && decide (deps xs ≤ 60)) = true
    · rw [if_pos hz] at h
      simp only [Bool.and_eq_true, decide_eq_true_eq] at hz
      obtain ⟨⟨d1, d2⟩, d3⟩ := hz
      cases hk : ltsD xs ys with
      | none => rw [hk] at h; exact h.elim
      | some k =>
        rw [hk] at h
        obtain ⟨p1, c1⟩ := Rep.dp (.tup z1 t1 r1) (show (D.tup xs).isDat = true from by simpa [D.isDat] using d1)
        obtain ⟨p2, c2⟩ := Rep.dp (.tup z2 t2 r2) (show (D.tup ys).isDat = true from by simpa [D.isDat] using d2)
        obtain ⟨as, q1⟩ := Dp.reads I _ _ v p1 rx
        obtain ⟨bs, q2⟩ := Dp.reads I _ _ u p2 ry
        exact rc_lt 61 (.tup xs) (.tup ys) X.A s v u as bs k (by simp only [D.dep]; omega) (by simpa [D.isDat] using d1) (by simpa [D.isDat] using d2) c1 c2 q1 q2 (by simpa [ltD] using hk) (by omega) X.prog X.w _ _ ⟨.bl k, H, I, rfl, fin_b S h⟩
    · rw [if_neg hz] at h
      exact h.elim
  | le =>
    intro pins s σ H x y v u Q I rx ry h
    obtain ⟨a, b, st, mu, W, s', ra, rb, S, h⟩ := h
    cases ra <;> cases rb <;> first
      | exact h.elim
      | exact op_le pins s σ H _ _ v u Q I rx ry ⟨_, _, rfl, rfl, fin_b S h⟩
  | gt =>
    intro pins s σ H x y v u Q I rx ry h
    obtain ⟨a, b, st, mu, W, s', ra, rb, S, h⟩ := h
    cases ra <;> cases rb <;> first
      | exact h.elim
      | exact op_gt pins s σ H _ _ v u Q I rx ry ⟨_, _, rfl, rfl, fin_b S h⟩
  | ge =>
    intro pins s σ H x y v u Q I rx ry h
    obtain ⟨a, b, st, mu, W, s', ra, rb, S, h⟩ := h
    cases ra <;> cases rb <;> first
      | exact h.elim
      | exact op_ge pins s σ H _ _ v u Q I rx ry ⟨_, _, rfl, rfl, fin_b S h⟩

/-! ### truth -/
theorem isEmpty_len {α β : Type} {xs : List α} {ys : List β} (h : xs.length = ys.length) : xs.isEmpty = ys.isEmpty := by
  cases xs <;> cases ys <;> simp_all
theorem tru_rep (S : Sim X.K X.mg mu st H) (ra : Rep X.K X.mg mu H x a) {Q : Bool → Hp → Prop} (h : Fin X.K X.mg W s' relT mu H (tru a st) Q) : ∃ k, TruV X.K x H k ∧ tru a st = .ok k st ∧ Q k H := by
  cases ra with
  | non => exact ⟨false, rfl, rfl, fin_b S h⟩
  | bl b => exact ⟨b, rfl, rfl, fin_b S h⟩
  | int i => exact ⟨_, rfl, rfl, fin_b S h⟩
  | str g => exact ⟨_, ⟨g.1, rfl⟩, rfl, fin_b S h⟩
  | tup hl z q => exact ⟨_, .inr (.inl ⟨_, hl.sq, by rw [isEmpty_len q.length]⟩), rfl, fin_b S h⟩
  | lst hl z q => exact ⟨_, .inl ⟨_, hl.sq, by rw [isEmpty_len q.length]⟩, rfl, fin_b S h⟩
  | @ref l n hm =>
    unfold tru at h ⊢
    simp only at h ⊢
    split at h
    · rename_i xs e
      obtain ⟨vs, h1, h2, h3⟩ := S.lst hm e
      exact ⟨_, .inl ⟨vs, .of h1, by rw [isEmpty_len h3.length]⟩, rfl, fin_b S h⟩
    · exact h.elim
  | _ => exact h.elim

/-! ### subscripts -/
theorem atI_rep {vs : List V} {ds : List D} {i : Int} {d : D} (r : Reps X.K X.mg mu H vs ds) (h : atI ds i = some d) : ∃ v, atI vs i = some v ∧ Rep X.K X.mg mu H v d := by
  unfold atI at h ⊢
  rw [r.length]
  cases e : ixN ds.length i with
  | none => rw [e] at h; cases h
  | some j =>
    rw [e] at h
    exact r.get h
theorem ixD_ok (hu : X.A.units + 200 < cLine) : IxR X (rrE X.K X.mg ixD) := by
  intro value slice pins s σ H x y v u Q I rx ry h hs
  obtain ⟨a, b, st, mu, W, s', ra, rb, S, h⟩ := h
  by_cases hr : ∃ n, a = .ref n
  · obtain ⟨n, rfl⟩ := hr
    cases ra with
    | @ref ad _ hm =>
      have hlt : n < st.length := by rw [← S.len]; exact (List.getElem?_eq_some_iff.mp hm).1
      have h : Fin X.K X.mg W s' (relE X.K X.mg) mu H (ixO n b st) Q := h
      unfold ixO at h
      cases eo : st[n] with
      | dct ks ds =>
        have eo' : st[n]? = some (.dct ks ds) := by rw [List.getElem?_eq_getElem hlt, eo]
        rw [eo'] at h
        simp only at h
        obtain ⟨vs, h1, h2, h3, h4⟩ := S.ob n ad _ hm eo'
        cases ek : keyD b with
        | none => rw [ek] at h; exact h.elim
        | some k =>
          rw [ek] at h
          simp only [Option.bind_some] at h
          cases ed : dgetD ks ds k with
          | none => rw [ed] at h; exact h.elim
          | some d =>
            rw [ed] at h
            obtain ⟨w, w1, w2⟩ := dget_rep h4 ed
            have ey := key_rep rb ek
            subst ey
            have g : DGet H ad (kV k) (some w) := by
              have g := DGet.k (k := k) h1
              rw [w1] at g
              exact g
            exact ix_dct hu value slice pins s σ H _ _ v u Q I rx ry ⟨ad, w, rfl, g, fin_same S h w2⟩ hs
      | lst xs =>
        have eo' : st[n]? = some (.lst xs) := by rw [List.getElem?_eq_getElem hlt, eo]
        rw [eo'] at h
        simp only at h
        obtain ⟨vs, h1, h2, h3⟩ := S.ob n ad _ hm eo'
        cases rb with
        | int i =>
          simp only at h
          cases e2 : atI xs i with
          | none => rw [e2] at h; exact h.elim
          | some d =>
            rw [e2] at h
            obtain ⟨w, w1, w2⟩ := atI_rep h3 e2
            exact ix_list value slice pins s σ H _ _ v u Q I rx ry ⟨ad, vs, i, w, rfl, rfl, .inl (.inl h1), w1, fin_same S h w2⟩ hs
        | _ => exact h.elim
      | ins c fs ds =>
        have eo' : st[n]? = some (.ins c fs ds) := by rw [List.getElem?_eq_getElem hlt, eo]
        rw [eo'] at h
        exact h.elim
  have seq : ∀ i, b = .int i → (∀ z, a ≠ .str z) → wpAny (model X.prog X.w) X.A (subscriptTail value slice v u) (EP X pins σ Q) X.xe s := fun i e hn => by
    subst e
    cases rb
    have h' : Fin X.K X.mg W s' (relE X.K X.mg) mu H (match seqOf a st with
      | some xs => match atI xs i with
        | some d => .ok d st
        | none => .bad
      | none => .bad) Q := by
      cases a with
      | str z => exact absurd rfl (hn z)
      | ref n => exact absurd ⟨n, rfl⟩ hr
      | _ => exact h
    cases e1 : seqOf a st with
    | none => rw [e1] at h'; exact h'.elim
    | some xs =>
      rw [e1] at h'
      simp only at h'
      cases e2 : atI xs i with
      | none => rw [e2] at h'; exact h'.elim
      | some d =>
        rw [e2] at h'
        obtain ⟨l, vs, rfl, h1, q1, z1⟩ := seqOf_rep S ra e1
        obtain ⟨w, h2, q2⟩ := atI_rep q1 e2
        have q := fin_same S h' q2
        rcases h1 with h1 | h1
        · exact ix_list value slice pins s σ H _ _ v u Q I rx ry ⟨l, vs, i, w, rfl, rfl, h1, h2, q⟩ hs
        · exact ix_tup value slice pins s σ H _ _ v u Q I rx ry ⟨l, vs, i, w, rfl, rfl, h1, h2, q⟩ hs
  cases rb with
  | int i =>
    cases a with
    | str z =>
      cases ra with
      | str g =>
        simp only [ixD] at h
        cases e2 : atI z.cps.toList i with
        | none => rw [e2] at h; exact h.elim
        | some c =>
          rw [e2] at h
          have gc : strGood ⟨#[c]⟩ := by
            refine ⟨by show 1 ≤ sizeLine; decide, ?_⟩
            obtain ⟨j, _, hj, _⟩ := atI_get e2
            have q := g.2
            unfold PyData.strOk at q
            rw [Array.all_eq_true_iff_forall_mem] at q
            have hc : c ∈ z.cps := by simpa using List.mem_of_getElem? hj
            have := q c hc
            unfold PyData.strOk
            simpa using this
          exact ix_str value slice pins s σ H _ _ v u Q I rx ry ⟨z, i, c, rfl, rfl, g.1, e2, fin_same S h (.str gc)⟩ hs
    | _ => exact seq i rfl (by simp)
  | _ => cases a <;> first | exact absurd ⟨_, rfl⟩ hr | exact h.elim

/-! ### slices -/
theorem Reps.cut {vs : List V} {ds : List D} (r : Reps X.K X.mg mu H vs ds) (lo hi : Option Int) : Reps X.K X.mg mu H (cutV vs lo hi) (cutD ds lo hi) := by
  unfold cutV cutD
  rw [r.length]
  exact (r.drop _).take _
theorem cutD_length {α : Type} (xs : List α) (lo hi : Option Int) : (cutD xs lo hi).length ≤ xs.length := by
  unfold cutD
  rw [List.length_take, List.length_drop]
  omega
def rSlD (K : PySem.W.Frag) (mg : Str → Option Value) : V → Option Int → Option Int → Hp → VK → Prop := fun x lo hi H Q =>
  ∃ a st mu W s, Rep K mg mu H x a ∧ Sim K mg mu st H ∧ Fin K mg W s (relE K mg) mu H (slD a lo hi st) Q
theorem slD_ok : SlR X (rSlD X.K X.mg) := by
  intro pins s σ H x v vl vu lo hi sl Q I rx hs pl pu h
  obtain ⟨a, st, mu, W, s', ra, S, h⟩ := h
  have lst : ∀ xs, lstOf a st = some xs → Fin X.K X.mg W s' (relE X.K X.mg) mu H (.ok (.lst (cutD xs lo hi)) st) Q →
      ∃ T id, typeLookup (.type T) "__getitem__" = pure (some (.builtin id)) ∧ s.TypeIs v T ∧ wpAny (model X.prog X.w) X.A (getItem v (.ref sl)) (EP X pins σ Q) X.xe s := fun xs e h => by
    obtain ⟨l, vs, rfl, h1, q1, z1⟩ := lstOf_rep S ra e
    have z2 := cutD_length xs lo hi
    exact sl_list pins s σ H _ v vl vu lo hi sl Q I rx hs pl pu ⟨l, vs, rfl, .of h1, fun p hp => fin_new S hp h (new_lst S hp (q1.cut lo hi) (by omega))⟩
  cases ra with
  | @tup l vs xs hl z q1 =>
    have z2 := cutD_length xs lo hi
    refine sl_tupA pins s σ H _ v vl vu lo hi sl Q I rx hs pl pu ⟨l, vs, rfl, hl.sq, fun e => ?_, fun _ p hp => fin_new S hp h (new_tup S hp (q1.cut lo hi) (by omega))⟩
    have e2 : cutD xs lo hi = xs := by
      unfold cutD
      rw [← q1.length, e.1, e.2, List.drop_zero]
      rw [q1.length]
      exact List.take_length
    simp only [slD] at h
    rw [e2] at h
    exact fin_same S h (.tup hl z q1)
  | lst hl z q1 => exact lst _ rfl h
  | @ref l n hm =>
    simp only [slD] at h
    cases e : lstOf (.ref n) st with
    | none => rw [e] at h; exact h.elim
    | some xs => rw [e] at h; exact lst xs e h
  | _ => exact h.elim

/-! ### built-ins -/
def B.val : B → Value
  | .len => .builtin "len" | .abs => .builtin "abs" | .int => .type "int" | .list => .type "list" | .tuple => .type "tuple" | .all => .builtin "all" | .any => .builtin "any" | .ord => .builtin "ord" | .sorted => .builtin "sorted" | .min => .builtin "min" | .max => .builtin "max"
def B.nm : B → Str
  | .len => "len" | .abs => "abs" | .int => "int" | .list => "list" | .tuple => "tuple" | .all => "all" | .any => "any" | .ord => "ord" | .sorted => "sorted" | .min => "min" | .max => "max"
def ra (K : PySem.W.Frag) (mg : Str → Option Value) (f : List D → So → R D) : List V → Hp → VK → Prop := fun xs H Q =>
  ∃ ds st mu W s, Reps K mg mu H xs ds ∧ Sim K mg mu st H ∧ Fin K mg W s (relE K mg) mu H (f ds st) Q
theorem vals_sign {z : Str} {acc : Array Value} (h : ItemsOf (SignAt z) acc z.cps.size) : Vals (z.cps.toList.map fun c => V.str ⟨#[c]⟩) acc.toList := by
  refine vals_of_at (by rw [List.length_map, Array.length_toList, Array.length_toList, h.1]) fun j x w h1 h2 => ?_
  obtain ⟨c, t, hc, rfl⟩ := h.2 j w (by rw [← Array.getElem?_toList]; exact h2)
  rw [List.getElem?_map, Array.getElem?_toList, hc] at h1
  cases h1
  exact ⟨t, rfl⟩
theorem bls_reps : ∀ {vs : List V} {xs : List D} {bs : List Bool}, Reps X.K X.mg mu H vs xs → blsOf xs = some bs → vs = bs.map V.bl
  | _, _, _, .nil, h => by cases h; rfl
  | _, _, _, .cons (d := d) r rs, h => by
    cases d with
    | bl b =>
      cases r
      simp only [blsOf, Option.map_eq_some_iff] at h
      obtain ⟨bs', h1, rfl⟩ := h
      rw [bls_reps rs h1]
      rfl
    | _ => cases h
set_option maxHeartbeats 4000000 in
theorem ints_rep {K : PySem.W.Frag} {mg : Str → Option Value} {mu : Mu} {H : Hp} : ∀ {vs : List V} {ds : List D} {ns : List Int}, Reps K mg mu H vs ds → intsD ds = some ns → vs = ns.map V.int
  | _, _, _, .nil, e => by simp only [intsD, Option.some.injEq] at e; subst e; rfl
  | _, _, ns, .cons (d := d) r rs, e => by
    cases d with
    | int i =>
      simp only [intsD] at e
      cases ei : intsD _ with
      | none => rw [ei] at e; cases e
      | some ms =>
        rw [ei] at e
        simp only [Option.map_some, Option.some.injEq] at e
        subst e
        cases r
        rw [ints_rep rs ei]
        rfl
    | _ => simp [intsD] at e
theorem minL_go : ∀ (ns : List Int) (n : Int), (minL n ns = n ∨ minL n ns ∈ ns) ∧ minL n ns ≤ n ∧ ∀ y ∈ ns, minL n ns ≤ y
  | [], n => ⟨.inl rfl, Int.le_refl _, fun _ h => by cases h⟩
  | m :: ns, n => by
    obtain ⟨h1, h2, h3⟩ := minL_go ns (if m < n then m else n)
    have e : minL n (m :: ns) = minL (if m < n then m else n) ns := rfl
    rw [e]
    refine ⟨?_, ?_, fun y hy => ?_⟩
    · rcases h1 with h1 | h1
      · rw [h1]; split
        · exact .inr List.mem_cons_self
        · exact .inl rfl
      · exact .inr (List.mem_cons_of_mem _ h1)
    · exact Int.le_trans h2 (by split <;> omega)
    · rcases List.mem_cons.mp hy with rfl | hy
      · exact Int.le_trans h2 (by split <;> omega)
      · exact h3 y hy
theorem maxL_go : ∀ (ns : List Int) (n : Int), (maxL n ns = n ∨ maxL n ns ∈ ns) ∧ n ≤ maxL n ns ∧ ∀ y ∈ ns, y ≤ maxL n ns
  | [], n => ⟨.inl rfl, Int.le_refl _, fun _ h => by cases h⟩
  | m :: ns, n => by
    obtain ⟨h1, h2, h3⟩ := maxL_go ns (if n < m then m else n)
    have e : maxL n (m :: ns) = maxL (if n < m then m else n) ns := rfl
    rw [e]
    refine ⟨?_, ?_, fun y hy => ?_⟩
    · rcases h1 with h1 | h1
      · rw [h1]; split
        · exact .inr List.mem_cons_self
        · exact .inl rfl
      · exact .inr (List.mem_cons_of_mem _ h1)
    · exact Int.le_trans (by split <;> omega) h2
    · rcases List.mem_cons.mp hy with rfl | hy
      · exact Int.le_trans (by split <;> omega) h2
      · exact h3 y hy
theorem minL_uniq {m n : Int} {ns : List Int} (hm : m ∈ n :: ns) (h : ∀ y ∈ n :: ns, m ≤ y) : m = minL n ns := by
  obtain ⟨h1, h2, h3⟩ := minL_go ns n
  have a : m ≤ minL n ns := h _ (by rcases h1 with h1 | h1 <;> simp [h1])
  rcases List.mem_cons.mp hm with rfl | hm
  · omega
  · have := h3 m hm; omega
theorem maxL_uniq {m n : Int} {ns : List Int} (hm : m ∈ n :: ns) (h : ∀ y ∈ n :: ns, y ≤ m) : m = maxL n ns := by
  obtain ⟨h1, h2, h3⟩ := maxL_go ns n
  have a : maxL n ns ≤ m := h _ (by rcases h1 with h1 | h1 <;> simp [h1])
  rcases List.mem_cons.mp hm with rfl | hm
  · omega
  · have := h3 m hm; omega
set_option maxHeartbeats 4000000 in
theorem biD_ok (hc : X.calm = true) (hu : X.A.units + 200 < cLine) (f : B) : CallR X f.val (ra X.K X.mg (biD f)) := by
  intro pins s σ H xs us Q I r h
  obtain ⟨ds, st, mu, W, s', rs, S, h⟩ := h
  -- one argument
  cases rs with
  | nil => cases f <;> exact h.elim
  | cons r1 rt =>
    rename_i x xt d dt
    cases rt with
    | cons r2 rt =>
      rename_i x2 xt2 d2 dt2
      have two : ∀ g : B, g = f → (g ≠ .min ∧ g ≠ .max) → wpAny (model X.prog X.w) X.A (call f.val us) (EP X pins σ Q) X.xe s := fun g hg hn => by
        subst hg
        cases g <;> first
          | exact absurd rfl hn.1
          | exact absurd rfl hn.2
          | exact h.elim
          | (cases d <;> exact h.elim)
      cases f with
      | min =>
        cases rt with
        | nil =>
          cases r1 <;> cases r2 <;> first
            | exact h.elim
            | exact call_min2 hc pins s σ H _ us Q I r ⟨_, _, rfl, fin_same S h (.int _)⟩
        | cons r3 rt => cases r1 <;> cases r2 <;> exact h.elim
      | max =>
        cases rt with
        | nil =>
          cases r1 <;> cases r2 <;> first
            | exact h.elim
            | exact call_max2 hc pins s σ H _ us Q I r ⟨_, _, rfl, fin_same S h (.int _)⟩
        | cons r3 rt => cases r1 <;> cases r2 <;> exact h.elim
      | _ => exact two _ rfl ⟨by decide, by decide⟩
    | nil =>
      cases f with
      | len =>
        simp only [biD] at h
        have len : ∀ n, lenD d st = some n → Q (.int n) H → wpAny (model X.prog X.w) X.A (call (.builtin "len") us) (EP X pins σ Q) X.xe s := fun n e q => by
          refine call_len pins s σ H _ us Q I r ⟨x, n, rfl, ?_, q⟩
          have seq : (∀ z, d ≠ .str z) → LenV X.K x H n := fun hn => by
            have e' : (seqOf d st).map List.length = some n := by
              cases d with
              | str z => exact absurd rfl (hn z)
              | _ => exact e
            obtain ⟨ys, e1, e2⟩ := Option.map_eq_some_iff.mp e'
            obtain ⟨l, vs, rfl, h1, q1, z1⟩ := seqOf_rep S r1 e1
            rcases h1 with h1 | h1
            · exact .inl ⟨vs, h1, by rw [q1.length]; exact e2.symm⟩
            · exact .inr ⟨vs, h1, by rw [q1.length]; exact e2.symm⟩
          cases d with
          | str z => cases r1 with
            | str g => cases e; exact ⟨g.1, rfl⟩
          | _ => exact seq (by simp)
        cases e : lenD d st with
        | none => rw [e] at h; exact h.elim
        | some n => rw [e] at h; exact len n e (fin_same S h (.int _))
      | abs =>
        cases r1 with
        | int i => exact call_abs pins s σ H _ us Q I r ⟨i, rfl, fin_same S h (.int _)⟩
        | _ => exact h.elim
      | int =>
        cases r1 with
        | int i => exact call_int1 pins s σ H _ us Q I r (.inl ⟨i, rfl, fin_same S h (.int _)⟩)
        | bl b => exact call_int1 pins s σ H _ us Q I r (.inr ⟨b, rfl, fin_same S h (.int _)⟩)
        | _ => exact h.elim
      | list =>
        have seq : (∀ z, d ≠ .str z) → wpAny (model X.prog X.w) X.A (call (.type "list") us) (EP X pins σ Q) X.xe s := fun hn => by
          have h' : Fin X.K X.mg W s' (relE X.K X.mg) mu H (match seqOf d st with
            | some xs => .ok (.lst xs) st
            | none => .bad) Q := by
            cases d with
            | str z => exact absurd rfl (hn z)
            | _ => exact h
          cases e : seqOf d st with
          | none => rw [e] at h'; exact h'.elim
          | some ys =>
            rw [e] at h'
            obtain ⟨l, vs, rfl, h1, q1, z1⟩ := seqOf_rep S r1 e
            exact call_list_of pins s σ H _ us Q I r ⟨l, vs, rfl, h1, fun p hp => fin_new S hp h' (new_lst S hp q1 z1)⟩
        cases d with
        | str z =>
          cases r1 with
          | str g =>
            obtain ⟨u, rfl, t, rfl⟩ := vals1 r
            refine call_list_str (I.ok.hd hc) z t (fun h' tk acc' c' hk hS hacc => ?_) g.1
            have hp : H s.heap.objs.size = none := I.hok.fresh (Nat.le_refl _)
            refine ⟨.ref s.heap.objs.size, upd H s.heap.objs.size (.lst (z.cps.toList.map fun c => V.str ⟨#[c]⟩)), I.laid hk (Nat.le_refl _) (show ObjOk X.prog X.w _ _ _ (.lst _) from ⟨?_, acc'.toList, c', vals_sign hacc, ?_⟩), rfl, fin_new S hp h (new_lst S hp (Reps.signs g) ?_)⟩
            · rw [List.length_map]; exact g.1
            · rw [Array.toArray_toList]; exact hS
            · unfold signs; rw [List.length_map]; exact g.1
        | _ => exact seq (by simp)
      | tuple =>
        simp only [biD] at h
        cases e : seqOf d st with
        | none => rw [e] at h; exact h.elim
        | some ys =>
          rw [e] at h
          obtain ⟨l, vs, rfl, h1, q1, z1⟩ := seqOf_rep S r1 e
          by_cases ht : ∃ zs, d = .tup zs
          · obtain ⟨zs, rfl⟩ := ht
            cases r1 with
            | tup hl z q2 =>
              cases e
              exact call_tuple_of pins s σ H _ us Q I r ⟨l, _, rfl, .inr ⟨hl.sq, fin_same S h (.tup hl z q2)⟩⟩
          · have h1' : ∃ (l' : Addr) (vs' : List V), V.ref l = .ref l' ∧ SqL X.K H l' vs' ∧ Reps X.K X.mg mu H vs' ys := by
              cases r1 with
              | tup hl z q2 => exact absurd ⟨_, rfl⟩ ht
              | lst hl z q2 => cases e; exact ⟨_, _, rfl, hl.sq, q2⟩
              | scr hl z q2 => cases e; exact ⟨_, _, rfl, hl.sq, q2⟩
              | @ref l n hm =>
                obtain ⟨l2, vs2, e6, h7, h8, _⟩ := lstOf_rep S (.ref hm) (show lstOf (.ref n) st = some ys from e)
                exact ⟨l2, vs2, e6, .of h7, h8⟩
              | _ => cases e
            obtain ⟨l', vs', e7, h1', q1⟩ := h1'
            cases e7
            exact call_tuple_of pins s σ H _ us Q I r ⟨l, vs', rfl, .inl ⟨h1', fun p hp => fin_new S hp h (new_tup S hp q1 z1)⟩⟩
      | all =>
        simp only [biD] at h
        cases e : (lstOf d st).bind blsOf with
        | none => rw [e] at h; exact h.elim
        | some bs =>
          rw [e] at h
          cases e1 : lstOf d st with
          | none => rw [e1] at e; cases e
          | some ys =>
            rw [e1] at e
            obtain ⟨l, vs, rfl, h1, q1, z1⟩ := lstOf_rep S r1 e1
            have ev := bls_reps q1 e
            subst ev
            exact cr_all hc pins s σ H _ us Q I r ⟨l, bs, rfl, .of h1, fin_same S h (.bl _)⟩
      | any =>
        simp only [biD] at h
        cases e : (lstOf d st).bind blsOf with
        | none => rw [e] at h; exact h.elim
        | some bs =>
          rw [e] at h
          cases e1 : lstOf d st with
          | none => rw [e1] at e; cases e
          | some ys =>
            rw [e1] at e
            obtain ⟨l, vs, rfl, h1, q1, z1⟩ := lstOf_rep S r1 e1
            have ev := bls_reps q1 e
            subst ev
            exact cr_any hc pins s σ H _ us Q I r ⟨l, bs, rfl, .of h1, fin_same S h (.bl _)⟩
      | sorted =>
        have h : Fin X.K X.mg W s' (relE X.K X.mg) mu H (match keysOf d st with
          | some ks => if ks.length < 64 then sortR (ks.map keyVal) st else .bad
          | none => match seqOf d st with
            | some xs => sortR xs st
            | none => .bad) Q := h
        cases ek : keysOf d st with
        | some ks =>
          rw [ek] at h
          cases r1 with
          | @ref ad n hm =>
            have hlt : n < st.length := by rw [← S.len]; exact (List.getElem?_eq_some_iff.mp hm).1
            have eo' : ∃ ds, st[n]? = some (.dct ks ds) := by
              unfold keysOf at ek
              simp only at ek
              split at ek
              · rename_i ks' ds' e; cases ek; exact ⟨_, e⟩
              · cases ek
            obtain ⟨ds, eo'⟩ := eo'
            obtain ⟨vs, h1, h2, h3, h4⟩ := S.ob n ad _ hm eo'
            simp only at h
            by_cases h64 : ks.length < 64
            · rw [if_pos h64] at h
              unfold sortR at h
              by_cases hs : sortOk (ks.map keyVal) = true
              · rw [if_pos hs, ← sortD_isort (sortOk_iff.mp hs)] at h
                refine call_sortK hc hu pins s σ H _ us Q I r ⟨ad, ks.zip vs, ks, mu, rfl, h1, ?_, h3.2, sortOk_iff.mp hs, h64, fun p ws hp hw => ?_⟩
                · rw [List.map_fst_zip (by rw [h4.length]; omega)]
                · exact fin_new S hp h (new_lst S hp hw (by rw [sortD_len, List.length_map]; exact Nat.le_trans (Nat.le_of_lt h64) (by decide)))
              · rw [if_neg hs] at h; exact h.elim
            · rw [if_neg h64] at h; exact h.elim
          | _ => cases ek
        | none =>
          rw [ek] at h
          simp only at h
          cases e1 : seqOf d st with
          | none => rw [e1] at h; exact h.elim
          | some ys =>
            rw [e1] at h
            simp only [sortR] at h
            obtain ⟨l, vs, rfl, h1, q1, z1⟩ := seqOf_rep S r1 e1
            by_cases hs : sortOk ys = true
            · rw [if_pos hs, ← sortD_isort (sortOk_iff.mp hs)] at h
              exact call_sortL hu pins s σ H _ us Q I r ⟨l, vs, mu, ys, rfl, h1, q1, sortOk_iff.mp hs, z1, fun p ws hp hw => fin_new S hp h (new_lst S hp hw (by rw [sortD_len]; exact z1))⟩
            · rw [if_neg hs] at h; exact h.elim
      | min =>
        have h : Fin X.K X.mg W s' (relE X.K X.mg) mu H (match (lstOf d st).bind intsD with
          | some (n :: ns) => .ok (.int (minL n ns)) st
          | _ => .bad) Q := by
          cases d <;> exact h
        cases e1 : lstOf d st with
        | none => rw [e1] at h; exact h.elim
        | some ys =>
          rw [e1, Option.bind_some] at h
          obtain ⟨l, vs, rfl, h1, q1, z1⟩ := lstOf_rep S r1 e1
          cases e2 : intsD ys with
          | none => rw [e2] at h; exact h.elim
          | some ns =>
            cases ns with
            | nil => rw [e2] at h; exact h.elim
            | cons n ns =>
              rw [e2] at h
              obtain rfl := ints_rep q1 e2
              exact cr_min hc pins s σ H _ us Q I r ⟨l, n :: ns, rfl, .of h1, by simp, fun m hm hle => by rw [minL_uniq hm hle]; exact fin_same S h (.int _)⟩
      | max =>
        have h : Fin X.K X.mg W s' (relE X.K X.mg) mu H (match (lstOf d st).bind intsD with
          | some (n :: ns) => .ok (.int (maxL n ns)) st
          | _ => .bad) Q := by
          cases d <;> exact h
        cases e1 : lstOf d st with
        | none => rw [e1] at h; exact h.elim
        | some ys =>
          rw [e1, Option.bind_some] at h
          obtain ⟨l, vs, rfl, h1, q1, z1⟩ := lstOf_rep S r1 e1
          cases e2 : intsD ys with
          | none => rw [e2] at h; exact h.elim
          | some ns =>
            cases ns with
            | nil => rw [e2] at h; exact h.elim
            | cons n ns =>
              rw [e2] at h
              obtain rfl := ints_rep q1 e2
              exact cr_max hc pins s σ H _ us Q I r ⟨l, n :: ns, rfl, .of h1, by simp, fun m hm hle => by rw [maxL_uniq hm hle]; exact fin_same S h (.int _)⟩
      | ord =>
        cases r1 with
        | @str z g =>
          have h : Fin X.K X.mg W s' (relE X.K X.mg) mu H (if z.length = 1 then .ok (.int ((z.cps.getD 0 0 : Nat) : Int)) st else .bad) Q := h
          by_cases hz : z.length = 1
          · rw [if_pos hz] at h
            exact call_ord pins s σ H _ us Q I r ⟨z, rfl, hz, fin_same S h (.int _)⟩
          · rw [if_neg hz] at h
            exact h.elim
        | _ => exact h.elim

/-! ### isinstance -/
theorem isi_ok {t : String} {k : Bool} (S : Sim X.K X.mg mu st H) (r : Rep X.K X.mg mu H x a) (h : isiD a t = some k) : ∃ ty, TyX X.K H x ty ∧ PySem.W.kitOne X.K ty (.type t) = some k := by
  have e0 : ∀ (T : String) (l m : List String), ((if t ∈ l then some true else if t ∈ m then some false else none) = some k) → (l.all fun z => decide (kitB T z = some true)) = true → (m.all fun z => decide (kitB T z = some false)) = true → PySem.W.kitOne X.K (.type T) (.type t) = some k := fun T l m h h1 h2 => by
    split at h
    · rename_i hm
      cases h
      exact kit_ty (of_decide_eq_true (List.all_eq_true.mp h1 _ hm))
    · split at h
      · rename_i hm
        cases h
        exact kit_ty (of_decide_eq_true (List.all_eq_true.mp h2 _ hm))
      · cases h
  cases r with
  | non => exact ⟨_, .base .non, e0 "NoneType" [] ["int", "bool", "str", "tuple", "list"] (by simpa [isiD] using h) (by decide +kernel) (by decide +kernel)⟩
  | bl b => exact ⟨_, .base (.bl b), e0 "bool" _ _ h (by decide +kernel) (by decide +kernel)⟩
  | int i => exact ⟨_, .base (.int i), e0 "int" _ _ h (by decide +kernel) (by decide +kernel)⟩
  | str g => exact ⟨_, .base (.str _), e0 "str" _ _ h (by decide +kernel) (by decide +kernel)⟩
  | tup hl z q =>
    rcases hl with ⟨hl, _⟩ | ⟨o, its, n, e1, e2, _⟩
    · exact ⟨_, .base (.tup hl), e0 "tuple" _ _ h (by decide +kernel) (by decide +kernel)⟩
    · exact ⟨_, .kTuple e1 e2, e0 "tuple" _ _ h (by decide +kernel) (by decide +kernel)⟩
  | lst hl z q => exact ⟨_, .base (.lst hl.1), e0 "list" _ _ h (by decide +kernel) (by decide +kernel)⟩
  | _ => cases h
end
end CP

set_option Elab.async false
set_option linter.all false
set_option maxRecDepth 100000
set_option autoImplicit false
/-! CpWalk: readings by data, rule by rule. -/
namespace CP
open PySem PySem.Spec PyProof.Rows L2

section
variable {K : PySem.W.Frag} {mg : Str → Option Value} {W : WX} {s : L2.St} {mu mu' : Mu} {H H' : Hp} {st : So} {l : Lo} {α β γ δ : Type} {rel : Mu → Hp → β → α → Prop} {rel2 : Mu → Hp → δ → γ → Prop}
theorem Fin.step {m : Lo → So → R α} {f : α → So → R γ} {Q : δ → Hp → Prop} (L : RepL K mg mu H s l) (S : Sim K mg mu st H) (h : Fin K mg W s rel2 mu H ((m l st).bind f) Q) :
    tG K mg W rel m s H (fun b H1 => ∃ mu1 a st1, Ext mu H mu1 H1 ∧ RepL K mg mu1 H1 s l ∧ Sim K mg mu1 st1 H1 ∧ rel mu1 H1 b a ∧ Fin K mg W s rel2 mu1 H1 (f a st1) Q) :=
  ⟨l, st, mu, L, S, (Fin.bind h).mono fun b H1 ⟨mu1, a, st1, e, S1, r1, _, f1⟩ => ⟨mu1, a, st1, e, L.mono e, S1, r1, f1⟩⟩
theorem tG.mono {m : Lo → So → R α} {Q Q' : β → Hp → Prop} (h : tG K mg W rel m s H Q) (q : ∀ b H1, Q b H1 → Q' b H1) : tG K mg W rel m s H Q' :=
  let ⟨l, st, mu, L, S, h⟩ := h
  ⟨l, st, mu, L, S, h.mono q⟩
theorem Fin.wish {W' : WX} {s' : L2.St} {r : R α} {Q : β → Hp → Prop} (h : Fin K mg W s rel mu H r Q) (w : ∀ C H, W (.ref C) none s H → W' (.ref C) none s' H) : Fin K mg W' s' rel mu H r Q := by
  cases r with
  | ok a st => exact h
  | exc c p st => exact ⟨h.1, fun mu' H' C e S g => w C H' (h.2 mu' H' C e S g)⟩
  | bad => exact h
end

theorem pe_imp {X : Cx} {e : Expr} {t t' : TE} (h : PE X e t) (q : ∀ σ H Q, t' σ H Q → t σ H Q) : PE X e t' := ⟨fun pins s σ H Q I hw => h.run pins s σ H Q I (q σ H Q hw)⟩
theorem pt_imp {X : Cx} {e : Expr} {t t' : TT} (h : PT X e t) (q : ∀ σ H Q, t' σ H Q → t σ H Q) : PT X e t' := ⟨fun pins s σ H Q I hw => h.run pins s σ H Q I (q σ H Q hw)⟩
theorem pw_imp {X : Cx} {e : Expr} {t t' : TT} (h : PW X e t) (q : ∀ σ H Q, t' σ H Q → t σ H Q) : PW X e t' := ⟨fun wh pins s σ H Q I hw => h.run wh pins s σ H Q I (q σ H Q hw)⟩
theorem pa_imp {X : Cx} {e : List Expr} {t t' : TA} (h : PA X e t) (q : ∀ σ H Q, t' σ H Q → t σ H Q) : PA X e t' := ⟨fun pos pins s σ H Q I hw => h.run pos pins s σ H Q I (q σ H Q hw)⟩
theorem po_imp {X : Cx} {e : Option Expr} {t t' : TO} (h : PO X e t) (q : ∀ σ H Q, t' σ H Q → t σ H Q) : PO X e t' := ⟨fun pins s σ H Q I hw => h.run pins s σ H Q I (q σ H Q hw)⟩
theorem pi_imp {X : Cx} {tg e : Expr} {t t' : TI} (h : PI X tg e t) (q : ∀ σ H R, t' σ H R → t σ H R) : PI X tg e t' := ⟨fun pins s σ H R I hw => h.run pins s σ H R I (q σ H R hw)⟩
theorem pg_imp {X : Cx} {e : Expr} {t t' : TG} (h : PG X e t) (q : ∀ v σ H Q, t' v σ H Q → t v σ H Q) : PG X e t' := ⟨fun pins s σ H v u Q I r hw => h.run pins s σ H v u Q I r (q v σ H Q hw)⟩
theorem ps_imp {X : Cx} {e : Stmt} {t t' : TS} (h : PS X e t) (q : ∀ D σ H, t' D σ H → t D σ H) : PS X e t' := ⟨fun pins s σ H D I hw => h.run pins s σ H D I (q D σ H hw)⟩
theorem pss_imp {X : Cx} {e : List Stmt} {t t' : TS} (h : PSs X e t) (q : ∀ D σ H, t' D σ H → t D σ H) : PSs X e t' := ⟨fun pins s σ H D I hw => h.run pins s σ H D I (q D σ H hw)⟩

/-- a truth of a value -/
def tB {m : Lo → So → R D} : Lo → So → R Bool := fun l st => (m l st).bind fun d st => tru d st

/-! ### what is walked -/
/-- the iterator J yields what stands for xs, whatever is added to the heap -/
def Walk (K : PySem.W.Frag) (mg : Str → Option Value) (mu : Mu) (H : Hp) (J : It) (xs : List D) : Prop := xs.length ≤ sizeLine ∧
  ∀ mu' H', Ext0 mu H mu' H' → (∃ st, Sim K mg mu' st H') → (∀ i, xs.length ≤ i → J.stop i H') ∧
    ∀ i d, xs[i]? = some d → J.go i H' ∧ ∀ x H'', J.yld i H' x H'' → Ext mu' H' mu' H'' ∧ Rep K mg mu' H'' x d ∧ ∀ st, Sim K mg mu' st H' → Sim K mg mu' st H''
abbrev relW (K : PySem.W.Frag) (mg : Str → Option Value) : Mu → Hp → It → List D → Prop := Walk K mg
section
variable {K : PySem.W.Frag} {mg : Str → Option Value} {mu mu' : Mu} {H H' : Hp} {J : It} {xs : List D}
theorem Walk.ext (w : Walk K mg mu H J xs) (e : Ext mu H mu' H') : Walk K mg mu' H' J xs := ⟨w.1, fun mu2 H2 f => w.2 mu2 H2 (e.weak.trans0 f)⟩
theorem walk_lst {a : Addr} {vs : List V} (h : LstAt mu H a vs) (r : Reps K mg mu H vs xs) (z : xs.length ≤ sizeLine) : Walk K mg mu H (Itl K a) xs := ⟨z, fun mu' H' e _ => by
  have hq : SqL K H' a vs := (h.mono0 e).sq
  refine ⟨fun i hi => ⟨vs, hq, by rw [r.length]; exact hi⟩, fun i d hd => ?_⟩
  obtain ⟨v, h1, h2⟩ := (r.mono0 e).get hd
  refine ⟨⟨vs, v, hq, h1⟩, fun x H'' y => ?_⟩
  obtain ⟨rfl, y⟩ := y
  have e3 := y vs hq
  rw [h1] at e3
  cases e3
  exact ⟨.refl _ _, h2, fun _ S => S⟩⟩
theorem walk_scr {a : Addr} {vs : List V} (h : ScrAt K mu H a vs) (r : Reps K mg mu H vs xs) (z : xs.length ≤ sizeLine) : Walk K mg mu H (Itl K a) xs := ⟨z, fun mu' H' e _ => by
  have hq : SqL K H' a vs := (h.mono0 e).sq
  refine ⟨fun i hi => ⟨vs, hq, by rw [r.length]; exact hi⟩, fun i d hd => ?_⟩
  obtain ⟨v, h1, h2⟩ := (r.mono0 e).get hd
  refine ⟨⟨vs, v, hq, h1⟩, fun x H'' y => ?_⟩
  obtain ⟨rfl, y⟩ := y
  have e3 := y vs hq
  rw [h1] at e3
  cases e3
  exact ⟨.refl _ _, h2, fun _ S => S⟩⟩
theorem walk_tup {a : Addr} {vs : List V} (h : TupAt K mu H a vs) (r : Reps K mg mu H vs xs) (z : xs.length ≤ sizeLine) : Walk K mg mu H (Itt K a) xs := ⟨z, fun mu' H' e _ => by
  have hq : SqT K H' a vs := (h.mono0 e).sq
  refine ⟨fun i hi => ⟨vs, hq, by rw [r.length]; exact hi⟩, fun i d hd => ?_⟩
  obtain ⟨v, h1, h2⟩ := (r.mono0 e).get hd
  refine ⟨⟨vs, v, hq, h1⟩, fun x H'' y => ?_⟩
  obtain ⟨rfl, y⟩ := y
  have e3 := y vs hq
  rw [h1] at e3
  cases e3
  exact ⟨.refl _ _, h2, fun _ S => S⟩⟩
theorem walk_rng (lo : Int) (n : Nat) (z : n ≤ sizeLine) : Walk K mg mu H (Itr lo n) (rngD lo n) := ⟨by simpa [rngD] using z, fun mu' H' e _ => by
  refine ⟨fun i hi => by show n ≤ i; simpa [rngD] using hi, fun i d hd => ?_⟩
  have hi : i < n := by simpa [rngD] using (List.getElem?_eq_some_iff.mp hd).1
  refine ⟨hi, fun x H'' y => ?_⟩
  obtain ⟨rfl, rfl⟩ := y
  have ed : d = .int (lo + i) := by
    unfold rngD at hd
    rw [List.getElem?_map, List.getElem?_range hi] at hd
    cases hd
    rfl
  subst ed
  exact ⟨.refl _ _, .int _, fun _ S => S⟩⟩
theorem walk_str {x : Str} (g : strGood x) : Walk K mg mu H (Its x) (signs x) := ⟨by unfold signs; rw [List.length_map]; exact g.1, fun mu' H' e _ => by
  refine ⟨fun i hi => by show x.cps.size ≤ i; simpa [signs] using hi, fun i d hd => ?_⟩
  have hi : i < x.cps.size := by simpa [signs] using (List.getElem?_eq_some_iff.mp hd).1
  refine ⟨hi, fun v H'' y => ?_⟩
  obtain ⟨rfl, c, hc, rfl⟩ := y
  obtain ⟨w, h1, h2⟩ := (Reps.signs (K := K) (mg := mg) (mu := mu') (H := H'') g).get hd
  rw [List.getElem?_map, Array.getElem?_toList, hc] at h1
  cases h1
  exact ⟨.refl _ _, h2, fun _ S => S⟩⟩
end

theorem ext_new0 {mu : Mu} {H : Hp} {p : Addr} {o : HO} (hp : H p = none) : Ext mu H mu (upd H p o) :=
  ⟨⟨[], (List.append_nil _).symm⟩, fun a h n => absurd h (Mu.not_ch.mp n).2, fun _ h => h, fun a h n => absurd h n, fun a u h n _ => by rw [upd_ne (ne_of_none h hp)]; exact h⟩
section
variable {K : PySem.W.Frag} {mg : Str → Option Value} {mu mu' : Mu} {H H' : Hp} {xs ys : List D}
theorem pairs_at : ∀ {xs ys : List D} {i : Nat} {d : D}, (pairsD xs ys)[i]? = some d → ∃ x y, xs[i]? = some x ∧ ys[i]? = some y ∧ d = .tup [x, y]
  | [], _, i, d, h => by simp [pairsD] at h
  | _ :: _, [], i, d, h => by simp [pairsD] at h
  | x :: xs, y :: ys, 0, d, h => by
    simp [pairsD] at h
    exact ⟨x, y, rfl, rfl, h.symm⟩
  | x :: xs, y :: ys, i + 1, d, h => by
    obtain ⟨u, v, h1, h2, h3⟩ := pairs_at (xs := xs) (ys := ys) (i := i) (d := d) (by simpa [pairsD] using h)
    exact ⟨u, v, by simpa using h1, by simpa using h2, h3⟩
theorem pairs_len (xs ys : List D) : (pairsD xs ys).length = min xs.length ys.length := by simp [pairsD]
theorem walk_pair {st : So} {T : Addr} {v w : V} {x y : D} (S : Sim K mg mu st H) (hT : H T = none) (r1 : Rep K mg mu H v x) (r2 : Rep K mg mu H w y) :
    Ext mu H mu (upd H T (.tup [v, w])) ∧ Rep K mg mu (upd H T (.tup [v, w])) (.ref T) (.tup [x, y]) ∧ ∀ st, Sim K mg mu st H → Sim K mg mu st (upd H T (.tup [v, w])) :=
  ⟨ext_new0 hT, .tup (.inl ⟨upd_same, S.ne hT⟩) (by show 2 ≤ sizeLine; decide) (.cons (r1.mono (ext_new0 hT)) (.cons (r2.mono (ext_new0 hT)) .nil)), fun st S => S.new hT⟩
theorem walk_zipL {a b : Addr} {vs ws : List V} (h1 : LstAt mu H a vs) (h2 : LstAt mu H b ws) (r1 : Reps K mg mu H vs xs) (r2 : Reps K mg mu H ws ys) (z : xs.length ≤ sizeLine) : Walk K mg mu H (Itz K a b) (pairsD xs ys) :=
  ⟨by rw [pairs_len]; omega, fun mu' H' e ⟨st0, S0⟩ => by
    have q1 : SqL K H' a vs := (h1.mono0 e).sq
    have q2 : SqL K H' b ws := (h2.mono0 e).sq
    refine ⟨fun i hi => ⟨vs, ws, q1, q2, ?_⟩, fun i d hd => ?_⟩
    · rw [pairs_len] at hi
      rw [r1.length, r2.length]; omega
    · obtain ⟨x, y, g1, g2, rfl⟩ := pairs_at hd
      obtain ⟨v, v1, v2⟩ := (r1.mono0 e).get g1
      obtain ⟨w, w1, w2⟩ := (r2.mono0 e).get g2
      refine ⟨⟨vs, ws, v, w, q1, q2, v1, w1⟩, fun u H'' yl => ?_⟩
      obtain ⟨T, x', y', rfl, hT, rfl, y1, y2⟩ := yl
      have e1 := y1 vs q1
      rw [v1] at e1; cases e1
      have e2 := y2 ws q2
      rw [w1] at e2; cases e2
      exact walk_pair S0 hT v2 w2⟩
theorem walk_zipT {a b : Addr} {vs ws : List V} (h1 : TupAt K mu H a vs) (h2 : TupAt K mu H b ws) (r1 : Reps K mg mu H vs xs) (r2 : Reps K mg mu H ws ys) (z : xs.length ≤ sizeLine) : Walk K mg mu H (RZ.ItzT K a b) (pairsD xs ys) :=
  ⟨by rw [pairs_len]; omega, fun mu' H' e ⟨st0, S0⟩ => by
    have q1 : SqT K H' a vs := (h1.mono0 e).sq
    have q2 : SqT K H' b ws := (h2.mono0 e).sq
    refine ⟨fun i hi => ⟨vs, ws, q1, q2, ?_⟩, fun i d hd => ?_⟩
    · rw [pairs_len] at hi
      rw [r1.length, r2.length]; omega
    · obtain ⟨x, y, g1, g2, rfl⟩ := pairs_at hd
      obtain ⟨v, v1, v2⟩ := (r1.mono0 e).get g1
      obtain ⟨w, w1, w2⟩ := (r2.mono0 e).get g2
      refine ⟨⟨vs, ws, v, w, q1, q2, v1, w1⟩, fun u H'' yl => ?_⟩
      obtain ⟨T, x', y', rfl, hT, rfl, y1, y2⟩ := yl
      have e1 := y1 vs q1
      rw [v1] at e1; cases e1
      have e2 := y2 ws q2
      rw [w1] at e2; cases e2
      exact walk_pair S0 hT v2 w2⟩
end
section
variable {X : Cx} {G : Gm} {W : WX} {pos : Pos}
/-- any list, tuple, text -/
theorem pi_seqD {tg e : Expr} {a : E} (he : PE X e (tE X.K X.mg W (evE G a))) : PI X tg e (tG X.K X.mg W (relW X.K X.mg) (evW G (.seq a))) := by
  refine ⟨fun pins s σ H R I h => ?_⟩
  obtain ⟨l, st, mu, L, S, h⟩ := h
  rw [evW] at h
  have h2 := Fin.step (rel := relE X.K X.mg) L S h
  refine thn (he.run pins s σ H _ I h2) fun v s1 ⟨x, H1, I1, r1, mu1, d, st1, e1, L1, S1, rd, f⟩ => ?_
  have lst : ∀ (ad : Addr) (vs : List V) (xs : List D), x = .ref ad → SqL X.K H1 ad vs → Walk X.K X.mg mu1 H1 (Itl X.K ad) xs → Fin X.K X.mg W σ (relW X.K X.mg) mu1 H1 (.ok xs st1) R → wpAny (model X.prog X.w) X.A (pyIter v) (PIE X pins σ tg R) X.xe s1 := fun ad vs xs ex hq hw hf => by
    subst ex
    cases r1
    obtain ⟨its, rv, p, hz⟩ := I1.list hq
    exact wpAny_pyIter_list p.isList (pi_one (tk := s1.toks) I1 _ (turn_list ad _) ⟨_, Heap.get?_push_size _ rfl, rfl, rfl⟩ (hf mu1 H1 _ (.refl _ _) S1 hw))
  cases rd with
  | @lst ad vs ds hl z q1 => exact lst ad vs ds rfl hl.sq (walk_lst hl q1 z) f
  | @tup ad vs ds hl z q1 =>
    cases r1
    obtain ⟨its, rv, p, hz⟩ := I1.tuple hl.sq
    exact wpAny_pyIter_tuple (show s1.heap.IsTuple ad its.toArray from p) (pi_one (tk := s1.toks) I1 _ (turn_tuple ad _) ⟨_, Heap.get?_push_size _ rfl, rfl, rfl⟩ (f mu1 H1 _ (.refl _ _) S1 (walk_tup hl q1 z)))
  | @str x g =>
    obtain ⟨t, rfl⟩ := r1
    have q := f mu1 H1 _ (.refl _ _) S1 (walk_str g)
    cases ha : x.cps.all (· < 128)
    · exact wpAny_pyIter_wide ha (pi_one (tk := s1.toks) I1 _ (turn_str _ x t "str_iterator" (.inr rfl)) ⟨_, Heap.get?_push_size _ rfl, rfl, rfl⟩ q)
    · exact wpAny_pyIter_ascii ha (pi_one (tk := s1.toks) I1 _ (turn_str _ x t "str_ascii_iterator" (.inl rfl)) ⟨_, Heap.get?_push_size _ rfl, rfl, rfl⟩ q)
  | _ => exact f.elim
theorem pi_rng1D {tg e : Expr} {p : Pos} {a : E} (hg : Gl X "range") (hm : X.mg "range" = none) (he : PE X e (tE X.K X.mg W (evE G a))) (hs : starEach [e] X.env = [(false, eval e X.env)]) :
    PI X tg (.Call (.Name "range" p) [e] [] pos) (tG X.K X.mg W (relW X.K X.mg) (evW G (.rng1 a))) := by
  refine pi_imp (pi_range1 hg hm (pa_cons he pa_nil hs) hs) fun σ H R h => ?_
  obtain ⟨l, st, mu, L, S, h⟩ := h
  rw [evW] at h
  refine (Fin.step (rel := relE X.K X.mg) L S h).mono fun x H1 ⟨mu1, d, st1, e1, L1, S1, rd, f⟩ => ?_
  cases rd with
  | int i =>
    simp only at f
    split at f
    · rename_i hz
      unfold rngOk at hz
      simp only [Bool.and_eq_true, decide_eq_true_eq] at hz
      exact ⟨i, rfl, hz.1.1.2, hz.1.2, f mu1 H1 _ (.refl _ _) S1 (walk_rng 0 i.toNat (by simpa using hz.2))⟩
    · exact f.elim
  | _ => exact f.elim
theorem pi_rng2D {tg e e' : Expr} {p : Pos} {a b : E} (hg : Gl X "range") (hm : X.mg "range" = none) (he : PE X e (tE X.K X.mg W (evE G a))) (he' : PE X e' (tE X.K X.mg W (evE G b)))
    (hs : starEach [e, e'] X.env = [(false, eval e X.env), (false, eval e' X.env)]) (hs2 : starEach [e'] X.env = [(false, eval e' X.env)]) :
    PI X tg (.Call (.Name "range" p) [e, e'] [] pos) (tG X.K X.mg W (relW X.K X.mg) (evW G (.rng2 a b))) := by
  refine pi_imp (pi_range2 hg hm (pa_cons he (pa_cons he' pa_nil hs2) (by rw [hs, hs2])) hs hs2) fun σ H R h => ?_
  obtain ⟨l, st, mu, L, S, h⟩ := h
  rw [evW] at h
  refine (Fin.step (rel := relE X.K X.mg) L S h).mono fun x H1 ⟨mu1, d, st1, e1, L1, S1, rd, f⟩ => ?_
  refine (Fin.step (rel := relE X.K X.mg) L1 S1 f).mono fun y H2 ⟨mu2, d2, st2, e2, L2, S2, rd2, f2⟩ => ?_
  cases rd with
  | int i =>
    cases rd2 with
    | int j =>
      simp only at f2
      split at f2
      · rename_i hz
        unfold rngOk at hz
        simp only [Bool.and_eq_true, decide_eq_true_eq] at hz
        exact ⟨i, j, rfl, ⟨hz.1.1.1.1, hz.1.1.1.2, hz.1.1.2, hz.1.2⟩, f2 mu2 H2 _ (.refl _ _) S2 (walk_rng i (j - i).toNat hz.2)⟩
      · exact f2.elim
    | _ => exact f2.elim
  | _ => cases rd2 <;> exact f2.elim

theorem pi_zipD {elts : List Expr} {kk : Nat} {tpos : Pos} {e e' : Expr} {p : Pos} {a b : E} (hg : Gl X "zip") (hm : X.mg "zip" = none) (he : PE X e (tE X.K X.mg W (evE G a))) (he' : PE X e' (tE X.K X.mg W (evE G b)))
    (hs : starEach [e, e'] X.env = (false, eval e X.env) :: starEach [e'] X.env) (hs2 : starEach [e'] X.env = [(false, eval e' X.env)]) (hpl : (backTo pos (starEach [e'] X.env)).any (·.1) = false) :
    PI X (.Tuple elts kk tpos) (.Call (.Name "zip" p) [e, e'] [] pos) (tG X.K X.mg W (relW X.K X.mg) (evW G (.zip a b))) := by
  refine pi_imp (RZ.pi_zipA hg hm (pa_cons he (pa_cons he' pa_nil hs2) hs) hs hpl) fun σ H R h => ?_
  obtain ⟨l, st, mu, L, S, h⟩ := h
  rw [evW] at h
  refine (Fin.step (rel := relE X.K X.mg) L S h).mono fun x H1 ⟨mu1, d, st1, e1, L1, S1, rd, f⟩ => ?_
  refine (Fin.step (rel := relE X.K X.mg) L1 S1 f).mono fun y H2 ⟨mu2, d2, st2, e2, L2, S2, rd2, f2⟩ => ?_
  have rd := rd.mono e2
  cases rd with
  | @tup ad vs ds hl z q1 =>
    cases rd2 with
    | @tup ad2 vs2 ds2 hl2 z2 q2 => exact ⟨ad, ad2, vs, vs2, rfl, .inr ⟨hl.sq, hl2.sq, f2 mu2 H2 _ (.refl _ _) S2 (walk_zipT hl hl2 q1 q2 z)⟩⟩
    | _ => exact f2.elim
  | @lst ad vs ds hl z q1 =>
    cases rd2 with
    | @lst ad2 vs2 ds2 hl2 z2 q2 => exact ⟨ad, ad2, vs, vs2, rfl, .inl ⟨hl.sq, hl2.sq, f2 mu2 H2 _ (.refl _ _) S2 (walk_zipL hl hl2 q1 q2 z)⟩⟩
    | _ => exact f2.elim
  | _ => cases rd2 <;> exact f2.elim

/-! ### expressions -/
variable {a b c : Expr} {x y z : E} {o o2 : Bool}
abbrev SE (X : Cx) (G : Gm) (W : WX) (e : Expr) (x : E) : Prop := PE X e (tE X.K X.mg W (evE G x))
abbrev ST (X : Cx) (G : Gm) (W : WX) (e : Expr) (x : E) : Prop := PT X e (tT X.K X.mg W (evB G x))
/-- a test that is its value's truth -/
theorem st_of (h : SE X G W a x) (he : ∀ whole, isTrue a X.env whole = (do let v ← whole; standAt a.pos; holding [v] (truthy v))) : ST X G W a x :=
  pt_imp (pt_truth h he) fun σ H Q ⟨l, st, mu, L, S, h⟩ => (Fin.step (rel := relE X.K X.mg) L S h).mono fun v H1 ⟨mu1, d, st1, e1, L1, S1, rd, f⟩ =>
    let ⟨k, h1, _, q⟩ := tru_rep S1 rd f
    ⟨k, h1, q⟩
theorem tT_of_E {σ : L2.St} {H : Hp} {Q : Bool → Hp → Prop} (h : tT X.K X.mg W (evB G x) σ H Q) : tE X.K X.mg W (evE G x) σ H (fun v H1 => ∃ mu d st l, RepL X.K X.mg mu H1 σ l ∧ Sim X.K X.mg mu st H1 ∧ Rep X.K X.mg mu H1 v d ∧ Fin X.K X.mg W σ relT mu H1 (tru d st) Q) :=
  let ⟨l, st, mu, L, S, h⟩ := h
  (Fin.step (rel := relE X.K X.mg) L S h).mono fun v H1 ⟨mu1, d, st1, e1, L1, S1, rd, f⟩ => ⟨mu1, d, st1, l, L1, S1, rd, f⟩
theorem se_lit {d : D} {v : V} (h : PE X a (tC v)) (hr : ∀ mu H, Rep X.K X.mg mu H v d) (he : ∀ l st, evE G x l st = .ok d st) : SE X G W a x :=
  pe_imp h fun σ H Q ⟨l, st, mu, L, S, h⟩ => by
    rw [he] at h
    exact h mu H v (.refl _ _) S (hr mu H)
theorem se_var {i : Nat} {n : Str} (hN : X.N[i]? = some n) (hv : Vis X.env.scope n) (hd : (n == ("__debug__" : Str)) = false) (hcd : (n == ("__classdict__" : Str)) = false) : SE X G W (.Name n pos) (.var i) :=
  pe_imp (pe_var hN hv hd hcd) fun σ H Q ⟨l, st, mu, L, S, h⟩ => by
    rw [evE] at h
    cases e : l[i]? with
    | none => rw [e] at h; exact h.elim
    | some o =>
      cases o with
      | none => rw [e] at h; exact h.elim
      | some d =>
        rw [e] at h
        obtain ⟨v, h1, h2⟩ := L.at' i d e
        exact ⟨v, h1, h mu H v (.refl _ _) S h2⟩
theorem sa_nil : PA X [] (tA X.K X.mg W (evEs G .nil)) :=
  pa_imp pa_nil fun σ H Q ⟨l, st, mu, L, S, h⟩ => h mu H [] (.refl _ _) S .nil
theorem sa_cons {es : List Expr} {xs : Es} (h1 : SE X G W a x) (h2 : PA X es (tA X.K X.mg W (evEs G xs))) (hs : starEach (a :: es) X.env = (false, eval a X.env) :: starEach es X.env) : PA X (a :: es) (tA X.K X.mg W (evEs G (.cons x xs))) :=
  pa_imp (pa_cons h1 h2 hs) fun σ H Q ⟨l, st, mu, L, S, h⟩ => by
    rw [evEs] at h
    refine (Fin.step (rel := relE X.K X.mg) L S h).mono fun v H1 ⟨mu1, d, st1, e1, L1, S1, rd, f⟩ => ?_
    exact (Fin.step (rel := relA X.K X.mg) L1 S1 f).mono fun vs H2 ⟨mu2, ds, st2, e2, L2, S2, rds, f2⟩ => f2 mu2 H2 _ (.refl _ _) S2 (.cons (rd.mono e2) rds)
theorem se_tup {es : List Expr} {k : Nat} {xs : Es} (h : PA X es (tA X.K X.mg W (evEs G xs))) : SE X G W (.Tuple es k pos) (.tup xs) :=
  pe_imp (pe_tup h) fun σ H Q ⟨l, st, mu, L, S, h⟩ => by
    rw [evE] at h
    refine (Fin.step (rel := relA X.K X.mg) L S h).mono fun vs H1 ⟨mu1, ds, st1, e1, L1, S1, rd, f⟩ => ?_
    split at f
    · rename_i hz
      exact ⟨by rw [rd.length]; exact hz, fun p hp => fin_new S1 hp f (new_tup S1 hp rd hz)⟩
    · exact f.elim
theorem se_lst {es : List Expr} {xs : Es} (h : PA X es (tA X.K X.mg W (evEs G xs))) : SE X G W (.List es pos) (.lst xs) :=
  pe_imp (pe_lst h) fun σ H Q ⟨l, st, mu, L, S, h⟩ => by
    rw [evE] at h
    refine (Fin.step (rel := relA X.K X.mg) L S h).mono fun vs H1 ⟨mu1, ds, st1, e1, L1, S1, rd, f⟩ => ?_
    split at f
    · rename_i hz
      exact ⟨by rw [rd.length]; exact hz, fun p hp => fin_new S1 hp f (new_lst S1 hp rd hz)⟩
    · exact f.elim
theorem se_mls {es : List Expr} {xs : Es} (h : PA X es (tA X.K X.mg W (evEs G xs))) : SE X G W (.List es pos) (.mls xs) :=
  pe_imp (pe_lst h) fun σ H Q ⟨l, st, mu, L, S, h⟩ => by
    rw [evE] at h
    refine (Fin.step (rel := relA X.K X.mg) L S h).mono fun vs H1 ⟨mu1, ds, st1, e1, L1, S1, rd, f⟩ => ?_
    split at f
    · rename_i hz
      refine ⟨by rw [rd.length]; exact hz, fun p hp => f (mu1.add p) _ _ (ext_mut S1 hp) (S1.mut hp hz rd) (.ref ?_)⟩
      unfold Mu.add
      rw [← S1.len, List.getElem?_concat_length]
    · exact f.elim
theorem se_bin {o : BO} (h1 : SE X G W a x) (h2 : SE X G W b y) : SE X G W (.BinOp a o.py b pos) (.bin o x y) :=
  pe_imp (pe_op (opD_ok o) h1 h2) fun σ H Q ⟨l, st, mu, L, S, h⟩ => by
    rw [evE] at h
    refine (Fin.step (rel := relE X.K X.mg) L S h).mono fun v H1 ⟨mu1, d, st1, e1, L1, S1, rd, f⟩ => ?_
    exact (Fin.step (rel := relE X.K X.mg) L1 S1 f).mono fun w H2 ⟨mu2, d2, st2, e2, L2, S2, rd2, f2⟩ => ⟨d, d2, st2, mu2, W, σ, rd.mono e2, rd2, S2, f2⟩
theorem se_neg (h1 : SE X G W a x) : SE X G W (.UnaryOp .USub a pos) (.neg x) :=
  pe_imp (pe_un un_neg h1) fun σ H Q ⟨l, st, mu, L, S, h⟩ => by
    rw [evE] at h
    refine (Fin.step (rel := relE X.K X.mg) L S h).mono fun v H1 ⟨mu1, d, st1, e1, L1, S1, rd, f⟩ => ?_
    cases rd with
    | int i => exact ⟨i, rfl, fin_same S1 f (.int _)⟩
    | _ => exact f.elim
theorem fin_bl {σ : L2.St} {mu : Mu} {H : Hp} {Q : VK} {r : R Bool} (h : Fin X.K X.mg W σ (relE X.K X.mg) mu H (r.bind fun k st => .ok (.bl k) st) Q) : Fin X.K X.mg W σ relT mu H r (fun k H' => Q (.bl k) H') :=
  (Fin.bind (rel := relT) h).mono fun k H1 ⟨mu1, a, st1, e1, S1, r1, _, f1⟩ => by
    cases r1
    exact fin_same S1 f1 (.bl k)
theorem se_cmp {o : CO} (hu : X.A.units + 200 < cLine) (h1 : SE X G W a x) (h2 : SE X G W b y) (hm : behindInMarks o.py b = false) : SE X G W (.Compare a [o.py] [b] pos) (.cmp o x y) :=
  pe_imp (pe_cmpR (cmpB_ok hu o) h1 h2 hm) fun σ H Q ⟨l, st, mu, L, S, h⟩ => by
    rw [evE] at h
    refine (Fin.step (rel := relE X.K X.mg) L S h).mono fun v H1 ⟨mu1, d, st1, e1, L1, S1, rd, f⟩ => ?_
    exact (Fin.step (rel := relE X.K X.mg) L1 S1 f).mono fun w H2 ⟨mu2, d2, st2, e2, L2, S2, rd2, f2⟩ => ⟨d, d2, st2, mu2, W, σ, rd.mono e2, rd2, S2, fin_bl f2⟩
theorem bind_bind {α β γ : Type} (r : R α) (f : α → So → R β) (g : β → So → R γ) : (r.bind f).bind g = r.bind fun a st => (f a st).bind g := by cases r <;> rfl
theorem bl_tru {γ : Type} (r : R Bool) (g : Bool → So → R γ) : ((r.bind fun k st => .ok (D.bl k) st).bind fun d st => (tru d st).bind g) = r.bind g := by cases r <;> rfl
theorem bl_tru' (r : R Bool) : ((r.bind fun k st => .ok (D.bl k) st).bind fun d st => tru d st) = r := by cases r <;> rfl
theorem st_cmp {o : CO} (hu : X.A.units + 200 < cLine) (h1 : SE X G W a x) (h2 : SE X G W b y) (hm : behindInMarks o.py b = false) : ST X G W (.Compare a [o.py] [b] pos) (.cmp o x y) :=
  pt_imp (pt_cmpR (cmpB_ok hu o) h1 h2 hm) fun σ H Q ⟨l, st, mu, L, S, h⟩ => by
    unfold evB at h
    rw [evE, bind_bind] at h
    refine (Fin.step (rel := relE X.K X.mg) L S h).mono fun v H1 ⟨mu1, d, st1, e1, L1, S1, rd, f⟩ => ?_
    rw [bind_bind] at f
    refine (Fin.step (rel := relE X.K X.mg) L1 S1 f).mono fun w H2 ⟨mu2, d2, st2, e2, L2, S2, rd2, f2⟩ => ?_
    rw [bl_tru'] at f2
    exact ⟨d, d2, st2, mu2, W, σ, rd.mono e2, rd2, S2, f2.mono fun k H3 q => ⟨k, rfl, q⟩⟩
theorem lm2 {o o' : CmpOp} {b c : Expr} (h : behindInMarks o' c = false) : lastMarks [o, o'] [b, c] = false := h
theorem se_chn {o o2 : CO} (hu : X.A.units + 200 < cLine) (h1 : SE X G W a x) (h2 : SE X G W b y) (h3 : SE X G W c z) (hm : behindInMarks o2.py c = false) : SE X G W (.Compare a [o.py, o2.py] [b, c] pos) (.chn o o2 x y z) := by
  refine pe_imp (pe_chain (cmpB_ok hu o) (cmpB_ok hu o2) h1 h2 h3 (lm2 hm)) fun σ H Q ⟨l, st, mu, L, S, h⟩ => ?_
  rw [evE] at h
  refine (Fin.step (rel := relE X.K X.mg) L S h).mono fun v H1 ⟨mu1, d, st1, e1, L1, S1, rd, f⟩ => ?_
  refine (Fin.step (rel := relE X.K X.mg) L1 S1 f).mono fun w H2 ⟨mu2, d2, st2, e2, L2, S2, rd2, f2⟩ => ?_
  refine ⟨d, d2, st2, mu2, W, σ, rd.mono e2, rd2, S2, (Fin.bind (rel := relT) f2).mono fun k H3 ⟨mu3, k', st3, e3, S3, r3, _, f3⟩ => ?_⟩
  cases r3
  refine ⟨k, rfl, ?_⟩
  cases k with
  | false => exact fin_same S3 f3 (.bl false)
  | true =>
    refine (Fin.step (rel := relE X.K X.mg) (L2.mono e3) S3 f3).mono fun u H4 ⟨mu4, d4, st4, e4, L4, S4, rd4, f4⟩ => ?_
    exact ⟨d2, d4, st4, mu4, W, σ, rd2.mono (e3.trans e4), rd4, S4, fin_bl f4⟩
theorem st_chn {o o2 : CO} (hu : X.A.units + 200 < cLine) (h1 : SE X G W a x) (h2 : SE X G W b y) (h3 : SE X G W c z) (hm : behindInMarks o2.py c = false) : ST X G W (.Compare a [o.py, o2.py] [b, c] pos) (.chn o o2 x y z) := by
  refine pt_imp (pt_chain (cmpB_ok hu o) (cmpB_ok hu o2) h1 h2 h3 (lm2 hm)) fun σ H Q ⟨l, st, mu, L, S, h⟩ => ?_
  unfold evB at h
  rw [evE, bind_bind] at h
  refine (Fin.step (rel := relE X.K X.mg) L S h).mono fun v H1 ⟨mu1, d, st1, e1, L1, S1, rd, f⟩ => ?_
  rw [bind_bind] at f
  refine (Fin.step (rel := relE X.K X.mg) L1 S1 f).mono fun w H2 ⟨mu2, d2, st2, e2, L2, S2, rd2, f2⟩ => ?_
  rw [bind_bind] at f2
  refine ⟨d, d2, st2, mu2, W, σ, rd.mono e2, rd2, S2, (Fin.bind (rel := relT) f2).mono fun k H3 ⟨mu3, k', st3, e3, S3, r3, _, f3⟩ => ?_⟩
  cases r3
  refine ⟨k, rfl, ?_⟩
  cases k with
  | false => exact ⟨false, rfl, fin_b S3 f3⟩
  | true =>
    have f3 : Fin X.K X.mg W σ relT mu3 H3 (((evE G z l st3).bind fun z st => (cmpB o2 d2 z st).bind fun k st => .ok (.bl k) st).bind fun d st => tru d st) Q := f3
    rw [bind_bind] at f3
    refine (Fin.step (rel := relE X.K X.mg) (L2.mono e3) S3 f3).mono fun u H4 ⟨mu4, d4, st4, e4, L4, S4, rd4, f4⟩ => ?_
    rw [bl_tru'] at f4
    exact ⟨d2, d4, st4, mu4, W, σ, rd2.mono (e3.trans e4), rd4, S4, f4.mono fun k H3 q => ⟨k, rfl, q⟩⟩

/-! ### and, or, not, if -/
theorem tru_st {d : D} {st st' : So} {k : Bool} (h : tru d st = .ok k st') : st' = st := by
  cases d <;> simp only [tru] at h <;> first
    | (cases h <;> rfl)
    | (split at h <;> cases h <;> rfl)
theorem tru_noexc {d : D} {st st' : So} {c : Str} {p : D} : tru d st ≠ .exc c p st' := fun h => by
  cases d <;> simp only [tru] at h <;> first
    | cases h
    | (split at h <;> cases h)
theorem evB_and (l : Lo) (st : So) : evB G (.and x y) l st = (evB G x l st).bind fun k st => if k then evB G y l st else .ok false st := by
  unfold evB
  rw [evE]
  cases evE G x l st with
  | ok d st1 =>
    show ((tru d st1).bind fun k st => if k then evE G y l st else .ok d st).bind (fun d st => tru d st) = (tru d st1).bind _
    cases e : tru d st1 with
    | ok k st2 =>
      have e2 := tru_st e
      subst e2
      cases k with
      | true => rfl
      | false => exact e
    | exc c p st2 => rfl
    | bad => rfl
  | exc c p st1 => rfl
  | bad => rfl
theorem evB_or (l : Lo) (st : So) : evB G (.or x y) l st = (evB G x l st).bind fun k st => if k then .ok true st else evB G y l st := by
  unfold evB
  rw [evE]
  cases evE G x l st with
  | ok d st1 =>
    show ((tru d st1).bind fun k st => if k then .ok d st else evE G y l st).bind (fun d st => tru d st) = (tru d st1).bind _
    cases e : tru d st1 with
    | ok k st2 =>
      have e2 := tru_st e
      subst e2
      cases k with
      | true => exact e
      | false => rfl
    | exc c p st2 => rfl
    | bad => rfl
  | exc c p st1 => rfl
  | bad => rfl
theorem evB_not (l : Lo) (st : So) : evB G (.not x) l st = (evB G x l st).bind fun k st => .ok (!k) st := by
  unfold evB
  rw [evE]
  cases evE G x l st with
  | ok d st1 =>
    show ((tru d st1).bind fun k st => .ok (.bl (!k)) st).bind (fun d st => tru d st) = (tru d st1).bind _
    cases e : tru d st1 <;> rfl
  | exc c p st1 => rfl
  | bad => rfl
theorem evB_ite (l : Lo) (st : So) : evB G (.ite x y z) l st = (evB G x l st).bind fun k st => if k then evB G y l st else evB G z l st := by
  unfold evB
  rw [evE]
  cases evE G x l st with
  | ok d st1 =>
    show ((tru d st1).bind fun k st => if k then evE G y l st else evE G z l st).bind (fun d st => tru d st) = (tru d st1).bind _
    cases e : tru d st1 with
    | ok k st2 => cases k <;> rfl
    | exc c p st2 => rfl
    | bad => rfl
  | exc c p st1 => rfl
  | bad => rfl
theorem tG_step {m : Lo → So → R Bool} {f : Lo → Bool → So → R Bool} {σ : L2.St} {H : Hp} {Q : Bool → Hp → Prop} (h : tT X.K X.mg W (fun l st => (m l st).bind (f l)) σ H Q) :
    tT X.K X.mg W m σ H (fun k H1 => ∃ l mu st1, RepL X.K X.mg mu H1 σ l ∧ Sim X.K X.mg mu st1 H1 ∧ Fin X.K X.mg W σ relT mu H1 (f l k st1) Q) :=
  let ⟨l, st, mu, L, S, h⟩ := h
  (Fin.step (rel := relT) L S h).mono fun k H1 ⟨mu1, a, st1, e, L1, S1, r1, f1⟩ => by
    cases r1
    exact ⟨l, mu1, st1, L1, S1, f1⟩
abbrev SW (X : Cx) (G : Gm) (W : WX) (e : Expr) (x : E) : Prop := PW X e (tT X.K X.mg W (evB G x))
theorem tAnd_of {σ : L2.St} {H : Hp} {Q : Bool → Hp → Prop} (h : tT X.K X.mg W (evB G (.and x y)) σ H Q) : tAnd (tT X.K X.mg W (evB G x)) (tT X.K X.mg W (evB G y)) σ H Q := by
  have h' : tT X.K X.mg W (fun l st => (evB G x l st).bind fun k st => if k then evB G y l st else .ok false st) σ H Q := by
    obtain ⟨l, st, mu, L, S, h⟩ := h
    exact ⟨l, st, mu, L, S, by rw [evB_and] at h; exact h⟩
  refine (tG_step (f := fun l k st => if k then evB G y l st else .ok false st) h').mono fun k H1 ⟨l, mu, st1, L1, S1, f⟩ => ?_
  cases k with
  | true => exact ⟨l, st1, mu, L1, S1, f⟩
  | false => exact fin_b S1 f
theorem tOr_of {σ : L2.St} {H : Hp} {Q : Bool → Hp → Prop} (h : tT X.K X.mg W (evB G (.or x y)) σ H Q) : tOr (tT X.K X.mg W (evB G x)) (tT X.K X.mg W (evB G y)) σ H Q := by
  have h' : tT X.K X.mg W (fun l st => (evB G x l st).bind fun k st => if k then .ok true st else evB G y l st) σ H Q := by
    obtain ⟨l, st, mu, L, S, h⟩ := h
    exact ⟨l, st, mu, L, S, by rw [evB_or] at h; exact h⟩
  refine (tG_step (f := fun l k st => if k then .ok true st else evB G y l st) h').mono fun k H1 ⟨l, mu, st1, L1, S1, f⟩ => ?_
  cases k with
  | true => exact fin_b S1 f
  | false => exact ⟨l, st1, mu, L1, S1, f⟩
theorem sw_and {rest : List Expr} (h1 : ST X G W a x) (h2 : SW X G W (.BoolOp .And (b :: rest) pos) y) : SW X G W (.BoolOp .And (a :: b :: rest) pos) (.and x y) := pw_imp (pw_and h1 h2) fun _ _ _ h => tAnd_of h
theorem sw_or {rest : List Expr} (h1 : ST X G W a x) (h2 : SW X G W (.BoolOp .Or (b :: rest) pos) y) : SW X G W (.BoolOp .Or (a :: b :: rest) pos) (.or x y) := pw_imp (pw_or h1 h2) fun _ _ _ h => tOr_of h
theorem se_and {rest : List Expr} (h1 : SE X G W a x) (h2 : SE X G W (.BoolOp .And (b :: rest) pos) y) : SE X G W (.BoolOp .And (a :: b :: rest) pos) (.and x y) :=
  pe_imp (pe_andT h1 h2) fun σ H Q ⟨l, st, mu, L, S, h⟩ => by
    rw [evE] at h
    refine (Fin.step (rel := relE X.K X.mg) L S h).mono fun v H1 ⟨mu1, d, st1, e1, L1, S1, rd, f⟩ => ?_
    obtain ⟨k, hk, ek, mu2, k', st2, e2, S2, r2, ok2, f2⟩ := tru_rep S1 rd (Fin.bind (rel := relT) f)
    cases r2
    refine ⟨k, hk, ?_⟩
    cases k with
    | true => exact ⟨l, st2, mu2, L1.mono e2, S2, f2⟩
    | false => exact f2 mu2 H1 v (.refl _ _) S2 (rd.mono e2)
theorem se_or {rest : List Expr} (h1 : SE X G W a x) (h2 : SE X G W (.BoolOp .Or (b :: rest) pos) y) : SE X G W (.BoolOp .Or (a :: b :: rest) pos) (.or x y) :=
  pe_imp (pe_orT h1 h2) fun σ H Q ⟨l, st, mu, L, S, h⟩ => by
    rw [evE] at h
    refine (Fin.step (rel := relE X.K X.mg) L S h).mono fun v H1 ⟨mu1, d, st1, e1, L1, S1, rd, f⟩ => ?_
    obtain ⟨k, hk, ek, mu2, k', st2, e2, S2, r2, ok2, f2⟩ := tru_rep S1 rd (Fin.bind (rel := relT) f)
    cases r2
    refine ⟨k, hk, ?_⟩
    cases k with
    | true => exact f2 mu2 H1 v (.refl _ _) S2 (rd.mono e2)
    | false => exact ⟨l, st2, mu2, L1.mono e2, S2, f2⟩
theorem se_not (h1 : SE X G W a x) : SE X G W (.UnaryOp .Not a pos) (.not x) :=
  pe_imp (pe_notT h1) fun σ H Q ⟨l, st, mu, L, S, h⟩ => by
    rw [evE] at h
    refine (Fin.step (rel := relE X.K X.mg) L S h).mono fun v H1 ⟨mu1, d, st1, e1, L1, S1, rd, f⟩ => ?_
    obtain ⟨k, hk, ek, mu2, k', st2, e2, S2, r2, ok2, f2⟩ := tru_rep S1 rd (Fin.bind (rel := relT) f)
    cases r2
    exact ⟨k, hk, fin_same S2 f2 (.bl _)⟩
theorem st_not (h1 : ST X G W a x) : ST X G W (.UnaryOp .Not a pos) (.not x) :=
  pt_imp (pt_not h1) fun σ H Q h => by
    have h' : tT X.K X.mg W (fun l st => (evB G x l st).bind fun k st => .ok (!k) st) σ H Q := by
      obtain ⟨l, st, mu, L, S, h⟩ := h
      exact ⟨l, st, mu, L, S, by rw [evB_not] at h; exact h⟩
    exact (tG_step (f := fun l k st => .ok (!k) st) h').mono fun k H1 ⟨l, mu, st1, L1, S1, f⟩ => fin_b S1 f
theorem se_ite (h1 : ST X G W a x) (h2 : SE X G W b y) (h3 : SE X G W c z) : SE X G W (.IfExp a b c pos) (.ite x y z) :=
  pe_imp (pe_ifExp h1 h2 h3) fun σ H Q ⟨l, st, mu, L, S, h⟩ => by
    have h' : Fin X.K X.mg W σ (relE X.K X.mg) mu H ((evB G x l st).bind fun k st => if k then evE G y l st else evE G z l st) Q := by
      rw [evE, ← bind_bind] at h
      exact h
    refine (Fin.step (rel := relT) L S h').mono fun k H1 ⟨mu1, k', st1, e1, L1, S1, r1, f⟩ => ?_
    cases r1
    cases k with
    | true => exact ⟨l, st1, mu1, L1, S1, f⟩
    | false => exact ⟨l, st1, mu1, L1, S1, f⟩
theorem pt_ifExp {tA t2 t3 : TT} (hc : PT X a tA) (hb : PT X b t2) (hd : PT X c t3) : PT X (.IfExp a b c pos) (fun σ H Q => tA σ H fun k H1 => if k = true then t2 σ H1 Q else t3 σ H1 Q) := by
  refine ⟨fun pins s σ H Q I h => ?_⟩
  show wpAny _ _ (do if ← isTrue a X.env (eval a X.env) then isTrue b X.env (eval b X.env) else isTrue c X.env (eval c X.env)) _ _ _
  refine wpAny_bind (thn (hc.run pins s σ H _ I h) fun k s1 ⟨H1, I1, q1⟩ => ?_)
  cases k with
  | true => exact hb.run pins s1 σ H1 Q I1 q1
  | false => exact hd.run pins s1 σ H1 Q I1 q1
theorem st_ite (h1 : ST X G W a x) (h2 : ST X G W b y) (h3 : ST X G W c z) : ST X G W (.IfExp a b c pos) (.ite x y z) :=
  pt_imp (pt_ifExp h1 h2 h3) fun σ H Q h => by
    have h' : tT X.K X.mg W (fun l st => (evB G x l st).bind fun k st => if k then evB G y l st else evB G z l st) σ H Q := by
      obtain ⟨l, st, mu, L, S, h⟩ := h
      exact ⟨l, st, mu, L, S, by rw [evB_ite] at h; exact h⟩
    refine (tG_step (f := fun l k st => if k then evB G y l st else evB G z l st) h').mono fun k H1 ⟨l, mu, st1, L1, S1, f⟩ => ?_
    cases k with
    | true => exact ⟨l, st1, mu, L1, S1, f⟩
    | false => exact ⟨l, st1, mu, L1, S1, f⟩

/-! ### subscripts, slices, built-ins -/
theorem se_ix (hu : X.A.units + 200 < cLine) (h1 : SE X G W a x) (h2 : SE X G W b y) (hp : PlainIx b) : SE X G W (.Subscript a b pos) (.ix x y) :=
  pe_imp (pe_ix (ixD_ok hu) h1 h2 hp) fun σ H Q ⟨l, st, mu, L, S, h⟩ => by
    rw [evE] at h
    refine (Fin.step (rel := relE X.K X.mg) L S h).mono fun v H1 ⟨mu1, d, st1, e1, L1, S1, rd, f⟩ => ?_
    exact (Fin.step (rel := relE X.K X.mg) L1 S1 f).mono fun w H2 ⟨mu2, d2, st2, e2, L2, S2, rd2, f2⟩ => ⟨d, d2, st2, mu2, W, σ, rd.mono e2, rd2, S2, f2⟩
theorem so_none : PO X none (tO X.K X.mg W (evO G .none)) :=
  po_imp po_none fun σ H Q ⟨l, st, mu, L, S, h⟩ => h mu H none (.refl _ _) S rfl
theorem so_some (h1 : SE X G W a x) : PO X (some a) (tO X.K X.mg W (evO G (.some x))) :=
  po_imp (po_some h1) fun σ H Q ⟨l, st, mu, L, S, h⟩ => by
    rw [evO] at h
    refine (Fin.step (rel := relE X.K X.mg) L S h).mono fun v H1 ⟨mu1, d, st1, e1, L1, S1, rd, f⟩ => ?_
    cases rd with
    | int i => exact ⟨i, rfl, f mu1 H1 _ (.refl _ _) S1 rfl⟩
    | _ => exact f.elim
theorem se_sl {lo hi : Option Expr} {u w : Oe} {p2 : Pos} (h1 : SE X G W a x) (h2 : PO X lo (tO X.K X.mg W (evO G u))) (h3 : PO X hi (tO X.K X.mg W (evO G w))) : SE X G W (.Subscript a (.Slice lo hi none p2) pos) (.sl x u w) :=
  pe_imp (pe_slice slD_ok h1 h2 h3) fun σ H Q ⟨l, st, mu, L, S, h⟩ => by
    rw [evE] at h
    refine (Fin.step (rel := relE X.K X.mg) L S h).mono fun v H1 ⟨mu1, d, st1, e1, L1, S1, rd, f⟩ => ?_
    refine (Fin.step (rel := relO) L1 S1 f).mono fun o1 H2 ⟨mu2, o1', st2, e2, L2, S2, r2, f2⟩ => ?_
    refine (Fin.step (rel := relO) L2 S2 f2).mono fun o2 H3 ⟨mu3, o2', st3, e3, L3, S3, r3, f3⟩ => ?_
    cases r2
    cases r3
    exact ⟨d, st3, mu3, W, σ, rd.mono (e2.trans e3), S3, f3⟩
theorem se_bi {f : B} {p : Pos} {es : List Expr} {xs : Es} (hc : X.calm = true) (hu : X.A.units + 200 < cLine) (hg : Gl X f.nm) (hm : X.mg f.nm = none) (h : PA X (a :: es) (tA X.K X.mg W (evEs G xs)))
    (he : starEach (a :: es) X.env = (false, eval a X.env) :: starEach es X.env) (hpl : (backTo pos (starEach es X.env)).any (·.1) = false) : SE X G W (.Call (.Name f.nm p) (a :: es) [] pos) (.bi f xs) := by
  have q : ∀ σ H Q, tE X.K X.mg W (evE G (.bi f xs)) σ H Q → tCB (ra X.K X.mg (biD f)) (tA X.K X.mg W (evEs G xs)) σ H Q := fun σ H Q ⟨l, st, mu, L, S, h⟩ => by
    rw [evE] at h
    exact (Fin.step (rel := relA X.K X.mg) L S h).mono fun vs H1 ⟨mu1, ds, st1, e1, L1, S1, rd, f⟩ => ⟨ds, st1, mu1, W, σ, rd, S1, f⟩
  cases f with
  | len => exact pe_imp (pe_callB (biD_ok hc hu .len) hg hm PySem.boot_len h (by decide) (by decide) he hpl) q
  | abs => exact pe_imp (pe_callB (biD_ok hc hu .abs) hg hm (by decide +kernel) h (by decide) (by decide) he hpl) q
  | int => exact pe_imp (pe_callTy (biD_ok hc hu .int) hg hm (by decide +kernel) h (by decide) (by decide) he hpl) q
  | list => exact pe_imp (pe_callTy (biD_ok hc hu .list) hg hm (by decide +kernel) h (by decide) (by decide) he hpl) q
  | tuple => exact pe_imp (pe_callTy (biD_ok hc hu .tuple) hg hm (by decide +kernel) h (by decide) (by decide) he hpl) q
  | all => exact pe_imp (pe_callB (biD_ok hc hu .all) hg hm (by decide +kernel) h (by decide) (by decide) he hpl) q
  | any => exact pe_imp (pe_callB (biD_ok hc hu .any) hg hm (by decide +kernel) h (by decide) (by decide) he hpl) q
  | sorted => exact pe_imp (pe_callB (biD_ok hc hu .sorted) hg hm (by decide +kernel) h (by decide) (by decide) he hpl) q
  | min => exact pe_imp (pe_callB (biD_ok hc hu .min) hg hm (by decide +kernel) h (by decide) (by decide) he hpl) q
  | max => exact pe_imp (pe_callB (biD_ok hc hu .max) hg hm (by decide +kernel) h (by decide) (by decide) he hpl) q
  | ord => exact pe_imp (pe_callB (biD_ok hc hu .ord) hg hm (by decide +kernel) h (by decide) (by decide) he hpl) q
theorem se_isi {t : String} {p p2 : Pos} (hg : Gl X "isinstance") (hm : X.mg "isinstance" = none) (hg2 : Gl X (t : Str)) (hm2 : X.mg (t : Str) = none) (hv2 : bootBuiltins (t : Str) = some (.type t)) (hn : (t : Str) ≠ "__name__") (hd : ((t : Str) == ("__debug__" : Str)) = false)
    (h : SE X G W a x) (he : starEach [a, .Name (t : Str) p2] X.env = (false, eval a X.env) :: starEach [.Name (t : Str) p2] X.env) : SE X G W (.Call (.Name "isinstance" p) [a, .Name (t : Str) p2] [] pos) (.isi x t) := by
  refine pe_imp (pe_callB (id := "isinstance") call_isi hg hm (by decide +kernel) (pa_cons h (pa_cons (pe_bltn (v := .ty t) hg2 hm2 hv2 rfl hn hd) pa_nil) he) (by decide) (by decide) he rfl) fun σ H Q ⟨l, st, mu, L, S, h⟩ => ?_
  rw [evE] at h
  refine (Fin.step (rel := relE X.K X.mg) L S h).mono fun v H1 ⟨mu1, d, st1, e1, L1, S1, rd, f⟩ => ?_
  cases e : isiD d t with
  | none => rw [e] at f; exact f.elim
  | some k =>
    rw [e] at f
    obtain ⟨ty, h1, h2⟩ := isi_ok S1 rd e
    exact ⟨v, .ty t, ty, .type t, k, rfl, .ty t, h1, h2, fin_same S1 f (.bl k)⟩

/-! ### calls of defs -/
/-- what a def keeps: it computes m -/
def spF (K : PySem.W.Frag) (mg : Str → Option Value) (m : List D → So → R D) : Sp := fun vs H Q E =>
  ∃ ds st mu, Reps K mg mu H vs ds ∧ Sim K mg mu st H ∧ Fin K mg (fun cls d _ H => E cls d H) [] (relE K mg) mu H (m ds st) Q
structure Callee (X : Cx) (m : List D → So → R D) (x : Str) : Prop where
  ex : ∃ (fa : Addr) (fd : FuncData) (ps : List Str) (k : Nat), X.mg x = some (.ref fa) ∧ PySem.W.keepIn X.K (.ref fa) = true ∧ Binds X.K fd ps [] ∧ Room k X.A ∧
    FnOk X.prog X.w X.K X.mg X.base (L2.CX X.prog X.w) k fa fd ps (spF X.K X.mg m)
theorem pe_callS0 {k : Nat} {f : Addr} {fd : FuncData} {ps : List Str} {sp : Sp} {n : Str} {p : Pos} {Ex : L2.St → XK} (F : FnOk X.prog X.w X.K X.mg X.base (L2.CX X.prog X.w) k f fd ps sp) (hr : Room k X.A) (hg : Gl X n) (hm : X.mg n = some (.ref f)) (hk : PySem.W.keepIn X.K (.ref f) = true) (hb : Binds X.K fd ps [])
    (hx : ∀ σ, PassesAt (L2.CX X.prog X.w) X σ (Ex σ)) (hdb : (n == ("__debug__" : Str)) = false) : PE X (.Call (.Name n p) [] [] pos) (tCallS sp Ex tNil) := by
  refine ⟨fun pins s σ H Q I h => ?_⟩
  refine wpAny_Call_Name_kw (ld_glob I hg hm ?_ hdb)
  exact PySem.W.callWith_K0 I.kIn hk (run_fnS (us := []) F hr hb (hx σ) I .nil h)
theorem se_cal {f g : Str} {p : Pos} {es : List Expr} {xs : Es} (hC : Callee X (G.cal f) g) (tk : Takes X W) (hg : Gl X g) (hdb : (g == ("__debug__" : Str)) = false) (h : PA X (a :: es) (tA X.K X.mg W (evEs G xs)))
    (he : starEach (a :: es) X.env = (false, eval a X.env) :: starEach es X.env) (hpl : (backTo pos (starEach es X.env)).any (·.1) = false) : SE X G W (.Call (.Name g p) (a :: es) [] pos) (.cal f xs) := by
  obtain ⟨fa, fd, ps, k, hm, hk, hb, hr, F⟩ := hC.ex
  refine pe_imp (pe_callS (E := WE W) F hr hg hm hk hb (fun σ => passAt tk σ) h hdb he hpl) fun σ H Q ⟨l, st, mu, L, S, h⟩ => ?_
  rw [evE] at h
  exact (Fin.step (rel := relA X.K X.mg) L S h).mono fun vs H1 ⟨mu1, ds, st1, e1, L1, S1, rd, f⟩ => ⟨ds, st1, mu1, rd, S1, f.wish fun _ _ h => h⟩
theorem se_cal0 {f g : Str} {p : Pos} (hC : Callee X (G.cal f) g) (tk : Takes X W) (hg : Gl X g) (hdb : (g == ("__debug__" : Str)) = false) : SE X G W (.Call (.Name g p) [] [] pos) (.cal f .nil) := by
  obtain ⟨fa, fd, ps, k, hm, hk, hb, hr, F⟩ := hC.ex
  refine pe_imp (pe_callS0 (Ex := WE W) F hr hg hm hk hb (fun σ => passAt tk σ) hdb) fun σ H Q ⟨l, st, mu, L, S, h⟩ => ?_
  rw [evE, evEs] at h
  have f : Fin X.K X.mg W σ (relE X.K X.mg) mu H (G.cal f [] st) Q := h
  exact ⟨[], st, mu, .nil, S, f.wish fun _ _ h => h⟩
end
end CP

set_option Elab.async false
set_option linter.all false
set_option maxRecDepth 100000
set_option autoImplicit false
/-! CpNew: dict(list(x)).get(w, z); xs = a + b of a list that changes; enumerate. -/
namespace CP
open PySem PySem.Spec PyProof.Rows L2
section
variable {K : PySem.W.Frag} {mg : Str → Option Value} {mu : Mu} {H : Hp}
theorem pairs_rep : ∀ {xs : List D} {vs : List V} {ks : List Key} {ds : List D}, Reps K mg mu H vs xs → pairsK xs = some (ks, ds) →
    ∃ (ps : List Addr) (ws : List V), vs = ps.map V.ref ∧ Paired (fun p (kv : Key × V) => SqT K H p [kV kv.1, kv.2]) ps (ks.zip ws) ∧ Reps K mg mu H ws ds ∧ ks.length = ds.length
  | [], _, _, _, .nil, h => by
    simp only [pairsK, Option.some.injEq, Prod.mk.injEq] at h
    obtain ⟨rfl, rfl⟩ := h
    exact ⟨[], [], rfl, .nil, .nil, rfl⟩
  | x :: xs, _, ks, ds, .cons r rs, h => by
    unfold pairsK at h
    split at h
    · rename_i e1; cases e1
    · rename_i k d xs' e1
      cases e1
      cases ek : keyD k with
      | none => rw [ek] at h; cases h
      | some key =>
        cases ep : pairsK xs with
        | none => rw [ek, ep] at h; cases h
        | some q =>
          obtain ⟨ks', ds'⟩ := q
          rw [ek, ep] at h
          simp only [Option.some.injEq, Prod.mk.injEq] at h
          obtain ⟨rfl, rfl⟩ := h
          obtain ⟨ps, ws, rfl, h2, h3, h4⟩ := pairs_rep rs ep
          cases r with
          | tup ha z q =>
            cases q with
            | cons q1 q =>
              cases q with
              | cons q2 q =>
                cases q
                have e := key_rep q1 ek
                subst e
                exact ⟨_ :: ps, _ :: ws, rfl, .cons ha.sq h2, .cons q2 h3, by simp [h4]⟩
    · cases h
theorem merge_val : ∀ (kvs acc : List (Key × V)) (k : Key), (∀ v, valV (mergeK [] kvs) k = some v → valV (mergeK acc kvs) k = some v) ∧ (valV (mergeK [] kvs) k = none → valV (mergeK acc kvs) k = valV acc k) := by
  intro kvs
  have key : ∀ (kvs acc acc' : List (Key × V)) (k : Key), valV acc' k = none → (∀ v, valV (mergeK acc' kvs) k = some v → valV (mergeK acc kvs) k = some v) ∧ (valV (mergeK acc' kvs) k = none → valV (mergeK acc kvs) k = valV acc k) := by
    intro kvs
    induction kvs with
    | nil =>
      intro acc acc' k h
      refine ⟨fun v hv => ?_, fun _ => rfl⟩
      have hv : valV acc' k = some v := hv
      rw [h] at hv; cases hv
    | cons p r ih =>
      intro acc acc' k h
      show (∀ v, valV (mergeK (putK acc' p.1 p.2) r) k = some v → valV (mergeK (putK acc p.1 p.2) r) k = some v) ∧ (valV (mergeK (putK acc' p.1 p.2) r) k = none → valV (mergeK (putK acc p.1 p.2) r) k = valV acc k)
      by_cases e : k = p.1
      · have same : ∀ (r a a' : List (Key × V)) , valV a k = valV a' k → valV (mergeK a r) k = valV (mergeK a' r) k := by
          intro r
          induction r with
          | nil => intro a a' q; exact q
          | cons p' r' ih' =>
            intro a a' q
            refine ih' (putK a p'.1 p'.2) (putK a' p'.1 p'.2) ?_
            rw [valV_put, valV_put, q]
        have s := same r (putK acc p.1 p.2) (putK acc' p.1 p.2) (by rw [valV_put, valV_put, if_pos e, if_pos e])
        refine ⟨fun v hv => by rw [s]; exact hv, fun hn => ?_⟩
        exfalso
        have some' : ∀ (r a : List (Key × V)), (valV a k).isSome = true → (valV (mergeK a r) k).isSome = true := by
          intro r
          induction r with
          | nil => intro a q; exact q
          | cons p' r' ih' =>
            intro a q
            refine ih' (putK a p'.1 p'.2) ?_
            rw [valV_put]
            split
            · rfl
            · exact q
        have := some' r (putK acc' p.1 p.2) (by rw [valV_put, if_pos e]; rfl)
        rw [hn] at this; cases this
      · obtain ⟨h1, h2⟩ := ih (putK acc p.1 p.2) (putK acc' p.1 p.2) k (by rw [valV_put, if_neg e]; exact h)
        refine ⟨h1, fun hn => ?_⟩
        rw [h2 hn, valV_put, if_neg e]
  exact fun acc k => key kvs acc [] k rfl
theorem dlast_rep : ∀ {ks : List Key} {ds : List D} {ws : List V} {k : Key}, Reps K mg mu H ws ds → ks.length = ds.length →
    (∀ d, dlastD ks ds k = some d → ∃ w, valV (mergeK [] (ks.zip ws)) k = some w ∧ Rep K mg mu H w d) ∧ (dlastD ks ds k = none → valV (mergeK [] (ks.zip ws)) k = none)
  | [], [], _, _, .nil, _ => ⟨fun d h => by simp [dlastD] at h, fun _ => rfl⟩
  | k' :: ks, d' :: ds, _, k, .cons (v := u) (vs := us) r rs, hl => by
    obtain ⟨i1, i2⟩ := dlast_rep (k := k) rs (by simpa using hl)
    have m := merge_val (ks.zip us) (putK [] k' u) k
    have e0 : mergeK [] ((k' :: ks).zip (u :: us)) = mergeK (putK [] k' u) (ks.zip us) := rfl
    rw [e0]
    unfold dlastD
    cases e : dlastD ks ds k with
    | some d =>
      obtain ⟨w, w1, w2⟩ := i1 d e
      exact ⟨fun d2 h => by cases h; exact ⟨w, m.1 w w1, w2⟩, fun h => by cases h⟩
    | none =>
      have q := m.2 (i2 e)
      rw [q, valV_put]
      by_cases ek : k' = k
      · rw [if_pos ek, if_pos ek.symm]
        refine ⟨fun d2 h => ?_, fun h => ?_⟩
        · cases h; exact ⟨u, rfl, r⟩
        · cases h
      · rw [if_neg ek, if_neg (Ne.symm ek)]
        refine ⟨fun d2 h => ?_, fun _ => rfl⟩
        cases h
end
section
variable {X : Cx} {G : Gm} {W : WX} {pos : Pos} {a b c : Expr} {x y z : E}
theorem paired_imp {α β : Type} {F F' : α → β → Prop} : ∀ {as : List α} {bs : List β}, Paired F as bs → (∀ a b, F a b → F' a b) → Paired F' as bs
  | _, _, .nil, _ => .nil
  | _, _, .cons r t, h => .cons (h _ _ r) (paired_imp t h)
theorem se_dgt {e f : Expr} {p1 p2 q1 q2 apos cpos : Pos} (hc : X.calm = true) (hu : X.A.units + 200 < cLine) (gD : Gl X "dict") (mD : X.mg "dict" = none) (gL : Gl X "list") (mL : X.mg "list" = none)
    (ha : SE X G W a x) (he : SE X G W e y) (hf : SE X G W f z) (sa : starEach [a] X.env = [(false, eval a X.env)]) (sl : starEach [.Call (.Name "list" p2) [a] [] q2] X.env = [(false, eval (.Call (.Name "list" p2) [a] [] q2) X.env)])
    (m : M2 X (.Call (.Name "dict" p1) [.Call (.Name "list" p2) [a] [] q2] [] q1) "get" apos e f cpos) :
    SE X G W (.Call (.Attribute (.Call (.Name "dict" p1) [.Call (.Name "list" p2) [a] [] q2] [] q1) "get" apos) [e, f] [] cpos) (.dgt x y z) := by
  have hL : PE X (.Call (.Name "list" p2) [a] [] q2) _ := pe_callTy call_list_of gL mL (by decide +kernel) (pa_cons ha pa_nil sa) (by decide) (by decide) sa rfl
  have hD : PE X (.Call (.Name "dict" p1) [.Call (.Name "list" p2) [a] [] q2] [] q1) _ := pe_callTy (call_dictP hc) gD mD (by decide +kernel) (pa_cons hL pa_nil sl) (by decide) (by decide) sl rfl
  refine pe_imp (pe_dget2 (by omega) hD he hf m) fun σ H Q ⟨l, st, mu, L, S, h⟩ => ?_
  rw [evE] at h
  refine (Fin.step (rel := relE X.K X.mg) L S h).mono fun v H1 ⟨mu1, d, st1, e1, L1, S1, rd, g⟩ => ?_
  cases ep : (pseq d).bind pairsK with
  | none => rw [ep] at g; exact g.elim
  | some q =>
    obtain ⟨ks, ds⟩ := q
    rw [ep] at g
    simp only at g
    have seq : ∃ (ad : Addr) (vs : List V) (xs : List D), v = .ref ad ∧ (SqL X.K H1 ad vs ∨ SqT X.K H1 ad vs) ∧ Reps X.K X.mg mu1 H1 vs xs ∧ pairsK xs = some (ks, ds) ∧ xs.length ≤ sizeLine := by
      cases rd with
      | tup hl zz q1 => exact ⟨_, _, _, rfl, .inr hl.sq, q1, ep, zz⟩
      | lst hl zz q1 => exact ⟨_, _, _, rfl, .inl hl.sq, q1, ep, zz⟩
      | _ => cases ep
    obtain ⟨ad, vs, xs, rfl, hq, rs, epx, zx⟩ := seq
    refine ⟨ad, vs, rfl, hq, fun p hp => ?_⟩
    have E2 : Ext mu1 H1 mu1 (upd H1 p (.lst vs)) := ext_new S1 hp
    have S2 := S1.new (o := .lst vs) hp
    obtain ⟨ps, ws, rfl, w2, w3, w4⟩ := pairs_rep (rs.mono E2) epx
    refine ⟨p, ps, ks.zip ws, rfl, .of upd_same, w2, fun p2 hp2 => ?_⟩
    have E3 : Ext mu1 (upd H1 p (.lst (ps.map V.ref))) mu1 (upd (upd H1 p (.lst (ps.map V.ref))) p2 (.dK (mergeK [] (ks.zip ws)))) := ext_new S2 hp2
    have S3 := S2.new (o := .dK (mergeK [] (ks.zip ws))) hp2
    have w3 := w3.mono E3
    have hd3 : (upd (upd H1 p (.lst (ps.map V.ref))) p2 (.dK (mergeK [] (ks.zip ws)))) p2 = some (.dK (mergeK [] (ks.zip ws))) := upd_same
    have L3 := (L1.mono E2).mono E3
    have nch := S2.nel hp2
    generalize upd (upd H1 p (.lst (ps.map V.ref))) p2 (.dK (mergeK [] (ks.zip ws))) = H3 at w3 hd3 L3 S3 E3
    refine ⟨p2, rfl, .inl ⟨_, .inl hd3⟩, ?_⟩
    refine (Fin.step (rel := relE X.K X.mg) L3 S3 (g.ext (E2.trans E3))).mono fun w H4 ⟨mu4, d4, st4, e4, L4, S4, rd4, g4⟩ => ?_
    refine (Fin.step (rel := relE X.K X.mg) L4 S4 g4).mono fun w5 H5 ⟨mu5, d5, st5, e5, L5, S5, rd5, g5⟩ => ?_
    have E5 : Ext mu1 H3 mu5 H5 := e4.trans e5
    have hd5 : H5 p2 = some (.dK (mergeK [] (ks.zip ws))) := E5.keep _ _ hd3 nch fun _ zz => by cases zz
    unfold dgtR at g5
    cases ek : keyD d4 with
    | none => rw [ek] at g5; exact g5.elim
    | some k =>
      rw [ek] at g5
      simp only at g5
      have ew := key_rep rd4 ek
      subst ew
      obtain ⟨d1, d2⟩ := dlast_rep (k := k) (w3.mono E5) w4
      refine ⟨_, DGet.k (k := k) hd5, ?_⟩
      cases el : dlastD ks ds k with
      | some dd =>
        obtain ⟨u, u1, u2⟩ := d1 dd el
        rw [u1]
        rw [el] at g5
        exact fin_same S5 g5 u2
      | none =>
        rw [d2 el]
        rw [el] at g5
        exact fin_same S5 g5 rd5
theorem op_mad : OpR X (binaryOp .Add) (rrE X.K X.mg madR) := by
  intro pins s σ H v1 v2 v u Q I rx ry h
  obtain ⟨a, b, st, mu, W, s', ra, rb, S, h⟩ := h
  unfold madR at h
  cases e1 : lstOf a st with
  | none => rw [e1] at h; exact h.elim
  | some xs =>
    cases e2 : lstOf b st with
    | none => rw [e1, e2] at h; exact h.elim
    | some ys =>
      rw [e1, e2] at h
      simp only at h
      split at h
      · rename_i hz
        obtain ⟨l, vs, rfl, h1, q1, z1⟩ := lstOf_rep S ra e1
        obtain ⟨m, ws, rfl, h2, q2, z2⟩ := lstOf_rep S rb e2
        refine op_cat pins s σ H _ _ v u Q I rx ry ⟨l, m, vs, ws, rfl, rfl, h1, h2, by rw [q1.length, q2.length]; exact hz, fun p hp => h (mu.add p) _ _ (ext_mut S hp) (S.mut hp (by rw [List.length_append]; exact hz) (q1.append q2)) (.ref ?_)⟩
        unfold Mu.add
        rw [← S.len, List.getElem?_concat_length]
      · exact h.elim
theorem se_mad (h1 : SE X G W a x) (h2 : SE X G W b y) : SE X G W (.BinOp a .Add b pos) (.mad x y) :=
  pe_imp (pe_op op_mad h1 h2) fun σ H Q ⟨l, st, mu, L, S, h⟩ => by
    rw [evE] at h
    refine (Fin.step (rel := relE X.K X.mg) L S h).mono fun v H1 ⟨mu1, d, st1, e1, L1, S1, rd, f⟩ => ?_
    exact (Fin.step (rel := relE X.K X.mg) L1 S1 f).mono fun w H2 ⟨mu2, d2, st2, e2, L2, S2, rd2, f2⟩ => ⟨d, d2, st2, mu2, W, σ, rd.mono e2, rd2, S2, f2⟩
end
end CP

set_option Elab.async false
set_option linter.all false
set_option maxRecDepth 100000
set_option autoImplicit false
/-! CpSet6: sorted(set(x)). -/
namespace CP
open PySem PySem.Spec PyProof.Rows L2 PySem.W
section
variable {X : Cx} {G : Gm} {W : WX} {pos : Pos} {a : Expr} {x : E}
theorem MemOf.mono {K : PySem.W.Frag} {mg : Str → Option Value} {mu mu' : Mu} {H H' : Hp} {ds : List D} {M : Mem} (m : MemOf K mg mu H ds M) (e : Ext mu H mu' H') : MemOf K mg mu' H' ds M :=
  ⟨fun p hp => let ⟨d, hd, r, k⟩ := m.src p hp; ⟨d, hd, r.mono e, k⟩, m.all⟩
theorem call_or {f : Value} {R1 R2 : List V → Hp → VK → Prop} (h1 : CallR X f R1) (h2 : CallR X f R2) : CallR X f (fun xs H Q => R1 xs H Q ∨ R2 xs H Q) := by
  intro pins s σ H xs us Q I r h
  rcases h with h | h
  · exact h1 pins s σ H xs us Q I r h
  · exact h2 pins s σ H xs us Q I r h
/-- set(t) of a tuple of whole numbers -/
theorem call_setI (hc : X.calm = true) : CallR X (.type "set") (fun xs H Q => ∃ (l : Addr) (ns : List Int), xs = [.ref l] ∧ SqT X.K H l (ns.map V.int) ∧ ns.length < 64 ∧
    ∀ a c, H a = none → c ≤ ns.length → Q (.ref a) (upd H a (SetO X.w a (fun j => decide (j ∈ ns)) c))) := by
  intro pins s σ H xs us Q I r h
  obtain ⟨l, ns, rfl, hl, h64, q⟩ := h
  rw [Vals.ref1 r]
  obtain ⟨its, rv, pl, hz⟩ := I.tuple hl
  refine call_set_tupI (P := X.prog) (w := X.w) ns (I.ok.hd hc) pl (by simpa using rv.ints) (by unfold scanBound; omega) fun h' tk c hS hc' old => ?_
  exact ⟨.ref s.heap.objs.size, _, I.laid (t' := tk) old (Nat.le_refl _) (setO_new hS), rfl, q _ c (I.hok.fresh (Nat.le_refl _)) hc'⟩
theorem isiB_list {K : PySem.W.Frag} {mg : Str → Option Value} {mu : Mu} {H : Hp} : ∀ {vs : List V} {ds : List D}, Reps K mg mu H vs ds → ds.all D.isiB = true → ∃ ns : List Int, vs = ns.map V.int ∧ ds = ns.map D.int
  | _, _, .nil, _ => ⟨[], rfl, rfl⟩
  | _, _, .cons (d := d) r rs, h => by
    rw [List.all_cons, Bool.and_eq_true] at h
    obtain ⟨ns, rfl, rfl⟩ := isiB_list rs h.2
    cases d <;> first | (cases h.1; done) | skip
    cases r
    exact ⟨_ :: ns, rfl, rfl⟩
theorem reps_intsV {K : PySem.W.Frag} {mg : Str → Option Value} {mu : Mu} {H : Hp} : ∀ (ns : List Int), Reps K mg mu H (ns.map V.int) (ns.map D.int)
  | [] => .nil
  | _ :: ns => .cons (.int _) (reps_intsV ns)
theorem ints_srt {ns ms : List Int} (S : SOk (ns.map D.int)) (h1 : ms.Pairwise (· < ·)) (h2 : ∀ k, k ∈ ms ↔ k ∈ ns) : isortD (ddD (ns.map D.int)) = ms.map D.int := by
  have So2 : SOk (ddD (ns.map D.int)) := ⟨fun a ha b hb => S.cmp a ((dd_mem S a).mp ha) b ((dd_mem S b).mp hb), fun a ha => S.emp a ((dd_mem S a).mp ha), Nat.le_trans (deps_sub fun z hz => (dd_mem S z).mp hz) S.dep⟩
  rw [← sortD_isort So2]
  refine sortD_uniq So2 ?_ ?_
  · refine (List.perm_ext_iff_of_nodup ?_ (dd_nodup S)).mpr fun z => ?_
    · refine List.Pairwise.map _ (fun a b hab => ?_) h1
      intro e
      injection e with e
      omega
    · rw [dd_mem S, List.mem_map, List.mem_map]
      simp only [h2]
  · refine List.Pairwise.map _ (fun a b hab => ?_) h1
    have e : cmpD (.int a) (.int b) = some (compare a b) := rfl
    rw [leT_cmp e]
    rw [show compare a b = .lt from Int.compare_eq_lt.mpr hab]
    rfl
theorem se_ssr {p1 p2 q2 : Pos} (hc : X.calm = true) (hu : X.A.units + 200 < cLine) (gS : Gl X "sorted") (mS : X.mg "sorted" = none) (gT : Gl X "set") (mT : X.mg "set" = none)
    (ha : SE X G W a x) (sa : starEach [a] X.env = [(false, eval a X.env)]) (sl : starEach [.Call (.Name "set" p2) [a] [] q2] X.env = [(false, eval (.Call (.Name "set" p2) [a] [] q2) X.env)]) :
    SE X G W (.Call (.Name "sorted" p1) [.Call (.Name "set" p2) [a] [] q2] [] pos) (.ssr x) := by
  have hT : PE X (.Call (.Name "set" p2) [a] [] q2) _ := pe_callTy (call_or (call_setD hc hu) (call_setI hc)) gT mT (by decide +kernel) (pa_cons ha pa_nil sa) (by decide) (by decide) sa rfl
  refine pe_imp (pe_callB (call_or (call_sortN hc hu) (cr_sortedSet hc)) gS mS (by decide +kernel) (pa_cons hT pa_nil sl) (by decide) (by decide) sl rfl) fun σ H Q ⟨l, st, mu, L, S, h⟩ => ?_
  rw [evE] at h
  refine (Fin.step (rel := relE X.K X.mg) L S h).mono fun v H1 ⟨mu1, d, st1, e1, L1, S1, rd, g⟩ => ?_
  have gs : (∃ xs, d = .tup xs ∧ xs.all D.isiB = true ∧ Fin X.K X.mg W σ (relE X.K X.mg) mu1 H1 (ssrR xs st1) Q) ∨ (∃ xs, lstOf d st1 = some xs ∧ xs.all D.tupB = true ∧ Fin X.K X.mg W σ (relE X.K X.mg) mu1 H1 (ssrR xs st1) Q) := by
    by_cases ht : ∃ xs, d = .tup xs
    · obtain ⟨xs, rfl⟩ := ht
      simp only [ssrL] at g
      by_cases al : xs.all D.isiB = true
      · rw [if_pos al] at g
        exact .inl ⟨xs, rfl, al, g⟩
      · rw [if_neg al] at g
        exact g.elim
    · have g' : Fin X.K X.mg W σ (relE X.K X.mg) mu1 H1 (match lstOf d st1 with
        | some xs => if xs.all D.tupB then ssrR xs st1 else .bad
        | none => .bad) Q := by
        cases d <;> first | exact absurd ⟨_, rfl⟩ ht | exact g
      cases el : lstOf d st1 with
      | none => rw [el] at g'; exact g'.elim
      | some xs =>
        rw [el] at g'
        simp only at g'
        by_cases tp : xs.all D.tupB = true
        · rw [if_pos tp] at g'
          exact .inr ⟨xs, rfl, tp, g'⟩
        · rw [if_neg tp] at g'
          exact g'.elim
  rcases gs with ⟨xs, rfl, al, g⟩ | ⟨xs, el, tp, g⟩
  · unfold ssrR at g
    split at g
    · rename_i ok
      simp only [Bool.and_eq_true, decide_eq_true_eq] at ok
      have SO := sortOk_iff.mp ok.1.1.1
      obtain ⟨ad, vs, rfl, h1, q1⟩ : ∃ ad vs, v = .ref ad ∧ SqT X.K H1 ad vs ∧ Reps X.K X.mg mu1 H1 vs xs := by
        cases rd with
        | tup a z q => exact ⟨_, _, rfl, a.sq, q⟩
      obtain ⟨ns, rfl, rfl⟩ := isiB_list q1 al
      have h64 : ns.length < 64 := by simpa using ok.1.2
      refine .inr ⟨ad, ns, rfl, h1, h64, fun p c hp hc' => .inr ?_⟩
      refine ⟨p, _, c, rfl, upd_same, by omega, fun ms p2 m1 m2 m3 hp2 => ?_⟩
      have E2 : Ext mu1 H1 mu1 (upd H1 p (SetO X.w p (fun j => decide (j ∈ ns)) c)) := ext_new S1 hp
      have S2 := S1.new (o := SetO X.w p (fun j => decide (j ∈ ns)) c) hp
      rw [ints_srt SO m1 (fun k => by simpa using m2 k)] at g
      refine fin_new S2 hp2 (g.ext E2) (new_lst S2 hp2 (reps_intsV ms) ?_)
      rw [List.length_map, sizeLine_eq]
      omega
    · exact g.elim
  · obtain ⟨ad, vs, rfl, h1, q1, z1⟩ := lstOf_rep S1 rd el
    unfold ssrR at g
    split at g
    · rename_i ok
      simp only [Bool.and_eq_true, decide_eq_true_eq] at ok
      have tp' := List.all_eq_true.mp tp
      have SI : SetIn xs := ⟨sortOk_iff.mp ok.1.1.1, fun d hd => by
        have := tp' d hd
        cases d <;> first | exact ⟨_, rfl⟩ | (simp [D.tupB] at this), ok.1.1.2, ok.1.2⟩
      have So2 : SOk (ddD xs) := ⟨fun a ha b hb => SI.ok.cmp a ((dd_mem SI.ok a).mp ha) b ((dd_mem SI.ok b).mp hb), fun a ha => SI.ok.emp a ((dd_mem SI.ok a).mp ha), Nat.le_trans (deps_sub fun z hz => (dd_mem SI.ok z).mp hz) SI.ok.dep⟩
      rw [← sortD_isort So2] at g
      refine .inl ⟨ad, vs, mu1, xs, rfl, .of h1, q1, SI, fun p M hp m => .inl ?_⟩
      have E2 : Ext mu1 H1 mu1 (upd H1 p (.ext (NSet0 X.w p M))) := ext_new S1 hp
      have S2 := S1.new (o := .ext (NSet0 X.w p M)) hp
      refine ⟨p, M, vs, mu1, xs, rfl, upd_same, SI, m.mono E2, fun p2 ws hp2 hw => ?_⟩
      refine fin_new S2 hp2 (g.ext E2) (new_lst S2 hp2 hw ?_)
      rw [sortD_len]
      exact Nat.le_trans (dd_len xs) z1
    · exact g.elim
end
end CP

set_option Elab.async false
set_option linter.all false
set_option maxRecDepth 100000
set_option autoImplicit false
/-! CpStep: lists turned about; ranges as lists and tuples. -/
namespace CP
open PySem PySem.Spec PyProof.Rows L2
section
variable {X : Cx} {G : Gm} {W : WX} {a b : Expr} {x y : E} {pos : Pos}
theorem Reps.reverse {K : PySem.W.Frag} {mg : Str → Option Value} {mu : Mu} {H : Hp} : ∀ {vs : List V} {ds : List D}, Reps K mg mu H vs ds → Reps K mg mu H vs.reverse ds.reverse
  | _, _, .nil => .nil
  | _, _, .cons r t => by
    rw [List.reverse_cons, List.reverse_cons]
    exact (Reps.reverse t).append (.cons r .nil)
theorem se_rev {k : Nat} {p1 p2 p3 : Pos} (h1 : SE X G W a x) : SE X G W (.Subscript a (.Slice none none (some (.UnaryOp .USub (.Constant (.int 1) k p1) p2)) p3) pos) (.rev x) :=
  pe_imp (pe_revL h1) fun σ H Q ⟨l, st, mu, L, S, h⟩ => by
    rw [evE] at h
    refine (Fin.step (rel := relE X.K X.mg) L S h).mono fun v H1 ⟨mu1, d, st1, e1, L1, S1, rd, f⟩ => ?_
    unfold revR at f
    cases el : lstOf d st1 with
    | none => rw [el] at f; exact f.elim
    | some xs =>
      rw [el] at f
      obtain ⟨ad, vs, rfl, h1, q1, z1⟩ := lstOf_rep S1 rd el
      exact ⟨ad, vs, rfl, .of h1, fun p hp => fin_new S1 hp f (new_lst S1 hp q1.reverse (by rw [List.length_reverse]; exact z1))⟩
theorem reps_rg {K : PySem.W.Frag} {mg : Str → Option Value} {mu : Mu} {H : Hp} (i j : Int) : Reps K mg mu H (rgV i j) (rngD i (j - i).toNat) := by
  unfold rgV rngD
  generalize List.range (j - i).toNat = l
  induction l with
  | nil => exact .nil
  | cons n l ih => exact .cons (.int _) ih
theorem rg_ok {i j : Int} (h : rngOk i j = true) : RgOk i j ∧ (rngD i (j - i).toNat).length ≤ sizeLine := by
  unfold rngOk at h
  simp only [Bool.and_eq_true, decide_eq_true_eq] at h
  obtain ⟨⟨⟨⟨h1, h2⟩, h3⟩, h4⟩, h5⟩ := h
  refine ⟨⟨h1, h2, h3, h4, ?_⟩, by simpa [rngD] using h5⟩
  rw [sizeLine_eq] at h5
  omega
theorem rgs_fin {t : Bool} {i j : Int} {st : So} {mu : Mu} {H : Hp} {s' : L2.St} {Q : VK} (S : Sim X.K X.mg mu st H) (f : Fin X.K X.mg W s' (relE X.K X.mg) mu H (rgsR t (.int i) (.int j) st) Q) :
    RgOk i j ∧ (t = false → ∀ p, H p = none → Q (.ref p) (upd H p (.lst (rgV i j)))) ∧ (t = true → ∀ p, H p = none → Q (.ref p) (upd H p (.tup (rgV i j)))) := by
  have f : Fin X.K X.mg W s' (relE X.K X.mg) mu H (if rngOk i j then .ok (if t then .tup (rngD i (j - i).toNat) else .lst (rngD i (j - i).toNat)) st else .bad) Q := f
  by_cases ok : rngOk i j = true
  · rw [if_pos ok] at f
    obtain ⟨h1, h2⟩ := rg_ok ok
    refine ⟨h1, fun e p hp => ?_, fun e p hp => ?_⟩
    · subst e
      exact fin_new S hp f (new_lst S hp (reps_rg i j) h2)
    · subst e
      exact fin_new S hp f (new_tup S hp (reps_rg i j) h2)
  · rw [if_neg ok] at f
    exact f.elim
theorem se_rgs1 {t : Bool} {p1 p2 q2 : Pos} (hc : X.calm = true) (gS : Gl X (if t then ("tuple" : Str) else ("list" : Str))) (mS : ∀ z : B, X.mg z.nm = none) (gT : Gl X "range") (mT : X.mg "range" = none) (h : SE X G W b y) (sa : starEach [b] X.env = [(false, eval b X.env)])
    (sl : starEach [.Call (.Name "range" p2) [b] [] q2] X.env = [(false, eval (.Call (.Name "range" p2) [b] [] q2) X.env)]) :
    SE X G W (.Call (.Name (if t then ("tuple" : Str) else ("list" : Str)) p1) [.Call (.Name "range" p2) [b] [] q2] [] pos) (.rgs t .none y) := by
  have hR : PRg X (.Call (.Name "range" p2) [b] [] q2) _ := prg_1 gT mT h sa
  cases t with
  | true =>
    refine pe_imp (pe_tupRg hc gS (mS .tuple) hR sl) fun σ H Q ⟨l, st, mu, L, S, h⟩ => ?_
    rw [evE] at h
    refine (Fin.step (rel := relE X.K X.mg) L S h).mono fun v H1 ⟨mu1, d, st1, e1, L1, S1, rd, f⟩ => ?_
    cases rd with
    | int n => obtain ⟨r1, _, r2⟩ := rgs_fin S1 f; exact ⟨n, rfl, r1, r2 rfl⟩
    | _ => exact f.elim
  | false =>
    refine pe_imp (pe_listRg hc gS (mS .list) hR sl) fun σ H Q ⟨l, st, mu, L, S, h⟩ => ?_
    rw [evE] at h
    refine (Fin.step (rel := relE X.K X.mg) L S h).mono fun v H1 ⟨mu1, d, st1, e1, L1, S1, rd, f⟩ => ?_
    cases rd with
    | int n => obtain ⟨r1, r2, _⟩ := rgs_fin S1 f; exact ⟨n, rfl, r1, r2 rfl⟩
    | _ => exact f.elim
theorem se_rgs2 {t : Bool} {p1 p2 q2 : Pos} (hc : X.calm = true) (gS : Gl X (if t then ("tuple" : Str) else ("list" : Str))) (mS : ∀ z : B, X.mg z.nm = none) (gT : Gl X "range") (mT : X.mg "range" = none) (ha : SE X G W a x) (h : SE X G W b y) (sa : starEach [a, b] X.env = (false, eval a X.env) :: starEach [b] X.env)
    (sb : starEach [b] X.env = [(false, eval b X.env)]) (hp : (backTo q2 (starEach [b] X.env)).any (·.1) = false) (sl : starEach [.Call (.Name "range" p2) [a, b] [] q2] X.env = [(false, eval (.Call (.Name "range" p2) [a, b] [] q2) X.env)]) :
    SE X G W (.Call (.Name (if t then ("tuple" : Str) else ("list" : Str)) p1) [.Call (.Name "range" p2) [a, b] [] q2] [] pos) (.rgs t (.some x) y) := by
  have hR : PRg X (.Call (.Name "range" p2) [a, b] [] q2) _ := prg_2 gT mT ha h sa sb hp
  cases t with
  | true =>
    refine pe_imp (pe_tupRg hc gS (mS .tuple) hR sl) fun σ H Q ⟨l, st, mu, L, S, h⟩ => ?_
    rw [evE] at h
    refine (Fin.step (rel := relE X.K X.mg) L S h).mono fun v H1 ⟨mu1, d, st1, e1, L1, S1, rd, f⟩ => ?_
    refine (Fin.step (rel := relE X.K X.mg) L1 S1 f).mono fun v2 H2 ⟨mu2, d2, st2, e2, L2, S2, rd2, f2⟩ => ?_
    cases rd with
    | int n => cases rd2 with
      | int m => obtain ⟨r1, _, r2⟩ := rgs_fin S2 f2; exact ⟨n, m, rfl, rfl, r1, r2 rfl⟩
      | _ => exact f2.elim
    | _ => exact f2.elim
  | false =>
    refine pe_imp (pe_listRg hc gS (mS .list) hR sl) fun σ H Q ⟨l, st, mu, L, S, h⟩ => ?_
    rw [evE] at h
    refine (Fin.step (rel := relE X.K X.mg) L S h).mono fun v H1 ⟨mu1, d, st1, e1, L1, S1, rd, f⟩ => ?_
    refine (Fin.step (rel := relE X.K X.mg) L1 S1 f).mono fun v2 H2 ⟨mu2, d2, st2, e2, L2, S2, rd2, f2⟩ => ?_
    cases rd with
    | int n => cases rd2 with
      | int m => obtain ⟨r1, r2, _⟩ := rgs_fin S2 f2; exact ⟨n, m, rfl, rfl, r1, r2 rfl⟩
      | _ => exact f2.elim
    | _ => exact f2.elim
end
end CP

set_option Elab.async false
set_option linter.all false
set_option maxRecDepth 100000
set_option autoImplicit false
/-! CpEnum: enumerate of lists and of tuples. -/
namespace CP
open PySem PySem.Spec PyProof.Rows L2
open AutoSeq1 (wpAny_loadPart')

theorem enum_newT (l : Addr) (items : Array Value) (n : Nat) (dct : Option Addr) (sl : Array (Option Value)) :
    Meets (Builtin.«enumerate.__new__» ⟨[.type "enumerate", .ref l], []⟩) (fun _ R s => s.heap.get? l = some { cls := .type "tuple", dict := dct, data := .seq items n, slots := sl } ∧
      R (.ok (.ret (.ref (s.heap.push { cls := .type "tuple_iterator", data := .fields #[.ref l, .int 0 0] }).objs.size)))
        { s with heap := (s.heap.push { cls := .type "tuple_iterator", data := .fields #[.ref l, .int 0 0] }).push { cls := .type "enumerate", data := .fields #[.none, .bool false, .ref s.heap.objs.size, rawInt 0, .none, .none] } }) :=
  .of_wp fun prog w A R s h => by
    obtain ⟨hp, g, d, tk, os⟩ := s; obtain ⟨hl, h⟩ := h
    have isT := sub_enumerate
    have hT : Heap.IsTuple (Shared.heap ⟨hp, g, d, tk, os⟩) l items := ⟨_, hl, rfl, n, rfl⟩
    wp_walk using wpAny_loadPart' hl
    refine wpAny_stack_any fun st => wpAny_pure ?_
    split
    · rename_i c _ _ _ _ _
      cases (c == Value.type "enumerate") <;> (wp_walk using wpAny_loadPart' hl, wpAny_pyIter_tuple hT; exact ⟨_, rfl, h⟩)
    · (wp_walk using wpAny_loadPart' hl, wpAny_pyIter_tuple hT; exact ⟨_, rfl, h⟩)
section
variable {prog : Program} {w : World} {A : Around} {E : Value → Shared → Prop} {s : Shared}
theorem call_enumT {l : Addr} {items : Array Value} {Q : Value → Shared → Prop} (hL : s.heap.IsTuple l items)
    (h : ∀ h', IsEnum h' (s.heap.objs.size + 1) s.heap.objs.size 0 .none → h'.IsTupleIter s.heap.objs.size l 0 → h'.objs.size = s.heap.objs.size + 2 →
      (∀ b o, s.heap.get? b = some o → h'.get? b = some o) → Q (.ref (s.heap.objs.size + 1)) { s with heap := h' }) :
    wpAny (model prog w) A (call (.type "enumerate") [.ref l]) Q E s := by
  obtain ⟨⟨c, dct, dt, sl⟩, hl, hc, n, hd⟩ := hL
  replace hc : c = .type "tuple" := hc
  replace hd : dt = .seq items n := hd
  subst hc hd
  refine callType_new F.called_enumerate (by decide) (F.typeCall_enumerate_1 _) (F.newCall_enumerate_1 _) (fun obj => F.args_object_init_2 obj _) F.entry_enumerate_new
    (enum_newT l items n dct sl) ⟨hl, ?_⟩
  generalize hI : s.heap.push { cls := .type "tuple_iterator", data := .fields #[.ref l, .int 0 0] } = h1
  have z1 : h1.objs.size = s.heap.objs.size + 1 := by rw [← hI]; exact Heap.size_push ..
  have g1 : h1.get? s.heap.objs.size = some { cls := .type "tuple_iterator", data := .fields #[.ref l, .int 0 0] } := by rw [← hI]; exact Heap.get?_push_size _ rfl
  have k1 : ∀ b o, s.heap.get? b = some o → h1.get? b = some o := fun b o e => by rw [← hI]; exact Heap.get?_push_of_some _ e
  show _ ∧ _
  rw [z1]
  have he : IsEnum (h1.push { cls := .type "enumerate", data := .fields #[.none, .bool false, .ref s.heap.objs.size, rawInt 0, .none, .none] }) (s.heap.objs.size + 1) s.heap.objs.size 0 .none := by
    have q := Heap.get?_push_size h1 (o := { cls := .type "enumerate", data := .fields #[.none, .bool false, .ref s.heap.objs.size, rawInt 0, .none, .none] }) rfl
    rw [z1] at q; exact q
  exact ⟨⟨_, he, rfl⟩, h _ he ⟨_, Heap.get?_push_of_some _ g1, rfl, rfl⟩ (by rw [Heap.size_push, z1]) fun b o x => Heap.get?_push_of_some _ (k1 b o x)⟩
end
/-- the tuple at a, its items with their places in new pairs -/
def IteT (K : PySem.W.Frag) (a : Addr) : It :=
  ⟨fun i H => ∃ (xs : List V) (x : V), SqT K H a xs ∧ xs[i]? = some x, fun i H v H' => ∃ T x, v = .ref T ∧ H T = none ∧ H' = upd H T (.tup [.int (i : Nat), x]) ∧ ∀ xs, SqT K H a xs → xs[i]? = some x, fun i H => ∃ xs : List V, SqT K H a xs ∧ xs.length ≤ i⟩
theorem turn_enumT {P : Program} {w : World} {K : PySem.W.Frag} {elts : List Expr} {kk : Nat} {tpos : Pos} (a e it : Addr) (hai : a ≠ it) :
    Turn P w K (.Tuple elts kk tpos) (IteT K a) [e, it] e (fun i h => (∃ old, IsEnum h e it ((i : Nat) : Int) old) ∧ h.IsTupleIter it a i ∧ e ≠ it ∧ a ≠ e) where
  mem := by simp
  obj := fun i h st b hb => by
    obtain ⟨⟨old, he⟩, ⟨o, ho, hc, hd⟩, _⟩ := st
    rcases List.mem_cons.mp hb with rfl | hb
    · exact ⟨_, he, fun v q => nomatch q⟩
    · rw [List.mem_singleton.mp hb]
      exact ⟨o, ho, fun v q => by rw [hd] at q; cases q⟩
  keep := fun i h h' st k => by
    obtain ⟨⟨old, he⟩, hi, hne, hae⟩ := st
    exact ⟨⟨old, k e List.mem_cons_self _ he⟩, hi.at fun o q => k it (by simp) o q, hne, hae⟩
  item := by
    intro X hP hw hK hc i pins s σ H E I hf st hg
    subst hP hw hK
    obtain ⟨⟨old, he⟩, hit, hne, hae⟩ := st
    obtain ⟨xs, x, hq, hx⟩ := hg
    obtain ⟨its, rv, p, hz⟩ := I.tuple hq
    have p : s.heap.IsTuple a its.toArray := p
    obtain ⟨u, hu, ru⟩ := rv.get hx
    have hel : e < s.heap.objs.size := Heap.lt_size he
    have hil : it < s.heap.objs.size := by obtain ⟨_, q, _⟩ := hit; exact Heap.lt_size q
    have hlen : i < its.toArray.size := by
      have := (List.getElem?_eq_some_iff.mp hu).1
      simpa using this
    refine wpAny_pyNext_enum_itemD (Draws.tuple (A := X.A.in1) (I.ok.hd hc) it a hai its.toArray) he ⟨hit, p⟩ hlen hne (by simp [hne, hae.symm]) fun v h' tk hv ho hst hT hsz hk => ?_
    have ev : v = u := by
      have h1 : its[i]? = some v := by simpa using hv
      rw [hu] at h1; exact (Option.some.inj h1).symm
    subst ev
    refine ⟨_, rfl, wpAny_letOwnedTupleGo_enum (s := { s with heap := h', toks := tk + 1 }) ho fun h'' he' sb => ?_⟩
    have hT2 : h''.get? s.heap.objs.size = some { cls := .type "tuple", data := .seq #[.int i tk, v] } := (sb.2 _ (Nat.ne_of_gt hel)).trans hT
    have new : ObjOk X.prog X.w (upd H s.heap.objs.size (.tup [.int (i : Nat), x])) h'' s.heap.objs.size (.tup [.int (i : Nat), x]) :=
      ⟨by show 2 ≤ sizeLine; decide, [.int i tk, v], .cons ⟨_, rfl⟩ (.cons ru .nil), ⟨_, hT2, rfl, _, rfl⟩⟩
    have I1 : Inv X pins σ (upd H s.heap.objs.size (.tup [.int (i : Nat), x])) { s with heap := h'', toks := tk + 1 } :=
      I.turnedNew (ch := [e, it]) (fun b ob hb q => (sb.2 b (fun z => hb (by simp [z]))).trans (hk b ob (fun z => hb (by simp [z])) (fun z => hb (by simp [z])) q)) hf (Nat.le_refl _) new
    refine ⟨.ref s.heap.objs.size, _, I1, rfl, ⟨_, x, rfl, I.hok.fresh (Nat.le_refl _), rfl, fun ys hy => by rw [I.tuple_inj hy hq]; exact hx⟩, ⟨⟨v, ?_⟩, hst.1.at fun o q => (sb.2 it (Ne.symm hne)).trans q, hne, hae⟩, fun b hb => ?_⟩
    · have e1 : ((i + 1 : Nat) : Int) = (i : Int) + 1 := by omega
      rw [e1]; exact he'
    · have hb' : b < s.heap.objs.size := by
        rcases List.mem_cons.mp hb with rfl | hb
        · exact hel
        · rw [List.mem_singleton.mp hb]; exact hil
      rw [upd_ne (Nat.ne_of_lt hb')]
      exact (hf b hb).1
  done := by
    intro X hP hw hK hc i pins s σ H E I hf st hg
    subst hP hw hK
    obtain ⟨⟨old, he⟩, hit, hne, hae⟩ := st
    obtain ⟨xs, hq, hx⟩ := hg
    obtain ⟨its, rv, p, hz⟩ := I.tuple hq
    have p : s.heap.IsTuple a its.toArray := p
    obtain ⟨f0, f1, f2, f3, f4, f5⟩ := hf it (by simp)
    have hl := rv.length
    have over : its.toArray[i]? = none := by simp; omega
    have isE : s.TypeIs (.ref e) "enumerate" := ⟨_, he, rfl⟩
    unfold pyNext
    refine wpAny_bind (wpAny_attempt (wpAny_callSpecial?_slot (name := Str.ofString "__next__") isE F.slot_enumerate_next (wpAny_call_entry F.slot_enumerate_next isE F.entry_enumerate_next ?_ (F.args_enumerate_next_1 _))))
    show wpAny _ _ (field (.ref e) 2 >>= _) _ _ _
    refine wpAny_bind (wpAny_field he rfl (x := .ref it) rfl (wpAny_bind (PySem.wpAny_nextOf_tuple_end (I.ok.hd hc) hit p over fun h' x he' hx' => ?_)))
    obtain ⟨o, ho, hc'⟩ := hx'
    refine wpAny_bind (wpAny_isInstance (T := "StopIteration") (b := true) ⟨o, ho, hc'⟩ isSubtype_stop ?_)
    exact wpAny_pure ⟨rfl, I.turned (t' := s.toks) (fun b o hb q => he' b o hb q) f0 f1 f3 f4 f5⟩
  self := fun A i s Q E st h => let ⟨⟨_, he⟩, _⟩ := st; wpAny_pyIter_enum he h
section
variable {K : PySem.W.Frag} {mg : Str → Option Value} {mu mu' : Mu} {H H' : Hp} {xs ys : List D}
theorem enu_at : ∀ {xs : List D} {n i : Nat} {d : D}, (enuD n xs)[i]? = some d → ∃ x, xs[i]? = some x ∧ d = .tup [.int ((n + i : Nat) : Int), x]
  | [], _, _, _, h => by simp [enuD] at h
  | x :: xs, n, 0, d, h => by
    simp [enuD] at h
    exact ⟨x, rfl, by rw [← h]; rfl⟩
  | x :: xs, n, i + 1, d, h => by
    obtain ⟨y, h1, h2⟩ := enu_at (xs := xs) (n := n + 1) (i := i) (d := d) (by simpa [enuD] using h)
    exact ⟨y, by simpa using h1, by rw [h2, show n + 1 + i = n + (i + 1) by omega]⟩
theorem enu_len : ∀ (xs : List D) (n : Nat), (enuD n xs).length = xs.length
  | [], _ => rfl
  | x :: xs, n => by simp [enuD, enu_len xs]
theorem walk_enuL {a : Addr} {vs : List V} (h1 : LstAt mu H a vs) (r1 : Reps K mg mu H vs xs) (z : xs.length ≤ sizeLine) : Walk K mg mu H (Ite K a) (enuD 0 xs) :=
  ⟨by rw [enu_len]; exact z, fun mu' H' e ⟨st0, S0⟩ => by
    have q1 : SqL K H' a vs := (h1.mono0 e).sq
    refine ⟨fun i hi => ⟨vs, q1, ?_⟩, fun i d hd => ?_⟩
    · rw [enu_len] at hi
      rw [r1.length]; exact hi
    · obtain ⟨x, g1, rfl⟩ := enu_at hd
      obtain ⟨v, v1, v2⟩ := (r1.mono0 e).get g1
      refine ⟨⟨vs, v, q1, v1⟩, fun u H'' yl => ?_⟩
      obtain ⟨T, x', rfl, hT, rfl, y1⟩ := yl
      have e1 := y1 vs q1
      rw [v1] at e1; cases e1
      rw [Nat.zero_add]
      exact walk_pair S0 hT (.int _) v2⟩
theorem walk_enuT {a : Addr} {vs : List V} (h1 : TupAt K mu H a vs) (r1 : Reps K mg mu H vs xs) (z : xs.length ≤ sizeLine) : Walk K mg mu H (IteT K a) (enuD 0 xs) :=
  ⟨by rw [enu_len]; exact z, fun mu' H' e ⟨st0, S0⟩ => by
    have q1 : SqT K H' a vs := (h1.mono0 e).sq
    refine ⟨fun i hi => ⟨vs, q1, ?_⟩, fun i d hd => ?_⟩
    · rw [enu_len] at hi
      rw [r1.length]; exact hi
    · obtain ⟨x, g1, rfl⟩ := enu_at hd
      obtain ⟨v, v1, v2⟩ := (r1.mono0 e).get g1
      refine ⟨⟨vs, v, q1, v1⟩, fun u H'' yl => ?_⟩
      obtain ⟨T, x', rfl, hT, rfl, y1⟩ := yl
      have e1 := y1 vs q1
      rw [v1] at e1; cases e1
      rw [Nat.zero_add]
      exact walk_pair S0 hT (.int _) v2⟩
end
section
variable {X : Cx} {G : Gm} {W : WX} {pos : Pos}
theorem pi_enuD {elts : List Expr} {kk : Nat} {tpos : Pos} {e : Expr} {p : Pos} {a : E} (hg : Gl X "enumerate") (hm : X.mg "enumerate" = none) (he : PE X e (tE X.K X.mg W (evE G a))) (hs : starEach [e] X.env = [(false, eval e X.env)]) :
    PI X (.Tuple elts kk tpos) (.Call (.Name "enumerate" p) [e] [] pos) (tG X.K X.mg W (relW X.K X.mg) (evW G (.enu a))) := by
  refine ⟨fun pins s σ H R I h => ?_⟩
  obtain ⟨l, st, mu, L, S, h⟩ := h
  rw [evW] at h
  have h0 : tCons (tE X.K X.mg W (evE G a)) tNil σ H (fun vs H1 => ∃ v, vs = [v] ∧ ∃ mu1 d st1, Ext mu H mu1 H1 ∧ RepL X.K X.mg mu1 H1 σ l ∧ Sim X.K X.mg mu1 st1 H1 ∧ Rep X.K X.mg mu1 H1 v d ∧ Fin X.K X.mg W σ (relW X.K X.mg) mu1 H1 (match d with
      | .lst xs => .ok (enuD 0 xs) st1
      | .tup xs => .ok (enuD 0 xs) st1
      | _ => .bad) R) := (Fin.step (rel := relE X.K X.mg) L S h).mono fun v H1 q => ⟨v, rfl, q⟩
  refine Call_ (ld_blt I hg hm boot_enumerate (PyProof.Rows.callWith_type1 (thn ((pa_cons he pa_nil hs).run pos pins s σ H _ I h0) fun us s1 ⟨vs, H1, I1, r1, q1⟩ => ?_) hs rfl))
  obtain ⟨v, rfl, mu1, d, st1, e1, L1, S1, rd, f⟩ := q1
  cases r1 with
  | cons r rr =>
    cases rr
    have fresh : ∀ b ∈ [s1.heap.objs.size + 1, s1.heap.objs.size], FpOk X pins H1 b := fun b hb => by
      have hle : s1.heap.objs.size ≤ b := by
        rcases List.mem_cons.mp hb with rfl | hb
        · exact Nat.le_add_right _ _
        · rw [List.mem_singleton.mp hb]; exact Nat.le_refl _
      exact I1.fpOk hle (I1.hok.fresh hle)
    cases rd with
    | @lst ad vs ds hl z q1 =>
      cases r
      obtain ⟨its, rv, p', hz⟩ := I1.list hl.sq
      refine call_enumerate_list p'.isList fun h' he hit hsz hk => wpAny_pyIter_enum he ?_
      have I2 : Inv X pins σ H1 { s1 with heap := h' } := I1.kept (t' := s1.toks) hk
      exact ⟨s1.heap.objs.size + 1, [s1.heap.objs.size + 1, s1.heap.objs.size], _, _, H1, rfl, I2, turn_enum ad (s1.heap.objs.size + 1) s1.heap.objs.size, ⟨⟨.none, he⟩, hit, Nat.succ_ne_self _⟩, fresh, f mu1 H1 _ (.refl _ _) S1 (walk_enuL hl q1 z)⟩
    | @tup ad vs ds hl z q1 =>
      cases r
      obtain ⟨its, rv, p', hz⟩ := I1.tuple hl.sq
      have p' : s1.heap.IsTuple ad its.toArray := p'
      have hlt : ad < s1.heap.objs.size := by obtain ⟨o, ho, _⟩ := id p'; exact Heap.lt_size ho
      refine call_enumT p' fun h' he hit hsz hk => wpAny_pyIter_enum he ?_
      have I2 : Inv X pins σ H1 { s1 with heap := h' } := I1.kept (t' := s1.toks) hk
      exact ⟨s1.heap.objs.size + 1, [s1.heap.objs.size + 1, s1.heap.objs.size], _, _, H1, rfl, I2, turn_enumT ad (s1.heap.objs.size + 1) s1.heap.objs.size (Nat.ne_of_lt hlt), ⟨⟨.none, he⟩, hit, Nat.succ_ne_self _, Nat.ne_of_lt (Nat.lt_succ_of_lt hlt)⟩, fresh, f mu1 H1 _ (.refl _ _) S1 (walk_enuT hl q1 z)⟩
    | _ => exact f.elim
end
end CP

set_option Elab.async false
set_option linter.all false
set_option maxRecDepth 100000
set_option autoImplicit false
/-! CpStmt: targets, comprehensions, statements, defs. -/
namespace CP
open PySem PySem.Spec PyProof.Rows L2

/-! ### targets -/
/-- names stored: what is known behind -/
def Stored (K : PySem.W.Frag) (mg : Str → Option Value) (mu : Mu) (H : Hp) (is : List Nat) (s s' : L2.St) (l : Lo) : Prop :=
  RepL K mg mu H s' l ∧ ∀ vs : List Nat, (∀ i ∈ is, i ∈ vs) → wipe s' vs = wipe s vs
def tTg (K : PySem.W.Frag) (mg : Str → Option Value) (tg : Tg) : TG := fun v s H Q =>
  ∃ l st mu d l', RepL K mg mu H s l ∧ Sim K mg mu st H ∧ Rep K mg mu H v d ∧ bindTg tg d l = some l' ∧ ∀ s', Stored K mg mu H tg.ix s s' l' → Q s' H
section
variable {K : PySem.W.Frag} {mg : Str → Option Value} {mu mu' : Mu} {H H' : Hp} {st : So}
theorem wipe_set {s : L2.St} {i : Nat} {x : Option V} : ∀ {vs : List Nat}, i ∈ vs → wipe (s.set i x) vs = wipe s vs
  | [], h => by cases h
  | v :: vs, h => by
    unfold wipe
    by_cases e : i = v
    · subst e
      have aux : ∀ (vs : List Nat) (s : L2.St), (wipe (s.set i x) vs).set i none = (wipe s vs).set i none := by
        intro vs
        induction vs with
        | nil => intro s; unfold wipe; rw [List.set_set]
        | cons w ws ih =>
          intro s
          unfold wipe
          by_cases e : i = w
          · subst e
            rw [List.set_set, List.set_set, ih]
          · rw [List.set_comm _ _ (Ne.symm e), ih, List.set_comm _ _ e]
      exact aux vs s
    · have hm : i ∈ vs := by
        rcases List.mem_cons.mp h with h | h
        · exact absurd h e
        · exact h
      rw [wipe_set hm]
theorem wipe_wipe {s : L2.St} : ∀ vs : List Nat, wipe (wipe s vs) vs = wipe s vs := by
  intro vs
  have aux : ∀ (us vs : List Nat), (∀ i ∈ us, i ∈ vs) → wipe (wipe s us) vs = wipe s vs := by
    intro us
    induction us with
    | nil => intro vs _; rfl
    | cons u us ih =>
      intro vs h
      show wipe ((wipe s us).set u none) vs = _
      rw [wipe_set (h u (List.mem_cons_self)), ih vs fun i hi => h i (List.mem_cons_of_mem _ hi)]
  exact aux vs vs fun _ h => h
theorem Stored.nm {s : L2.St} {l : Lo} {i : Nat} {v : V} {d : D} (L : RepL K mg mu H s l) (r : Rep K mg mu H v d) : Stored K mg mu H [i] s (s.set i (some v)) (l.set i (some d)) :=
  ⟨L.set i r, fun vs h => wipe_set (h i (List.mem_cons_self))⟩
theorem setAll_reps : ∀ {is : List Nat} {ds : List D} {vs : List V} {s : L2.St} {l l' : Lo}, setAll is ds l = some l' → Reps K mg mu H vs ds → RepL K mg mu H s l →
    is.length = vs.length ∧ Stored K mg mu H is s ((is.zip vs).foldl (fun s p => s.set p.1 (some p.2)) s) l'
  | [], _, _, s, l, l', h, .nil, L => by
    cases h
    exact ⟨rfl, L, fun _ _ => rfl⟩
  | i :: is, d :: ds, v :: vs, s, l, l', h, .cons r rs, L => by
    obtain ⟨h1, h2, h3⟩ := setAll_reps (s := s.set i (some v)) (l := l.set i (some d)) h rs (L.set i r)
    refine ⟨by simp [h1], h2, fun vs hv => ?_⟩
    rw [List.zip_cons_cons, List.foldl_cons, h3 vs fun j hj => hv j (List.mem_cons_of_mem _ hj)]
    exact wipe_set (hv i (List.mem_cons_self))
  | [], _ :: _, _, _, _, _, h, _, _ => by cases h
  | _ :: _, [], _, _, _, _, h, _, _ => by cases h
end
section
variable {X : Cx} {pos : Pos}
/-- a name that may be stored -/
structure Stor (X : Cx) (i : Nat) (x : Str) : Prop where
  ix : X.N[i]? = some x
  loc : Loc X.env.scope x
  fn : X.fn x = true ∨ X.env.scope.names.lookup x = some .local
theorem pg_nmD {i : Nat} {x : Str} (hN : X.N.Nodup) (h : Stor X i x) : PG X (.Name x pos) (tTg X.K X.mg (.nm i)) :=
  pg_imp (pg_name hN h.ix h.loc h.fn) fun v σ H Q ⟨l, st, mu, d, l', L, S, r, e, q⟩ => by
    cases e
    exact q _ (Stored.nm L r)
/-- several names -/
theorem pgs_names (hN : X.N.Nodup) : ∀ {is : List Nat} {xs : List (Str × Pos)}, is.length = xs.length → (∀ p ∈ is.zip xs, Stor X p.1 p.2.1) →
    PGs X (xs.map fun p => .Name p.1 p.2) (fun vs σ H Q => is.length = vs.length ∧ Q ((is.zip vs).foldl (fun s p => s.set p.1 (some p.2)) σ) H)
  | [], [], _, _ => ⟨fun pins s σ H vs us Q I r h => pgs_nil.run pins s σ H vs us Q I r ⟨List.eq_nil_of_length_eq_zero h.1.symm, h.2⟩⟩
  | i :: is, (x, p) :: xs, hl, h => by
    refine ⟨fun pins s σ H vs us Q I r q => ?_⟩
    have h1 : Stor X i x := h (i, (x, p)) (List.mem_cons_self)
    have h2 := pgs_names hN (is := is) (xs := xs) (by simpa using hl) fun p hp => h p (List.mem_cons_of_mem _ hp)
    refine (pgs_cons (pg_name hN h1.ix h1.loc h1.fn) h2 rfl).run pins s σ H vs us Q I r ?_
    obtain ⟨q1, q2⟩ := q
    cases vs with
    | nil => simp at q1
    | cons v vs => exact ⟨v, vs, rfl, by simpa using q1, q2⟩
theorem each_names (env : Env) : ∀ xs : List (Str × Pos), (assignEach (xs.map fun p => Expr.Name p.1 p.2) env).length = xs.length ∧ (assignEach (xs.map fun p => Expr.Name p.1 p.2) env).findIdx? (·.1) = none
  | [] => ⟨rfl, rfl⟩
  | (x, p) :: xs => by
    obtain ⟨h1, h2⟩ := each_names env xs
    refine ⟨by show (assignEach (xs.map fun p => Expr.Name p.1 p.2) env).length + 1 = xs.length + 1; rw [h1], ?_⟩
    show ((false, assign (.Name x p) env) :: assignEach (xs.map fun p => Expr.Name p.1 p.2) env).findIdx? (·.1) = none
    rw [List.findIdx?_cons, h2]
    rfl
theorem pg_tuD {is : List Nat} {xs : List (Str × Pos)} {k : Nat} (hN : X.N.Nodup) (hc : X.calm = true) (hl : is.length = xs.length) (h : ∀ p ∈ is.zip xs, Stor X p.1 p.2.1) :
    PG X (.Tuple (xs.map fun p => .Name p.1 p.2) k pos) (tTg X.K X.mg (.tu is)) :=
  pg_imp (pg_tup (n := xs.length) hc (pgs_names hN hl h) (each_names X.env xs).1 (each_names X.env xs).2) fun v σ H Q ⟨l, st, mu, d, l', L, S, r, e, q⟩ => by
    cases d with
    | tup ds =>
      cases r with
      | tup ha z rs =>
        obtain ⟨h1, h2⟩ := setAll_reps (s := σ) e rs L
        exact ⟨_, _, rfl, ha.sq, by rw [← h1, hl], h1, q _ h2⟩
    | _ => cases e
end

/-! ### comprehensions -/
section
variable {X : Cx} {G : Gm} {W : WX} {pos : Pos}
theorem fin_not {α β : Type} {K : PySem.W.Frag} {mg : Str → Option Value} {mu : Mu} {H : Hp} {W' : WX} {s s' : L2.St} {rel : Mu → Hp → β → α → Prop} {r : R α} {Q : β → Hp → Prop} (hn : ∀ c p st, r ≠ .exc c p st) (h : Fin K mg W' s' rel mu H r Q) : Fin K mg W s rel mu H r Q := by
  cases r with
  | ok a st => exact h
  | exc c p st => exact absurd rfl (hn c p st)
  | bad => exact h
/-- the turns are those of tLc -/
theorem lc_read {tg : Tg} {w : Wk} {c : Oe} {elt : E} {own : List Nat} {tt : TT} {te : TE} (hin : ∀ i ∈ tg.ix, i ∈ own)
    (ht : ∀ σ H Q, tT X.K X.mg (fun _ _ _ _ => False) (evC G c) σ H Q → tt σ H Q) (he : ∀ σ H Q, tE X.K X.mg (fun _ _ _ _ => False) (evE G elt) σ H Q → te σ H Q)
    {σ : L2.St} {H : Hp} {Q : VK} (h : tE X.K X.mg W (evE G (.lc elt tg w c own)) σ H Q) :
    tLc (tG X.K X.mg W (relW X.K X.mg) (evW G w)) (tTg X.K X.mg tg) tt te own σ H Q := by
  obtain ⟨l, st, mu, L, S, h⟩ := h
  rw [evE] at h
  refine (Fin.step (rel := relW X.K X.mg) L S h).mono fun J H1 ⟨mu1, xs, st1, e1, L1, S1, wk, f⟩ => ?_
  intro Dd hDd
  refine ⟨fun i m H' => m = xs.length - i ∧ i ≤ xs.length ∧ ∃ mu2 st2 acc vs, Ext mu1 H1 mu2 H' ∧ Dd ∈ mu2.fo ∧ Sim X.K X.mg mu2 st2 H' ∧ H' Dd = some (.lst vs) ∧ Reps X.K X.mg mu2 H' vs acc ∧ acc.length ≤ i ∧
    Fin X.K X.mg W σ (relE X.K X.mg) mu1 H1 (lcGo (fun d => bindTg tg d (wipeD l own)) (evC G c) (evE G elt) (xs.drop i) acc st2) Q, ?_, ?_⟩
  · exact ⟨_, rfl, Nat.zero_le _, mu1.push Dd, st1, [], [], ext_push hDd, List.mem_cons_self, S1.push hDd, upd_same, .nil, Nat.le_refl _, f⟩
  · rintro i m H2 ⟨rfl, hi, mu2, st2, acc, vs, e2, hD2, S2, hv, rv, hacc, f2⟩
    obtain ⟨w1, w2⟩ := wk.2 mu2 H2 e2.weak ⟨_, S2⟩
    have hz := wk.1
    have hDn : Dd ∉ mu2.l := (S2.fo Dd hD2).2
    by_cases hlt : i < xs.length
    · obtain ⟨g1, g2⟩ := w2 i xs[i] (List.getElem?_eq_getElem hlt)
      refine .inr ⟨g1, fun H' => i + 1 ≤ xs.length ∧ ∃ mu2 st2 acc vs, Ext mu1 H1 mu2 H' ∧ Dd ∈ mu2.fo ∧ Sim X.K X.mg mu2 st2 H' ∧ H' Dd = some (.lst vs) ∧ Reps X.K X.mg mu2 H' vs acc ∧ acc.length ≤ i + 1 ∧
        Fin X.K X.mg W σ (relE X.K X.mg) mu1 H1 (lcGo (fun d => bindTg tg d (wipeD l own)) (evC G c) (evE G elt) (xs.drop (i + 1)) acc st2) Q, fun H' h => ⟨xs.length - (i + 1), by omega, rfl, h⟩, fun x H3 y => ?_⟩
      obtain ⟨e3, r3, s3⟩ := g2 x H3 y
      have S3 := s3 st2 S2
      have eD3 := e3.keep Dd _ hv hDn (fun _ z => by cases z)
      rw [List.drop_eq_getElem_cons hlt] at f2
      unfold lcGo at f2
      cases eb : bindTg tg xs[i] (wipeD l own) with
      | none => simp only [eb] at f2; exact f2.elim
      | some l2 =>
        simp only [eb] at f2
        have L3 : RepL X.K X.mg mu2 H3 (wipe σ own) (wipeD l own) := ((L1.mono e2).mono e3).wipe own
        refine ⟨wipeD l own, st2, mu2, xs[i], l2, L3, S3, r3, eb, fun s' hs => ⟨?_, ?_⟩⟩
        · rw [hs.2 own hin, wipe_wipe]
        · have fin : ∀ (mu5 : Mu) (H5 : Hp) (st5 : So) (b : Bool), Ext mu2 H3 mu5 H5 → Sim X.K X.mg mu5 st5 H5 → evC G c l2 st2 = .ok b st5 → (if b = true then te s' H5 fun y H4 => ∃ acc, H4 Dd = some (.lst acc) ∧ acc.length < sizeLine ∧ (i + 1 ≤ xs.length ∧ ∃ mu2 st2 acc' vs, Ext mu1 H1 mu2 (upd H4 Dd (.lst (acc ++ [y]))) ∧ Dd ∈ mu2.fo ∧ Sim X.K X.mg mu2 st2 (upd H4 Dd (.lst (acc ++ [y]))) ∧ (upd H4 Dd (.lst (acc ++ [y]))) Dd = some (.lst vs) ∧ Reps X.K X.mg mu2 (upd H4 Dd (.lst (acc ++ [y]))) vs acc' ∧ acc'.length ≤ i + 1 ∧
              Fin X.K X.mg W σ (relE X.K X.mg) mu1 H1 (lcGo (fun d => bindTg tg d (wipeD l own)) (evC G c) (evE G elt) (xs.drop (i + 1)) acc' st2) Q)
              else (i + 1 ≤ xs.length ∧ ∃ mu2 st2 acc vs, Ext mu1 H1 mu2 H5 ∧ Dd ∈ mu2.fo ∧ Sim X.K X.mg mu2 st2 H5 ∧ H5 Dd = some (.lst vs) ∧ Reps X.K X.mg mu2 H5 vs acc ∧ acc.length ≤ i + 1 ∧
              Fin X.K X.mg W σ (relE X.K X.mg) mu1 H1 (lcGo (fun d => bindTg tg d (wipeD l own)) (evC G c) (evE G elt) (xs.drop (i + 1)) acc st2) Q)) := by
            intro mu5 H5 st5 b e5 S5 ec
            rw [ec] at f2
            have hD5 : Dd ∈ mu5.fo := e5.fo2 _ (e3.fo2 _ hD2)
            have eD5 := e5.keep Dd _ eD3 hDn (fun _ z => by cases z)
            cases b with
            | false =>
              simp only [Bool.false_eq_true, if_false] at f2 ⊢
              exact ⟨hlt, mu5, st5, acc, vs, (e2.trans e3).trans e5, hD5, S5, eD5, (rv.mono e3).mono e5, by omega, f2⟩
            | true =>
              simp only [if_true] at f2 ⊢
              refine he _ _ _ ⟨l2, st5, mu5, hs.1.mono e5, S5, ?_⟩
              cases ee : evE G elt l2 st5 with
              | bad => rw [ee] at f2; exact f2.elim
              | exc c p st => rw [ee] at f2; exact f2.elim
              | ok d st6 =>
                rw [ee] at f2
                simp only at f2
                intro mu6 H6 y e6 S6 r6
                have hDn5 : Dd ∉ mu5.l := (S5.fo Dd hD5).2
                have hD6 : Dd ∈ mu6.fo := e6.fo2 _ hD5
                have eD6 := e6.keep Dd _ eD5 hDn5 (fun _ z => by cases z)
                have rv6 : Reps X.K X.mg mu6 H6 vs acc := ((rv.mono e3).mono e5).mono e6
                have hl := rv6.length
                have E6 : Ext mu1 H1 mu6 H6 := ((e2.trans e3).trans e5).trans e6
                refine ⟨vs, eD6, by omega, hlt, mu6, st6, acc ++ [d], vs ++ [y], ⟨E6.pre, E6.fo, E6.fo2, E6.new, fun a o h n t => ?_⟩, hD6, S6.at_fo hD6, upd_same, (rv6.append (.cons r6 .nil)).at_fo hD6, by rw [List.length_append]; simp; omega, f2⟩
                rw [upd_ne (ne_of_none h hDd)]
                exact E6.keep a o h n t
          refine ht _ _ _ ⟨l2, st2, mu2, hs.1, S3, ?_⟩
          cases ec : evC G c l2 st2 with
          | bad => rw [ec] at f2; exact f2.elim
          | exc c p st => rw [ec] at f2; exact f2.elim
          | ok b st5 =>
            intro mu5 H5 b' e5 S5 r5
            cases r5
            exact fin mu5 H5 st5 b e5 S5 ec
    · have e : i = xs.length := by omega
      subst e
      refine .inl ⟨w1 _ (Nat.le_refl _), ?_⟩
      rw [List.drop_length] at f2
      unfold lcGo at f2
      refine f2 (mu2.drop Dd) H2 (.ref Dd) ⟨e2.pre, fun a h n => e2.fo a (List.mem_filter.mp h).1 n, fun a h => List.mem_filter.mpr ⟨e2.fo2 a h, decide_eq_true ?_⟩, e2.new, e2.keep⟩ (S2.dropFo Dd) (.lst ⟨hv, ?_⟩ (by omega) rv.dropFo)
      · rintro rfl
        obtain ⟨⟨o, ho⟩, _⟩ := S1.fo a h
        rw [hDd] at ho; cases ho
      · rw [Mu.not_ch]
        exact ⟨hDn, fun z => by simp [Mu.drop] at z⟩
/-- nothing is raised out of a block -/
abbrev WF : WX := fun _ _ _ _ => False
theorem sc_nil : PTs X [] (tT X.K X.mg W (evC G .none)) := ⟨fun pins s σ H Q I ⟨l, st, mu, L, S, h⟩ => pts_nil.run pins s σ H Q I (fin_b S h)⟩
theorem sc_one {a : Expr} {x : E} (h : ST X G W a x) : PTs X [a] (tT X.K X.mg W (evC G (.some x))) := ⟨fun pins s σ H Q I ⟨l, st, mu, L, S, q⟩ => by
  rw [evC] at q
  exact (pts_one h).run pins s σ H Q I ⟨l, st, mu, L, S, q⟩⟩
theorem se_lc {elt tg iter : Expr} {ifs : List Expr} {scope : Scope} {own : List (Str × Nat)} {T : Tg} {w : Wk} {c : Oe} {x : E} (hc : X.calm = true) (hN : X.N.Nodup) (hi : PI X tg iter (tG X.K X.mg W (relW X.K X.mg) (evW G w))) (ok : BlkOk X.N X.env.scope scope own)
    (hin : ∀ i ∈ T.ix, i ∈ own.map (·.2))
    (hg : ∀ (s : Shared) (H : Hp) (C : Addr) (cl : List (Str × Addr)) (fp : List Addr), PG (X.blk s H scope (compEnvC scope cl C X.env) fp) tg (tTg X.K X.mg T))
    (ht : ∀ (s : Shared) (H : Hp) (C : Addr) (cl : List (Str × Addr)) (fp : List Addr), PTs (X.blk s H scope (compEnvC scope cl C X.env) fp) ifs (tT X.K X.mg WF (evC G c)))
    (he : ∀ (s : Shared) (H : Hp) (C : Addr) (cl : List (Str × Addr)) (fp : List Addr), PE (X.blk s H scope (compEnvC scope cl C X.env) fp) elt (tE X.K X.mg WF (evE G x))) (hs : ∀ x, foldedSetIterable iter X.env x = pure x) :
    SE X G W (.ListComp elt [⟨tg, iter, ifs, 0⟩] scope pos) (.lc x T w c (own.map (·.2))) :=
  pe_imp (pe_lc hc hN hi ok hg ht he hs) fun σ H Q h => lc_read hin (fun _ _ _ h => h) (fun _ _ _ h => h) h
/-- a call of what a name holds -/
theorem se_calv {i : Nat} {n : Str} {p : Pos} {a : Expr} {es : List Expr} {xs : Es} (hC : ∀ f, G.has f = true → Callee X (G.cal f) f) (tk : Takes X W) (hN : X.N[i]? = some n) (hv : Vis X.env.scope n) (hdb : (n == ("__debug__" : Str)) = false) (hcd : (n == ("__classdict__" : Str)) = false)
    (h : PA X (a :: es) (tA X.K X.mg W (evEs G xs))) (he : starEach (a :: es) X.env = (false, eval a X.env) :: starEach es X.env) (hpl : (backTo pos (starEach es X.env)).any (·.1) = false) : SE X G W (.Call (.Name n p) (a :: es) [] pos) (.calv i xs) := by
  refine ⟨fun pins s σ H Q I ⟨l, st, mu, L, S, q⟩ => ?_⟩
  rw [evE] at q
  cases e : l[i]? with
  | none => simp only [e] at q; exact q.elim
  | some o =>
    cases o with
    | none => simp only [e] at q; exact q.elim
    | some d =>
      cases d with
      | fn f =>
        simp only [e] at q
        split at q
        · rename_i hh
          obtain ⟨v, hv1, rv⟩ := L.at' i _ e
          cases rv with
          | @fn fa _ hm =>
            obtain ⟨fa', fd, ps, k, hm', hk, hb, hr, F⟩ := (hC f hh).ex
            rw [hm] at hm'
            cases hm'
            refine wpAny_Call_Name_kw (thn ((pe_var (pos := p) hN hv hdb hcd).run pins s σ H (fun v H1 => v = .ref fa ∧ H1 = H) I ⟨.ref fa, hv1, rfl, rfl⟩) fun u s1 ⟨v, H1, I1, r1, q1⟩ => ?_)
            obtain ⟨rfl, rfl⟩ := q1
            cases r1
            have q2 := Fin.step (rel := relA X.K X.mg) L S q
            refine PySem.W.callWith_K (h₀ := X.base) I.ok.mod.kin hk (thn (h.run pos pins s1 σ _ _ I1 q2) fun us s2 ⟨vs, H2, I2, r, mu1, ds, st1, e1, L1, S1, rd, f1⟩ => ⟨I2.kIn, ?_⟩) he hpl
            exact run_fnS (E := WE W) F hr hb (passAt tk σ) I2 r ⟨ds, st1, mu1, rd, S1, f1.wish fun _ _ h => h⟩
        · exact q.elim
      | _ => simp only [e] at q; exact q.elim
end

/-! ### statements -/
section
variable {K : PySem.W.Frag} {mg : Str → Option Value} {W : WX} {mu mu' : Mu} {H H' : Hp} {α β : Type} {rel : Mu → Hp → β → α → Prop}
def FinS (K : PySem.W.Frag) (mg : Str → Option Value) (W : WX) (mu : Mu) (H : Hp) (r : RS) (D : Ends) : Prop := match r with
  | .nx l st => ∀ mu' H' s', Ext mu H mu' H' → Sim K mg mu' st H' → RepL K mg mu' H' s' l → D.nx s' H'
  | .rt d st => ∀ mu' H' v, Ext mu H mu' H' → Sim K mg mu' st H' → Rep K mg mu' H' v d → D.rt v H'
  | .bk l st => ∀ mu' H' s', Ext mu H mu' H' → Sim K mg mu' st H' → RepL K mg mu' H' s' l → D.bk s' H'
  | .ct l st => ∀ mu' H' s', Ext mu H mu' H' → Sim K mg mu' st H' → RepL K mg mu' H' s' l → D.ct s' H'
  | .exc c p l st => p = .non ∧ ∀ mu' H' s' C, Ext mu H mu' H' → Sim K mg mu' st H' → RepL K mg mu' H' s' l → mg c = some (.ref C) → W (.ref C) none s' H'
  | .bad => False
def tS (K : PySem.W.Frag) (mg : Str → Option Value) (W : WX) (m : Lo → So → RS) : TS := fun D s H => ∃ l st mu, RepL K mg mu H s l ∧ Sim K mg mu st H ∧ FinS K mg W mu H (m l st) D
theorem FinS.ext {r : RS} {D : Ends} (h : FinS K mg W mu H r D) (e : Ext mu H mu' H') : FinS K mg W mu' H' r D := by
  cases r with
  | nx l st => exact fun mu2 H2 s' f S L => h mu2 H2 s' (e.trans f) S L
  | rt d st => exact fun mu2 H2 s' f S L => h mu2 H2 s' (e.trans f) S L
  | bk l st => exact fun mu2 H2 s' f S L => h mu2 H2 s' (e.trans f) S L
  | ct l st => exact fun mu2 H2 s' f S L => h mu2 H2 s' (e.trans f) S L
  | exc c p l st => exact ⟨h.1, fun mu2 H2 s' C f S L g => h.2 mu2 H2 s' C (e.trans f) S L g⟩
  | bad => exact h
theorem FinS.of {s : L2.St} {l : Lo} {st : So} {m : Lo → So → R α} {f : α → So → RS} {D : Ends} (L : RepL K mg mu H s l) (S : Sim K mg mu st H) (h : FinS K mg W mu H (RS.of l (m l st) f) D) :
    tG K mg W rel m s H (fun b H1 => ∃ mu1 a st1, Ext mu H mu1 H1 ∧ RepL K mg mu1 H1 s l ∧ Sim K mg mu1 st1 H1 ∧ rel mu1 H1 b a ∧ FinS K mg W mu1 H1 (f a st1) D) := by
  refine ⟨l, st, mu, L, S, ?_⟩
  cases e : m l st with
  | ok a st1 =>
    rw [e] at h
    exact fun mu1 H1 b e1 S1 r1 => ⟨mu1, a, st1, e1, L.mono e1, S1, r1, h.ext e1⟩
  | exc c p st1 =>
    rw [e] at h
    exact ⟨h.1, fun mu1 H1 C e1 S1 g => h.2 mu1 H1 s C e1 S1 (L.mono e1) g⟩
  | bad => rw [e] at h; exact h
end
section
variable {X : Cx} {G : Gm} {W : WX} {pos : Pos} {a b : Expr} {x y z : E}
abbrev SS (X : Cx) (G : Gm) (W : WX) (st : Stmt) (m : S) : Prop := PS X st (tS X.K X.mg W (evS G m))
abbrev SSs (X : Cx) (G : Gm) (W : WX) (st : List Stmt) (m : Ss) : Prop := PSs X st (tS X.K X.mg W (evSs G m))
theorem ss_ret (h : SE X G W a x) : SS X G W (.Return (some a) pos) (.ret x) :=
  ps_imp (ps_ret h) fun D σ H ⟨l, st, mu, L, S, q⟩ => by
    rw [evS] at q
    exact (FinS.of (rel := relE X.K X.mg) L S q).mono fun v H1 ⟨mu1, d, st1, e1, L1, S1, rd, f⟩ => f mu1 H1 v (.refl _ _) S1 rd
theorem ss_retN : SS X G W (.Return none pos) .retN :=
  ps_imp ps_retN fun D σ H ⟨l, st, mu, L, S, q⟩ => q mu H .non (.refl _ _) S .non
theorem ss_expr (h : SE X G W a x) (hs : swapsWith a none pos.line X.env = pure false) : SS X G W (.Expr a pos) (.expr x) :=
  ps_imp (ps_expr h hs) fun D σ H ⟨l, st, mu, L, S, q⟩ => by
    rw [evS] at q
    exact (FinS.of (rel := relE X.K X.mg) L S q).mono fun v H1 ⟨mu1, d, st1, e1, L1, S1, rd, f⟩ => f mu1 H1 σ (.refl _ _) S1 L1
theorem ss_doc {t : Str} {j : Nat} {p : Pos} : SS X G W (.Expr (.Constant (.str t) j p) pos) .pass :=
  ps_imp ps_doc fun D σ H ⟨l, st, mu, L, S, q⟩ => q mu H σ (.refl _ _) S L
theorem ss_pass : SS X G W (.Pass pos) .pass :=
  ps_imp ps_pass fun D σ H ⟨l, st, mu, L, S, q⟩ => q mu H σ (.refl _ _) S L
theorem ss_brk : SS X G W (.Break pos) .brk :=
  ps_imp ps_break fun D σ H ⟨l, st, mu, L, S, q⟩ => q mu H σ (.refl _ _) S L
theorem ss_cnt : SS X G W (.Continue pos) .cnt :=
  ps_imp ps_continue fun D σ H ⟨l, st, mu, L, S, q⟩ => q mu H σ (.refl _ _) S L
theorem ss_set {i : Nat} {n : Str} {p : Pos} (hN : X.N.Nodup) (hn : Stor X i n) (h : SE X G W a x) (hs : swapsWith a (some (.Name n p)) pos.line X.env = pure false) : SS X G W (.Assign [.Name n p] a pos) (.set i x) :=
  ps_imp (ps_set hN hn.ix hn.loc h hs hn.fn) fun D σ H ⟨l, st, mu, L, S, q⟩ => by
    rw [evS] at q
    exact (FinS.of (rel := relE X.K X.mg) L S q).mono fun v H1 ⟨mu1, d, st1, e1, L1, S1, rd, f⟩ => f mu1 H1 _ (.refl _ _) S1 (L1.set i rd)
theorem ss_setLc {i : Nat} {n : Str} {p spos : Pos} {elt tg iter : Expr} {ifs : List Expr} {scope : Scope} {own : List (Str × Nat)} {T : Tg} {w : Wk} {c : Oe} (hc : X.calm = true) (hN : X.N.Nodup) (hn : X.N[i]? = some n) (hl : X.env.scope.names.lookup n = some .local)
    (hsw : swapsWith (.ListComp elt [⟨tg, iter, ifs, 0⟩] scope pos) (some (.Name n p)) spos.line X.env = pure true)
    (hi : PI X tg iter (tG X.K X.mg W (relW X.K X.mg) (evW G w))) (ok : BlkOk X.N X.env.scope scope own) (hin : ∀ i ∈ T.ix, i ∈ own.map (·.2))
    (hg : ∀ (s : Shared) (H : Hp) (C : Addr) (cl : List (Str × Addr)) (fp : List Addr), PG (X.blk s H scope (compEnvC scope cl C X.env) fp) tg (tTg X.K X.mg T))
    (ht : ∀ (s : Shared) (H : Hp) (C : Addr) (cl : List (Str × Addr)) (fp : List Addr), PTs (X.blk s H scope (compEnvC scope cl C X.env) fp) ifs (tT X.K X.mg WF (evC G c)))
    (he : ∀ (s : Shared) (H : Hp) (C : Addr) (cl : List (Str × Addr)) (fp : List Addr), PE (X.blk s H scope (compEnvC scope cl C X.env) fp) elt (tE X.K X.mg WF (evE G x))) (hs : ∀ x, foldedSetIterable iter X.env x = pure x) :
    SS X G W (.Assign [.Name n p] (.ListComp elt [⟨tg, iter, ifs, 0⟩] scope pos) spos) (.set i (.lc x T w c (own.map (·.2)))) :=
  ps_imp (ps_setLc hc hN hn hl hsw hi ok hg ht he hs) fun D σ H ⟨l, st, mu, L, S, q⟩ => by
    rw [evS] at q
    refine lc_read hin (fun _ _ _ h => h) (fun _ _ _ h => h) ?_
    exact (FinS.of (rel := relE X.K X.mg) L S q).mono fun v H1 ⟨mu1, d, st1, e1, L1, S1, rd, f⟩ => f mu1 H1 _ (.refl _ _) S1 (L1.set i rd)
theorem ss_setT {is : List Nat} {xs : List (Str × Pos)} {k : Nat} {p : Pos} (hN : X.N.Nodup) (hc : X.calm = true) (hl : is.length = xs.length) (hn : ∀ p ∈ is.zip xs, Stor X p.1 p.2.1) (h : SE X G W a x)
    (hs : swapsWithSole [.Tuple (xs.map fun p => .Name p.1 p.2) k p] a pos.line X.env = pure false) (hw : swappedStores [.Tuple (xs.map fun p => .Name p.1 p.2) k p] a X.env = pure none) :
    SS X G W (.Assign [.Tuple (xs.map fun p => .Name p.1 p.2) k p] a pos) (.setT is x) :=
  ps_imp (ps_asg h (pg_tuD hN hc hl hn) hs hw rfl) fun D σ H ⟨l, st, mu, L, S, q⟩ => by
    rw [evS] at q
    refine (FinS.of (rel := relE X.K X.mg) L S q).mono fun v H1 ⟨mu1, d, st1, e1, L1, S1, rd, f⟩ => ?_
    cases e : bindTg (.tu is) d l with
    | none => simp only [e] at f; exact f.elim
    | some l' =>
      simp only [e] at f
      exact ⟨l, st1, mu1, d, l', L1, S1, rd, e, fun s' hs => f mu1 H1 s' (.refl _ _) S1 hs.1⟩
theorem ss_par {i j : Nat} {n m : Str} {pn pm pt pt2 : Pos} {kt k2 : Nat} (hc : X.calm = true) (hN : X.N.Nodup) (hi : X.N[i]? = some n) (hj : X.N[j]? = some m) (hij : i ≠ j) (hx : X.env.scope.names.lookup n = some .local) (hy : X.env.scope.names.lookup m = some .local)
    (h1 : SE X G W a x) (h2 : SE X G W b y) (he : starEach [a, b] X.env = (false, eval a X.env) :: starEach [b] X.env) (he2 : starEach [b] X.env = (false, eval b X.env) :: starEach [] X.env)
    (hw : swappedStores [.Tuple [.Name n pn, .Name m pm] kt pt] (.Tuple [a, b] k2 pt2) X.env = pure (some [n, m])) :
    SS X G W (.Assign [.Tuple [.Name n pn, .Name m pm] kt pt] (.Tuple [a, b] k2 pt2) pos) (.par i j x y) :=
  ps_imp (ps_par hc hN hi hj hij hx hy (pa_cons h1 (pa_cons h2 pa_nil he2) he) hw rfl) fun D σ H ⟨l, st, mu, L, S, q⟩ => by
    rw [evS] at q
    refine (FinS.of (rel := relE X.K X.mg) L S q).mono fun v H1 ⟨mu1, d, st1, e1, L1, S1, rd, f⟩ => ?_
    refine (FinS.of (rel := relE X.K X.mg) L1 S1 f).mono fun w H2 ⟨mu2, d2, st2, e2, L2, S2, rd2, f2⟩ => ?_
    exact ⟨v, w, rfl, f2 mu2 H2 _ (.refl _ _) S2 ((L2.set i (rd.mono e2)).set j rd2)⟩
theorem ss_par3 {i j k : Nat} {n m r : Str} {pn pm pr pt pt2 : Pos} {kt k2 : Nat} {e1 e2 e3 : Expr} {w1 w2 w3 : E} (hc : X.calm = true) (hN : X.N.Nodup) (hi : X.N[i]? = some n) (hj : X.N[j]? = some m) (hk : X.N[k]? = some r) (hij : i ≠ j) (hik : i ≠ k) (hjk : j ≠ k)
    (hx : X.env.scope.names.lookup n = some .local) (hy : X.env.scope.names.lookup m = some .local) (hz : X.env.scope.names.lookup r = some .local)
    (h1 : SE X G W e1 w1) (h2 : SE X G W e2 w2) (h3 : SE X G W e3 w3) (s1 : starEach [e1, e2, e3] X.env = (false, eval e1 X.env) :: starEach [e2, e3] X.env) (s2 : starEach [e2, e3] X.env = (false, eval e2 X.env) :: starEach [e3] X.env) (s3 : starEach [e3] X.env = (false, eval e3 X.env) :: starEach [] X.env)
    (hw : swappedStores [.Tuple [.Name n pn, .Name m pm, .Name r pr] kt pt] (.Tuple [e1, e2, e3] k2 pt2) X.env = pure (some [n, m, r])) :
    SS X G W (.Assign [.Tuple [.Name n pn, .Name m pm, .Name r pr] kt pt] (.Tuple [e1, e2, e3] k2 pt2) pos) (.par3 i j k w1 w2 w3) :=
  ps_imp (ps_par3 hc hN hi hj hk hij hik hjk hx hy hz (pa_cons h1 (pa_cons h2 (pa_cons h3 pa_nil s3) s2) s1) hw rfl) fun D σ H ⟨l, st, mu, L, S, q⟩ => by
    rw [evS] at q
    refine (FinS.of (rel := relE X.K X.mg) L S q).mono fun v H1 ⟨mu1, d, st1, g1, L1, S1, rd, f⟩ => ?_
    refine (FinS.of (rel := relE X.K X.mg) L1 S1 f).mono fun w H2 ⟨mu2, d2, st2, g2, L2, S2, rd2, f2⟩ => ?_
    refine (FinS.of (rel := relE X.K X.mg) L2 S2 f2).mono fun u H3 ⟨mu3, d3, st3, g3, L3, S3, rd3, f3⟩ => ?_
    exact ⟨v, w, u, rfl, f3 mu3 H3 _ (.refl _ _) S3 (((L3.set i ((rd.mono g2).mono g3)).set j (rd2.mono g3)).set k rd3)⟩
theorem ss_sub {o i v : Expr} {p : Pos} (hu : X.A.units + 200 < cLine) (h1 : SE X G W o x) (h2 : SE X G W i y) (h3 : SE X G W v z) (hs : swapsWithSole [.Subscript o i p] v pos.line X.env = pure false) (hw : swappedStores [.Subscript o i p] v X.env = pure none)
    (ha : ∀ v, assign (.Subscript o i p) X.env v = (do
      let ov ← holding [v] (eval o X.env)
      let iv ← holding [v, ov] (eval i X.env)
      standAt p
      holding [v, ov, iv] (setItem ov iv v)
      release [v, ov, iv] [])) : SS X G W (.Assign [.Subscript o i p] v pos) (.sub x y z) :=
  ps_imp (ps_asg h3 (pg_sub h1 h2 (set_both hu) ha) hs hw rfl) fun D σ H ⟨l, st, mu, L, S, q⟩ => by
    rw [evS] at q
    refine (FinS.of (rel := relE X.K X.mg) L S q).mono fun w3 H1 ⟨mu1, d3, st1, e1, L1, S1, rd3, f⟩ => ?_
    refine (FinS.of (rel := relE X.K X.mg) L1 S1 f).mono fun w1 H2 ⟨mu2, d1, st2, e2, L2, S2, rd1, f2⟩ => ?_
    refine (FinS.of (rel := relE X.K X.mg) L2 S2 f2).mono fun w2 H3 ⟨mu3, d2, st3, e3, L3, S3, rd2, f3⟩ => ?_
    have rd1 := rd1.mono e3
    have rd3 := (rd3.mono e2).mono e3
    cases rd1 with
    | @ref ad n hm =>
      have f3 : FinS X.K X.mg W mu3 H3 (match putOb n d2 d3 st3 with
        | some st => RS.nx l st
        | none => RS.bad) D := f3
      have hlt : n < st3.length := by rw [← S3.len]; exact (List.getElem?_eq_some_iff.mp hm).1
      unfold putOb at f3
      cases eo : st3[n] with
      | lst xs =>
        have eo' : st3[n]? = some (.lst xs) := by rw [List.getElem?_eq_getElem hlt, eo]
        rw [eo'] at f3
        cases rd2 with
        | int k =>
          simp only at f3
          cases e : setOb n k d3 st3 with
          | none => simp only [e] at f3; exact f3.elim
          | some st4 =>
            simp only [e] at f3
            unfold setOb at e
            rw [eo'] at e
            obtain ⟨vs, h1, h2, h3⟩ := S3.lst hm eo'
            obtain ⟨j, hj, e4⟩ := Option.map_eq_some_iff.mp e
            subst e4
            refine .inl ⟨ad, vs, k, j, rfl, rfl, h1, by rw [h3.length]; exact hj, ?_⟩
            have E3 : Ext mu3 H3 mu3 (upd H3 ad (.lst (vs.set j w3))) := ext_set S3 hm
            exact f3 mu3 _ σ E3 (S3.set hm (by rw [List.length_set]; exact h2) (h3.set rd3 j)) (L3.mono E3)
        | _ => exact f3.elim
      | dct ks ds =>
        have eo' : st3[n]? = some (.dct ks ds) := by rw [List.getElem?_eq_getElem hlt, eo]
        rw [eo'] at f3
        simp only at f3
        cases ek : keyD d2 with
        | none => rw [ek] at f3; exact f3.elim
        | some k =>
          rw [ek] at f3
          simp only at f3
          by_cases hz : ks.length < sizeLine
          · rw [if_pos hz] at f3
            obtain ⟨vs, h1, h2, h3, h4⟩ := S3.ob n ad _ hm eo'
            have ew := key_rep rd2 ek
            subst ew
            have E3 : Ext mu3 H3 mu3 (upd H3 ad (.dK (putK (ks.zip vs) k w3))) := ext_set S3 hm
            refine .inr ⟨ad, _, rfl, .k h1 (by rw [List.length_zip]; omega), f3 mu3 _ σ E3 (S3.setO hm (dput_rep S3 hm h3 (key_good rd2 ek) hz h4 rd3)) (L3.mono E3)⟩
          · rw [if_neg hz] at f3; exact f3.elim
      | ins c fs ds =>
        have eo' : st3[n]? = some (.ins c fs ds) := by rw [List.getElem?_eq_getElem hlt, eo]
        rw [eo'] at f3
        exact f3.elim
    | _ => exact f3.elim
theorem ss_ite {s1 s2 : List Stmt} {p q : Ss} (h : ST X G W a x) (h1 : SSs X G W s1 p) (h2 : SSs X G W s2 q) : SS X G W (.If a s1 s2 pos) (.ite x p q) :=
  ps_imp (ps_if h h1 h2) fun D σ H ⟨l, st, mu, L, S, q⟩ => by
    rw [evS] at q
    refine (FinS.of (rel := relT) L S q).mono fun k H1 ⟨mu1, k', st1, e1, L1, S1, r1, f⟩ => ?_
    cases r1
    cases k with
    | true => exact ⟨l, st1, mu1, L1, S1, f⟩
    | false => exact ⟨l, st1, mu1, L1, S1, f⟩
theorem finS_body {mu : Mu} {H : Hp} {r : RS} {f : Lo → So → RS} {D : Ends} {N : L2.St → Hp → Prop}
    (h : FinS X.K X.mg W mu H (match r with
      | .nx l2 st2 => f l2 st2
      | .ct l2 st2 => f l2 st2
      | .bk l2 st2 => .nx l2 st2
      | r => r) D) (hN : ∀ l st mu' H' s', Ext mu H mu' H' → Sim X.K X.mg mu' st H' → RepL X.K X.mg mu' H' s' l → FinS X.K X.mg W mu' H' (f l st) D → N s' H') : FinS X.K X.mg W mu H r { D with nx := N, ct := N, bk := D.nx } := by
  cases r with
  | nx l st => exact fun mu' H' s' e S L => hN l st mu' H' s' e S L (h.ext e)
  | ct l st => exact fun mu' H' s' e S L => hN l st mu' H' s' e S L (h.ext e)
  | bk l st => exact h
  | rt d st => exact h
  | exc c p l st => exact h
  | bad => exact h
theorem ss_whl {body : List Stmt} {p : Ss} (hp : PassesOwn (model X.prog X.w) X.A X.env X.xe) (h : ST X G W a x) (h1 : SSs X G W body p) : SS X G W (.While a body [] pos) (.whl x p) :=
  ps_imp (ps_while hp h h1) fun D σ H ⟨l, st, mu, L, S, q⟩ => by
    rw [evS] at q
    refine ⟨fun n σ H => ∃ l st mu, RepL X.K X.mg mu H σ l ∧ Sim X.K X.mg mu st H ∧ FinS X.K X.mg W mu H (whileGo (evB G x) (evSs G p) n l st) D, ⟨turns, l, st, mu, L, S, q⟩, ?_⟩
    rintro n σ H ⟨l, st, mu, L, S, q⟩
    cases n with
    | zero => exact q.elim
    | succ n =>
      unfold whileGo at q
      refine (FinS.of (rel := relT) L S q).mono fun k H1 ⟨mu1, k', st1, e1, L1, S1, r1, f⟩ => ?_
      cases r1
      cases k with
      | false => exact f mu1 H1 σ (.refl _ _) S1 L1
      | true =>
        rw [if_pos rfl]
        refine ⟨fun σ H => ∃ l st mu, RepL X.K X.mg mu H σ l ∧ Sim X.K X.mg mu st H ∧ FinS X.K X.mg W mu H (whileGo (evB G x) (evSs G p) n l st) D, fun σ' H' h => ⟨n, Nat.lt_succ_self n, h⟩, l, st1, mu1, L1, S1, ?_⟩
        exact finS_body f fun l st mu' H' s' e S L g => ⟨l, st, mu', L, S, g⟩
theorem ss_for {tg iter : Expr} {body : List Stmt} {T : Tg} {w : Wk} {p : Ss} (hp : PassesOwn (model X.prog X.w) X.A X.env X.xe) (hc : X.calm = true) (hi : PI X tg iter (tG X.K X.mg W (relW X.K X.mg) (evW G w))) (hg : PG X tg (tTg X.K X.mg T)) (h1 : SSs X G W body p)
    (hs : ∀ x, foldedSetIterable iter X.env x = pure x) : SS X G W (.For tg iter body [] pos) (.for T w p) :=
  ps_imp (ps_for hp hc hi hg h1 hs) fun D σ H ⟨l, st, mu, L, S, q⟩ => by
    rw [evS] at q
    refine (FinS.of (rel := relW X.K X.mg) L S q).mono fun J H1 ⟨mu1, xs, st1, e1, L1, S1, wk, f⟩ => ?_
    refine ⟨fun i m σ H => m = xs.length - i ∧ i ≤ xs.length ∧ ∃ l st mu, Ext mu1 H1 mu H ∧ RepL X.K X.mg mu H σ l ∧ Sim X.K X.mg mu st H ∧ FinS X.K X.mg W mu H (forGo (bindTg T) (evSs G p) (xs.drop i) l st) D, ⟨_, rfl, Nat.zero_le _, l, st1, mu1, .refl _ _, L1, S1, f⟩, ?_⟩
    rintro i m σ H2 ⟨rfl, hi, l2, st2, mu2, e2, L2, S2, f2⟩
    obtain ⟨w1, w2⟩ := wk.2 mu2 H2 e2.weak ⟨_, S2⟩
    by_cases hlt : i < xs.length
    · obtain ⟨g1, g2⟩ := w2 i xs[i] (List.getElem?_eq_getElem hlt)
      refine .inr ⟨g1, fun σ H => i + 1 ≤ xs.length ∧ ∃ l st mu, Ext mu1 H1 mu H ∧ RepL X.K X.mg mu H σ l ∧ Sim X.K X.mg mu st H ∧ FinS X.K X.mg W mu H (forGo (bindTg T) (evSs G p) (xs.drop (i + 1)) l st) D, fun σ' H' h => ⟨xs.length - (i + 1), by omega, rfl, h⟩, fun x H3 y => ?_⟩
      obtain ⟨e3, r3, s3⟩ := g2 x H3 y
      rw [List.drop_eq_getElem_cons hlt] at f2
      unfold forGo at f2
      cases eb : bindTg T xs[i] l2 with
      | none => simp only [eb] at f2; exact f2.elim
      | some l3 =>
        simp only [eb] at f2
        refine ⟨l2, st2, mu2, xs[i], l3, L2.mono e3, s3 st2 S2, r3, eb, fun s' hs => ⟨l3, st2, mu2, hs.1, s3 st2 S2, ?_⟩⟩
        exact finS_body (f2.ext e3) fun l st mu' H' s' e S L g => ⟨hlt, l, st, mu', (e2.trans e3).trans e, L, S, g⟩
    · have e : i = xs.length := by omega
      subst e
      refine .inl ⟨w1 _ (Nat.le_refl _), ?_⟩
      rw [List.drop_length] at f2
      exact f2 mu2 H2 σ (.refl _ _) S2 L2
theorem se_app {o e : Expr} {a b : E} {apos cpos : Pos} (h1 : SE X G W o a) (h2 : SE X G W e b) (hbase : attributeBase o "append" X.env (eval o X.env) = eval o X.env) (hline : (apos.endLine == cpos.line) = true)
    (hs : starEach [e] X.env = [(false, eval e X.env)])
    (hfew : ((backTo cpos (starEach [e] X.env)).all (fun x => !x.1) && (backToKw cpos (keywordEach [] X.env)).all (fun x => x.1.isSome) && decide (([e] : List Expr).length + ([] : List Keyword).length + (if ([] : List Keyword).isEmpty then 0 else 1) < 30)) = true) :
    SE X G W (.Call (.Attribute o "append" apos) [e] [] cpos) (.app a b) :=
  pe_imp (pe_bm (to := tE X.K X.mg W (evE G a)) (t := tA X.K X.mg W (evEs G (.cons b .nil))) PySem.F.plainAttrs_list PySem.F.slot_list_append PySem.F.type_list_append mt_append h1 (sa_cons h2 sa_nil hs) hbase hfew hline hs rfl) fun σ H Q ⟨l, st, mu, L, S, h⟩ => by
    rw [evE] at h
    refine (Fin.step (rel := relE X.K X.mg) L S h).mono fun x H1 ⟨mu1, d, st1, e1, L1, S1, rd, f⟩ => ?_
    cases rd with
    | @ref ad n hm =>
      have f : Fin X.K X.mg W σ (relE X.K X.mg) mu1 H1 (if isLstD (.ref n) st1 then (evE G b l st1).bind fun y st => appD (.ref n) y st else .bad) Q := f
      have hlt1 : n < st1.length := by rw [← S1.len]; exact (List.getElem?_eq_some_iff.mp hm).1
      cases eo : st1[n] with
      | lst xs =>
        have eo' : st1[n]? = some (.lst xs) := by rw [List.getElem?_eq_getElem hlt1, eo]
        rw [show isLstD (.ref n) st1 = true from by simp only [isLstD, eo'], if_pos rfl] at f
        obtain ⟨vs, hv, hz, rv⟩ := S1.ob n ad _ hm eo'
        refine ⟨.inl ⟨rfl, vs, .inl (.inl hv)⟩, ?_⟩
        refine ⟨l, st1, mu1, L1, S1, ?_⟩
        cases hb : evE G b l st1 with
        | bad => rw [hb] at f; exact f.elim
        | exc c p st2 =>
          rw [hb] at f
          rw [evEs, hb]
          exact ⟨f.1, f.2⟩
        | ok d st2 =>
          rw [hb] at f
          rw [evEs, hb]
          intro mu2 H2 ws e2 S2 r2
          cases r2 with
          | @cons w _ _ _ rw1 rw2 =>
            cases rw2
            have hm2 := e2.mem hm
            have hlt2 : n < st2.length := by rw [← S2.len]; exact (List.getElem?_eq_some_iff.mp hm2).1
            have f : Fin X.K X.mg W σ (relE X.K X.mg) mu1 H1 (appD (.ref n) d st2) Q := f
            cases eo2 : st2[n] with
            | lst ys =>
              have eo2' : st2[n]? = some (.lst ys) := by rw [List.getElem?_eq_getElem hlt2, eo2]
              simp only [appD, eo2'] at f
              by_cases hy : ys.length < sizeLine
              · rw [if_pos hy] at f
                obtain ⟨vs2, hv2, hz2, rv2⟩ := S2.ob n ad _ hm2 eo2'
                have E3 : Ext mu2 H2 mu2 (upd H2 ad (.lst (vs2 ++ [w]))) := ext_set S2 hm2
                refine ⟨ad, vs2, w, rfl, rfl, hv2, by rw [rv2.length]; exact hy, f mu2 _ .non (e2.trans E3) (S2.set hm2 (by rw [List.length_append]; exact hy) (rv2.append (.cons rw1 .nil))) .non⟩
              · rw [if_neg hy] at f; exact f.elim
            | dct ks ds =>
              have eo2' : st2[n]? = some (.dct ks ds) := by rw [List.getElem?_eq_getElem hlt2, eo2]
              simp only [appD, eo2'] at f; exact f.elim
            | ins c fs ds =>
              have eo2' : st2[n]? = some (.ins c fs ds) := by rw [List.getElem?_eq_getElem hlt2, eo2]
              simp only [appD, eo2'] at f; exact f.elim
      | dct ks ds =>
        have eo' : st1[n]? = some (.dct ks ds) := by rw [List.getElem?_eq_getElem hlt1, eo]
        simp only [isLstD, eo'] at f; exact f.elim
      | ins c fs ds =>
        have eo' : st1[n]? = some (.ins c fs ds) := by rw [List.getElem?_eq_getElem hlt1, eo]
        simp only [isLstD, eo'] at f; exact f.elim
    | _ => exact f.elim
theorem se_mdc : SE X G W (.Dict [] [] pos) .mdc :=
  pe_imp pe_dnewK fun σ H Q ⟨l, st, mu, L, S, h⟩ => by
    intro p hp
    have h : Fin X.K X.mg W σ (relE X.K X.mg) mu H (.ok (.ref st.length) (st ++ [.dct [] []])) Q := h
    refine h (mu.add p) _ _ (ext_mut S hp) (S.mutO hp ⟨[], upd_same, Nat.zero_le _, ⟨rfl, fun k hk => by cases hk⟩, .nil⟩) (.ref ?_)
    show (mu.l ++ [p])[st.length]? = some p
    rw [← S.len, List.getElem?_concat_length]
/-- an error class of the package without __init__ -/
structure ExcOk (X : Cx) (c : Str) : Prop where
  ex : ∃ C, X.mg c = some (.ref C) ∧ PySem.W.excIn X.K C [.type "ValueError", .type "Exception", .type "BaseException", .type "object"] "ValueError.__new__" = true ∧ PySem.W.keepIn X.K (.ref C) = true ∧
    PySem.W.subIn X.K (.ref C) (.type "BaseException") = some true ∧ PySem.W.typeIn X.K (.ref C) = some (.type "type")
theorem ss_raise {c t : Str} {j : Nat} {p p2 p3 : Pos} (hE : ExcOk X c) (hc : X.calm = true) (tk : Takes X W) (hg : Gl X c) (hdb : (c == ("__debug__" : Str)) = false) : SS X G W (.Raise (some (.Call (.Name c p) [.Constant (.str t) j p2] [] p3)) none pos) (.raise c) := by
  obtain ⟨C, gC, xC, kC, bC, tC⟩ := hE.ex
  exact ps_imp (ps_raise hc tk (pmk_own PySem.F.excBase_ValueError xC gC kC (raises_own bC tC) hg hdb)) fun D σ H ⟨l, st, mu, L, S, q⟩ => q.2 mu H σ C (.refl _ _) S L gC
theorem sss_nil : SSs X G W [] .nil :=
  pss_imp pss_nil fun D σ H ⟨l, st, mu, L, S, q⟩ => q mu H σ (.refl _ _) S L
theorem sss_cons {s1 : Stmt} {s2 : List Stmt} {p : S} {q : Ss} (h1 : SS X G W s1 p) (h2 : SSs X G W s2 q) : SSs X G W (s1 :: s2) (.cons p q) :=
  pss_imp (pss_cons h1 h2) fun D σ H ⟨l, st, mu, L, S, f⟩ => by
    rw [evSs] at f
    refine ⟨l, st, mu, L, S, ?_⟩
    cases e : evS G p l st with
    | nx l1 st1 =>
      rw [e] at f
      exact fun mu' H' s' e S L => ⟨l1, st1, mu', L, S, FinS.ext (r := evSs G q l1 st1) f e⟩
    | rt d st1 => rw [e] at f; exact f
    | bk l1 st1 => rw [e] at f; exact f
    | ct l1 st1 => rw [e] at f; exact f
    | exc c p l1 st1 => rw [e] at f; exact f
    | bad => rw [e] at f; exact f
end
end CP

set_option Elab.async false
set_option linter.all false
set_option maxRecDepth 100000
set_option autoImplicit false
/-! CpLc2: comprehensions of two clauses. -/
namespace CP
open PySem PySem.Spec PyProof.Rows L2
section
variable {K : PySem.W.Frag} {mg : Str → Option Value} {mu mu' mu1 mu2 : Mu} {H H' H1 H2 : Hp}
theorem Ext0.step (e : Ext0 mu H mu1 H1) (f : Ext mu1 H1 mu2 H2) : Ext0 mu H mu2 H2 := e.trans0 f.weak
theorem Ext.at_fo {D : Addr} {o : HO} (e : Ext mu H mu' H') (hD : H D = none) : Ext mu H mu' (upd H' D o) := ⟨e.pre, e.fo, e.fo2, e.new, fun a o h n t => by
  rw [upd_ne (ne_of_none h hD)]
  exact e.keep a o h n t⟩
theorem Ext0.at_fo {D : Addr} {o : HO} (e : Ext0 mu H mu' H') (hD : D ∈ mu.fo) : Ext0 mu H mu' (upd H' D o) := ⟨e.pre, e.fo, e.new, fun a o h n t => by
  have ne : a ≠ D := fun z => n (by rw [z]; exact List.mem_append_right _ hD)
  rw [upd_ne ne]
  exact e.keep a o h n t⟩
end
section
variable {X : Cx} {G : Gm} {W : WX} {pos : Pos}
theorem lc2_read {tg tg1 : Tg} {w w1 : Wk} {c c1 : Oe} {elt : E} {own : List Nat} (hin : ∀ i ∈ tg.ix, i ∈ own) {σ : L2.St} {H : Hp} {Q : VK} (h : tE X.K X.mg W (evE G (.lc2 elt tg w c own tg1 w1 c1)) σ H Q) :
    tLc2 (tG X.K X.mg W (relW X.K X.mg) (evW G w)) (tTg X.K X.mg tg) (tT X.K X.mg WF (evC G c)) (tG X.K X.mg WF (relW X.K X.mg) (evW G w1)) (tTg X.K X.mg tg1) (tT X.K X.mg WF (evC G c1)) (tE X.K X.mg WF (evE G elt)) own tg1.ix σ H Q := by
  obtain ⟨l, st, mu, L, S, h⟩ := h
  rw [evE] at h
  refine (Fin.step (rel := relW X.K X.mg) L S h).mono fun J H1 ⟨mu1, xs, st1, e1, L1, S1, wk, f⟩ => ?_
  intro Dd hDd
  have hz := wk.1
  clear h
  obtain ⟨go, hgo⟩ : ∃ go, go = fun (l : Lo) (ys acc : List D) (st : So) => lcGo (fun d => bindTg tg1 d (wipeD l tg1.ix)) (evC G c1) (evE G elt) ys acc st := ⟨_, rfl⟩
  rw [← hgo] at f
  obtain ⟨out, hout⟩ : ∃ out : Nat → List D → So → R D, out = fun i acc st => lcGo2 (fun d => bindTg tg d (wipeD l own)) (evC G c) (evW G w1) go (xs.drop i) acc st := ⟨_, rfl⟩
  refine ⟨fun i m H' => m = xs.length - i ∧ i ≤ xs.length ∧ ∃ mu2 st2 acc vs, Ext mu1 H1 mu2 H' ∧ Dd ∈ mu2.fo ∧ Sim X.K X.mg mu2 st2 H' ∧ H' Dd = some (.lst vs) ∧ Reps X.K X.mg mu2 H' vs acc ∧ acc.length ≤ sizeLine ∧
    Fin X.K X.mg W σ (relE X.K X.mg) mu1 H1 (out i acc st2) Q, ?_, ?_⟩
  · refine ⟨_, rfl, Nat.zero_le _, mu1.push Dd, st1, [], [], ext_push hDd, List.mem_cons_self, S1.push hDd, upd_same, .nil, Nat.zero_le _, ?_⟩
    rw [hout]
    exact f
  · rintro i m H2 ⟨rfl, hi, mu2, st2, acc, vs, e2, hD2, S2, hv, rv, hacc, f2⟩
    obtain ⟨w1', w2⟩ := wk.2 mu2 H2 e2.weak ⟨_, S2⟩
    have hDn : Dd ∉ mu2.l := (S2.fo Dd hD2).2
    by_cases hlt : i < xs.length
    · obtain ⟨g1, g2⟩ := w2 i xs[i] (List.getElem?_eq_getElem hlt)
      refine .inr ⟨g1, fun H' => i + 1 ≤ xs.length ∧ ∃ mu2 st2 acc vs, Ext mu1 H1 mu2 H' ∧ Dd ∈ mu2.fo ∧ Sim X.K X.mg mu2 st2 H' ∧ H' Dd = some (.lst vs) ∧ Reps X.K X.mg mu2 H' vs acc ∧ acc.length ≤ sizeLine ∧
        Fin X.K X.mg W σ (relE X.K X.mg) mu1 H1 (out (i + 1) acc st2) Q, fun H' h => ⟨xs.length - (i + 1), by omega, rfl, h⟩, fun x H3 y => ?_⟩
      obtain ⟨e3, r3, s3⟩ := g2 x H3 y
      have S3 := s3 st2 S2
      have eD3 := e3.keep Dd _ hv hDn (fun _ z => by cases z)
      rw [hout] at f2
      simp only at f2
      rw [List.drop_eq_getElem_cons hlt] at f2
      unfold lcGo2 at f2
      cases eb : bindTg tg xs[i] (wipeD l own) with
      | none => simp only [eb] at f2; exact f2.elim
      | some l2 =>
        simp only [eb] at f2
        have L3 : RepL X.K X.mg mu2 H3 (wipe σ own) (wipeD l own) := ((L1.mono e2).mono e3).wipe own
        refine ⟨wipeD l own, st2, mu2, xs[i], l2, L3, S3, r3, eb, fun s' hs => ⟨?_, ?_⟩⟩
        · rw [hs.2 own hin, wipe_wipe]
        · refine ⟨l2, st2, mu2, hs.1, S3, ?_⟩
          cases ec : evC G c l2 st2 with
          | bad => rw [ec] at f2; exact f2.elim
          | exc c p st => rw [ec] at f2; exact f2.elim
          | ok b st5 =>
            intro mu5 H5 b' e5 S5 r5
            cases r5
            rw [ec] at f2
            have hD5 : Dd ∈ mu5.fo := e5.fo2 _ (e3.fo2 _ hD2)
            have eD5 := e5.keep Dd _ eD3 hDn (fun _ z => by cases z)
            have E5 : Ext mu1 H1 mu5 H5 := (e2.trans e3).trans e5
            have rv5 : Reps X.K X.mg mu5 H5 vs acc := (rv.mono e3).mono e5
            have L5 : RepL X.K X.mg mu5 H5 s' l2 := hs.1.mono e5
            have hDn5 : Dd ∉ mu5.l := (S5.fo Dd hD5).2
            cases b with
            | false =>
              simp only [Bool.false_eq_true, if_false] at f2 ⊢
              refine ⟨hlt, mu5, st5, acc, vs, E5, hD5, S5, eD5, rv5, hacc, ?_⟩
              rw [hout]
              exact f2
            | true =>
              simp only [if_true] at f2 ⊢
              refine ⟨l2, st5, mu5, L5, S5, ?_⟩
              cases ew : evW G w1 l2 st5 with
              | bad => rw [ew] at f2; exact f2.elim
              | exc c p st => rw [ew] at f2; exact f2.elim
              | ok ys st6 =>
                rw [ew] at f2
                simp only at f2
                intro mu6 H6 J1 e6 S6 wk1
                split at f2
                case isFalse => exact f2.elim
                rename_i hlen
                have hD6 : Dd ∈ mu6.fo := e6.fo2 _ hD5
                have eD6 := e6.keep Dd _ eD5 hDn5 (fun _ z => by cases z)
                have L6 := L5.mono e6
                have E6 : Ext mu1 H1 mu6 H6 := E5.trans e6
                refine ⟨fun j k H' => k = ys.length - j ∧ j ≤ ys.length ∧ ∃ mu7 st7 acc7 vs7, Ext mu1 H1 mu7 H' ∧ Ext0 mu6 H6 mu7 H' ∧ Dd ∈ mu7.fo ∧ Sim X.K X.mg mu7 st7 H' ∧ H' Dd = some (.lst vs7) ∧ Reps X.K X.mg mu7 H' vs7 acc7 ∧ acc7.length + (ys.length - j) ≤ sizeLine ∧
                  Fin X.K X.mg W σ (relE X.K X.mg) mu1 H1 (contL (fun acc st => out (i + 1) acc st) (go l2 (ys.drop j) acc7 st7)) Q, ?_, ?_⟩
                · refine ⟨_, rfl, Nat.zero_le _, mu6, st6, acc, vs, E6, (Ext.refl _ _).weak, hD6, S6, eD6, rv5.mono e6, by omega, ?_⟩
                  rw [hout]
                  exact f2
                · rintro j k H7 ⟨rfl, hj, mu7, st7, acc7, vs7, E7, F7, hD7, S7, hv7, rv7, hacc7, f7⟩
                  obtain ⟨u1, u2⟩ := wk1.2 mu7 H7 F7 ⟨_, S7⟩
                  have hDn7 : Dd ∉ mu7.l := (S7.fo Dd hD7).2
                  by_cases hjl : j < ys.length
                  · obtain ⟨v1, v2⟩ := u2 j ys[j] (List.getElem?_eq_getElem hjl)
                    refine .inr ⟨v1, fun H' => j + 1 ≤ ys.length ∧ ∃ mu7 st7 acc7 vs7, Ext mu1 H1 mu7 H' ∧ Ext0 mu6 H6 mu7 H' ∧ Dd ∈ mu7.fo ∧ Sim X.K X.mg mu7 st7 H' ∧ H' Dd = some (.lst vs7) ∧ Reps X.K X.mg mu7 H' vs7 acc7 ∧ acc7.length + (ys.length - (j + 1)) ≤ sizeLine ∧
                      Fin X.K X.mg W σ (relE X.K X.mg) mu1 H1 (contL (fun acc st => out (i + 1) acc st) (go l2 (ys.drop (j + 1)) acc7 st7)) Q, fun H' h => ⟨ys.length - (j + 1), by omega, rfl, h⟩, fun x8 H8 y8 => ?_⟩
                    obtain ⟨e8, r8, s8⟩ := v2 x8 H8 y8
                    have S8 := s8 st7 S7
                    have eD8 := e8.keep Dd _ hv7 hDn7 (fun _ z => by cases z)
                    rw [hgo] at f7
                    simp only at f7
                    rw [List.drop_eq_getElem_cons hjl] at f7
                    unfold lcGo at f7
                    cases eb8 : bindTg tg1 ys[j] (wipeD l2 tg1.ix) with
                    | none => simp only [eb8] at f7; exact f7.elim
                    | some l8 =>
                      simp only [eb8] at f7
                      have L8 : RepL X.K X.mg mu7 H8 (wipe s' tg1.ix) (wipeD l2 tg1.ix) := ((L6.mono0 F7).mono e8).wipe tg1.ix
                      refine ⟨wipeD l2 tg1.ix, st7, mu7, ys[j], l8, L8, S8, r8, eb8, fun s8 hs8 => ⟨?_, ?_⟩⟩
                      · rw [hs8.2 tg1.ix (fun i hi => hi), wipe_wipe]
                      · refine ⟨l8, st7, mu7, hs8.1, S8, ?_⟩
                        cases ec8 : evC G c1 l8 st7 with
                        | bad => rw [ec8] at f7; exact f7.elim
                        | exc c p st => rw [ec8] at f7; exact f7.elim
                        | ok b9 st9 =>
                          intro mu9 H9 b9' e9 S9 r9
                          cases r9
                          rw [ec8] at f7
                          have hD9 : Dd ∈ mu9.fo := e9.fo2 _ (e8.fo2 _ hD7)
                          have eD9 := e9.keep Dd _ eD8 hDn7 (fun _ z => by cases z)
                          have E9 : Ext mu1 H1 mu9 H9 := (E7.trans e8).trans e9
                          have F9 : Ext0 mu6 H6 mu9 H9 := (F7.step e8).step e9
                          have rv9 : Reps X.K X.mg mu9 H9 vs7 acc7 := (rv7.mono e8).mono e9
                          cases b9 with
                          | false =>
                            simp only [Bool.false_eq_true, if_false] at f7 ⊢
                            refine ⟨hjl, mu9, st9, acc7, vs7, E9, F9, hD9, S9, eD9, rv9, by omega, ?_⟩
                            rw [hgo]
                            exact f7
                          | true =>
                            simp only [if_true] at f7 ⊢
                            refine ⟨l8, st9, mu9, hs8.1.mono e9, S9, ?_⟩
                            cases ee : evE G elt l8 st9 with
                            | bad => rw [ee] at f7; exact f7.elim
                            | exc c p st => rw [ee] at f7; exact f7.elim
                            | ok d st10 =>
                              rw [ee] at f7
                              simp only at f7
                              intro mu10 H10 y10 e10 S10 r10
                              have hDn9 : Dd ∉ mu9.l := (S9.fo Dd hD9).2
                              have hD10 : Dd ∈ mu10.fo := e10.fo2 _ hD9
                              have eD10 := e10.keep Dd _ eD9 hDn9 (fun _ z => by cases z)
                              have rv10 : Reps X.K X.mg mu10 H10 vs7 acc7 := rv9.mono e10
                              have hl := rv10.length
                              refine ⟨vs7, eD10, by omega, hjl, mu10, st10, acc7 ++ [d], vs7 ++ [y10], (E9.trans e10).at_fo hDd, (F9.step e10).at_fo hD6, hD10, S10.at_fo hD10, upd_same, (rv10.append (.cons r10 .nil)).at_fo hD10, by rw [List.length_append]; simp; omega, ?_⟩
                              rw [hgo]
                              exact f7
                  · have e : j = ys.length := by omega
                    subst e
                    refine .inl ⟨u1 _ (Nat.le_refl _), hlt, mu7, st7, acc7, vs7, E7, hD7, S7, hv7, rv7, by omega, ?_⟩
                    rw [List.drop_length, hgo] at f7
                    simp only at f7
                    unfold lcGo at f7
                    exact f7
    · have e : i = xs.length := by omega
      subst e
      refine .inl ⟨w1' _ (Nat.le_refl _), ?_⟩
      rw [hout] at f2
      simp only at f2
      rw [List.drop_length] at f2
      unfold lcGo2 at f2
      refine f2 (mu2.drop Dd) H2 (.ref Dd) ⟨e2.pre, fun a h n => e2.fo a (List.mem_filter.mp h).1 n, fun a h => List.mem_filter.mpr ⟨e2.fo2 a h, decide_eq_true ?_⟩, e2.new, e2.keep⟩ (S2.dropFo Dd) (.lst ⟨hv, ?_⟩ hacc rv.dropFo)
      · rintro rfl
        obtain ⟨⟨o, ho⟩, _⟩ := S1.fo a h
        rw [hDd] at ho; cases ho
      · rw [Mu.not_ch]
        exact ⟨hDn, fun z => by simp [Mu.drop] at z⟩
theorem se_lc2 {elt tg iter tg1 iter1 : Expr} {ifs ifs1 : List Expr} {scope : Scope} {own : List (Str × Nat)} {T T1 : Tg} {w w1 : Wk} {c c1 : Oe} {x : E} (hc : X.calm = true) (hN : X.N.Nodup) (hi : PI X tg iter (tG X.K X.mg W (relW X.K X.mg) (evW G w))) (ok : BlkOk X.N X.env.scope scope own)
    (hin : ∀ i ∈ T.ix, i ∈ own.map (·.2)) (hin1 : ∀ i ∈ T1.ix, i ∈ own.map (·.2))
    (hg : ∀ (s : Shared) (H : Hp) (C : Addr) (cl : List (Str × Addr)) (fp : List Addr), PG (X.blk s H scope (compEnvC scope cl C X.env) fp) tg (tTg X.K X.mg T))
    (ht : ∀ (s : Shared) (H : Hp) (C : Addr) (cl : List (Str × Addr)) (fp : List Addr), PTs (X.blk s H scope (compEnvC scope cl C X.env) fp) ifs (tT X.K X.mg WF (evC G c)))
    (hi1 : ∀ (s : Shared) (H : Hp) (C : Addr) (cl : List (Str × Addr)) (fp : List Addr), PI (X.blk s H scope (compEnvC scope cl C X.env) fp) tg1 iter1 (tG X.K X.mg WF (relW X.K X.mg) (evW G w1)))
    (hg1 : ∀ (s : Shared) (H : Hp) (C : Addr) (cl : List (Str × Addr)) (fp : List Addr), PG (X.blk s H scope (compEnvC scope cl C X.env) fp) tg1 (tTg X.K X.mg T1))
    (ht1 : ∀ (s : Shared) (H : Hp) (C : Addr) (cl : List (Str × Addr)) (fp : List Addr), PTs (X.blk s H scope (compEnvC scope cl C X.env) fp) ifs1 (tT X.K X.mg WF (evC G c1)))
    (he : ∀ (s : Shared) (H : Hp) (C : Addr) (cl : List (Str × Addr)) (fp : List Addr), PE (X.blk s H scope (compEnvC scope cl C X.env) fp) elt (tE X.K X.mg WF (evE G x))) (hs : ∀ x, foldedSetIterable iter X.env x = pure x) (hs1 : ∀ env x, foldedSetIterable iter1 env x = pure x) :
    SE X G W (.ListComp elt [⟨tg, iter, ifs, 0⟩, ⟨tg1, iter1, ifs1, 0⟩] scope pos) (.lc2 x T w c (own.map (·.2)) T1 w1 c1) :=
  pe_imp (pe_lc2 hc hN hi ok hin1 hg ht hi1 hg1 ht1 he hs hs1) fun σ H Q h => lc2_read hin h
theorem ss_setLc2 {i : Nat} {n : Str} {p spos : Pos} {elt tg iter tg1 iter1 : Expr} {ifs ifs1 : List Expr} {scope : Scope} {own : List (Str × Nat)} {T T1 : Tg} {w w1 : Wk} {c c1 : Oe} {x : E} (hc : X.calm = true) (hN : X.N.Nodup) (hn : X.N[i]? = some n) (hl : X.env.scope.names.lookup n = some .local)
    (hsw : swapsWith (.ListComp elt [⟨tg, iter, ifs, 0⟩, ⟨tg1, iter1, ifs1, 0⟩] scope pos) (some (.Name n p)) spos.line X.env = pure true)
    (hi : PI X tg iter (tG X.K X.mg W (relW X.K X.mg) (evW G w))) (ok : BlkOk X.N X.env.scope scope own)
    (hin : ∀ i ∈ T.ix, i ∈ own.map (·.2)) (hin1 : ∀ i ∈ T1.ix, i ∈ own.map (·.2))
    (hg : ∀ (s : Shared) (H : Hp) (C : Addr) (cl : List (Str × Addr)) (fp : List Addr), PG (X.blk s H scope (compEnvC scope cl C X.env) fp) tg (tTg X.K X.mg T))
    (ht : ∀ (s : Shared) (H : Hp) (C : Addr) (cl : List (Str × Addr)) (fp : List Addr), PTs (X.blk s H scope (compEnvC scope cl C X.env) fp) ifs (tT X.K X.mg WF (evC G c)))
    (hi1 : ∀ (s : Shared) (H : Hp) (C : Addr) (cl : List (Str × Addr)) (fp : List Addr), PI (X.blk s H scope (compEnvC scope cl C X.env) fp) tg1 iter1 (tG X.K X.mg WF (relW X.K X.mg) (evW G w1)))
    (hg1 : ∀ (s : Shared) (H : Hp) (C : Addr) (cl : List (Str × Addr)) (fp : List Addr), PG (X.blk s H scope (compEnvC scope cl C X.env) fp) tg1 (tTg X.K X.mg T1))
    (ht1 : ∀ (s : Shared) (H : Hp) (C : Addr) (cl : List (Str × Addr)) (fp : List Addr), PTs (X.blk s H scope (compEnvC scope cl C X.env) fp) ifs1 (tT X.K X.mg WF (evC G c1)))
    (he : ∀ (s : Shared) (H : Hp) (C : Addr) (cl : List (Str × Addr)) (fp : List Addr), PE (X.blk s H scope (compEnvC scope cl C X.env) fp) elt (tE X.K X.mg WF (evE G x))) (hs : ∀ x, foldedSetIterable iter X.env x = pure x) (hs1 : ∀ env x, foldedSetIterable iter1 env x = pure x) :
    SS X G W (.Assign [.Name n p] (.ListComp elt [⟨tg, iter, ifs, 0⟩, ⟨tg1, iter1, ifs1, 0⟩] scope pos) spos) (.set i (.lc2 x T w c (own.map (·.2)) T1 w1 c1)) :=
  ps_imp (ps_setLc2 hc hN hn hl hsw hi ok hin1 hg ht hi1 hg1 ht1 he hs hs1) fun D σ H ⟨l, st, mu, L, S, q⟩ => by
    rw [evS] at q
    refine lc2_read hin ?_
    exact (FinS.of (rel := relE X.K X.mg) L S q).mono fun v H1 ⟨mu1, d, st1, e1, L1, S1, rd, f⟩ => f mu1 H1 _ (.refl _ _) S1 (L1.set i rd)
end
end CP

set_option Elab.async false
set_option linter.all false
set_option maxRecDepth 100000
set_option autoImplicit false
/-! CpMany: except clauses, of which some are never reached. -/
namespace CP
open PySem PySem.Spec PyProof.Rows L2
abbrev Suite := Addr → Value → Option Addr → TS
/-- what the clauses wish; none: a clause that must not be the one -/
def wM2 (K : PySem.W.Frag) (Wout : WX) (D : Ends) : List (Value × Option Suite) → WX
  | [] => Wout
  | (c, o) :: r => fun cls d σ H => ∃ b, PySem.W.exmOne K cls c = some b ∧ (b = true → match o with
    | some ts => ∀ a, H a = none → ts a cls d D σ H
    | none => False) ∧ (b = false → wM2 K Wout D r cls d σ H)
inductive Hds2 (X : Cx) : List ExceptHandler → List (Value × Option Suite) → Prop
  | nil : Hds2 X [] []
  | one {x : Str} {c : Value} {ts : Suite} {b₀ : Stmt} {suite : List Stmt} {np p : Pos} {hds : List ExceptHandler} {l : List (Value × Option Suite)} (hc : Names X x c)
      (hsu : ∀ (a : Addr) (oe : Obj) (cls : Value) (d : Option Addr) (pn : List (Addr × Obj)), Zc cls d oe → (∃ vs, oe.data = .fields vs) → PSs (X.suite a ((a, oe) :: pn)) (b₀ :: suite) (ts a cls d)) (r : Hds2 X hds l) :
      Hds2 X (.ExceptHandler (some (.Name x np)) none (b₀ :: suite) p :: hds) ((c, some ts) :: l)
  | skip {x : Str} {n : Option Str} {c : Value} {suite : List Stmt} {np p : Pos} {hds : List ExceptHandler} {l : List (Value × Option Suite)} (hc : Names X x c) (r : Hds2 X hds l) :
      Hds2 X (.ExceptHandler (some (.Name x np)) n suite p :: hds) ((c, none) :: l)
section
variable {X : Cx} {pins : List (Addr × Obj)}
/-- the class that a clause names is read -/
theorem names_run {σ : L2.St} {H : Hp} {s : Shared} {a : Addr} {o : Obj} {x : Str} {c : Value} {np : Pos} (S : Inv (X.suite a ((a, o) :: (X.pn ++ pins))) [] σ H s) (hc : Names X x c) {Q E : Value → Shared → Prop} (q : Q c s) :
    wpAny (model X.prog X.w) (X.A.mark (some (.ref a))) (eval (.Name x np) X.env) Q E s := by
  obtain ⟨g, db, h | ⟨h, v, n⟩⟩ := hc
  · exact ld_glob (X := X.suite a ((a, o) :: (X.pn ++ pins))) S g h q db
  · exact ld_blt (X := X.suite a ((a, o) :: (X.pn ++ pins))) S g h v q n db
/-- how a suite ends, told behind it -/
theorem sp_un {a : Addr} {q : Addr × Obj} {D : Ends} {s : Shared} (ok : X.Ok) : ∀ {f : Flow}, SP (X.suite a (q :: (X.pn ++ pins))) [] D f s → SP X pins D f s
  | .next, ⟨_, _, S, q⟩ => ⟨_, _, S.unsuite ok, q⟩
  | .brk, ⟨_, _, S, q⟩ => ⟨_, _, S.unsuite ok, q⟩
  | .cont, ⟨_, _, S, q⟩ => ⟨_, _, S.unsuite ok, q⟩
  | .ret _, ⟨_, _, _, S, r, q⟩ => ⟨_, _, _, S.unsuite ok, r, q⟩
/-- the same behind a body -/
theorem sp_try {xe : Value → Shared → Prop} {D : Ends} {s : Shared} (ok : X.Ok) : ∀ {f : Flow}, f ≠ .next → SP (X.tr (X.pn ++ pins) xe) [] D f s → SP X pins D f s
  | .next, h, _ => absurd rfl h
  | .brk, _, ⟨_, _, S, q⟩ => ⟨_, _, S.ofTry ok, q⟩
  | .cont, _, ⟨_, _, S, q⟩ => ⟨_, _, S.ofTry ok, q⟩
  | .ret _, _, ⟨_, _, _, S, r, q⟩ => ⟨_, _, _, S.ofTry ok, r, q⟩
end
section
variable {X : Cx} {body : List Stmt} {h₀ : ExceptHandler} {hds : List ExceptHandler} {l : List (Value × Option Suite)} {pos : Pos} {tb : WX → TS} {Wout : WX}
theorem ps_try2 (hs : X.stack = X.env :: X.outer) (hf : X.env.frame = some X.env.locals) (tk : Takes X Wout)
    (hb : ∀ (W : WX) (pn : List (Addr × Obj)) (xe : Value → Shared → Prop), Takes (X.tr pn xe) W → PassesOwn (model X.prog X.w) X.A X.env xe → PSs (X.tr pn xe) body (tb W))
    (hh : Hds2 X (h₀ :: hds) l) : PS X (.Try body (h₀ :: hds) [] [] pos) (fun D σ H => tb (wM2 X.K Wout D l) D σ H) := by
  refine ⟨fun pins s σ H D I h => ?_⟩
  have ok := I.ok
  have frm : X.A.frames = some (X.env :: X.outer) := by rw [ok.frames, hs]
  refine wpAny_Try_except ?_
  refine wpAny_mono ((hb (wM2 X.K Wout D l) (X.pn ++ pins) (fun e s₁ => wpAny (model X.prog X.w) X.A (noteFrame e X.env) (fun _ s₂ => wpAny (model X.prog X.w) X.A (setFlight e none) (fun _ s₃ =>
    wpAny (model X.prog X.w) X.A (handleBy e X.env (h₀ :: hds)) (SP X pins D) X.xe s₃) X.xe s₂) X.xe s₁) (fun u s' xx => ?_) PassesOwn.looking).run [] s σ H D (I.toTry _) h) (fun f s1 hsp => ?_) (fun e s1 he => he)
  · obtain ⟨a, B, sI, pins', σ', H', cls, d, rfl, J', nb, up, sky, na, os, ag, w⟩ := xx
    have J : Inv X pins σ' H' sI := J'.ofTry ok
    show wpAny (model X.prog X.w) X.A (noteFrame (.ref a) X.env) _ _ _
    refine Sky.land Zc.steady frm hf (by rw [← hs]; exact sky) fun h3 fl up3 => ?_
    have J3 : Inv X pins σ' H' { s' with heap := h3 } := J.landed nb fl.1 (up.trans up3) os ag
    obtain ⟨o3, v3, e3, z3, d3⟩ := fl.there
    have out : a ∉ frs (X.env :: X.outer) := fun hm => by
      obtain ⟨_, o', e', no⟩ := fl.2.2.1.mem hm
      rw [e3] at e'; cases e'
      exact no _ d3
    have nl : a ≠ X.env.locals := fun z => out (List.mem_filterMap.mpr ⟨X.env, List.mem_cons_self, by rw [hf, z]⟩)
    have nf : a ∉ X.fs := fun hm => by
      obtain ⟨e, he, q⟩ := List.mem_filterMap.mp hm
      exact out (List.mem_filterMap.mpr ⟨e, List.mem_cons_of_mem _ he, q⟩)
    have S3 := J3.suite e3 d3 na nl nf
    have LT : PySem.W.Looks (model X.prog X.w) h3 (typeOf (.ref a)) cls := fun A Q E s k q => wpAny_typeOf_ref (k _ _ e3) (by rw [z3.1]; exact q)
    clear h hb
    revert w
    revert hh
    generalize h₀ :: hds = hd
    intro hh
    induction hh with
    | nil =>
      intro w
      refine wpAny_handleBy_nil ?_
      obtain ⟨_, _, _, oe, vs, T, oT, ts', he, hz, hd, h1, hr⟩ := id fl
      unfold PySem.passOn
      refine wpAny_bind (wpAny_field he hd h1 ?_)
      rw [if_neg (show ¬ ((Value.ref T == Value.none) = true) from by simp)]
      have fin : wpAny (model X.prog X.w) X.A (setFlight (.ref a) X.env.frame) (fun _ s4 => wpAny (model X.prog X.w) X.A (throw (.ref a) : Sem Flow) (SP X pins D) X.xe s4) X.xe { s' with heap := h3 } := by
        rw [hf]
        exact HandSPX.setFlight_upZ fl fun h4 hh4 up4 => wpAny_throw (tk _ _ ⟨a, B, sI, pins, σ', H', cls, d, rfl, J, nb, (up.trans up3).trans up4, .inr (.inr (by rw [hs]; exact hh4)), na, os, ag, w⟩)
      first
        | exact wpAny_bind (wpAny_pure (wpAny_bind fin))
        | exact wpAny_bind fin
    | one hc hsu r ih =>
      rintro ⟨b, hb1, yes, no⟩
      refine wpAny_handleBy_cons (codeAny_handlers_test (names_run S3 hc ((PySem.W.exm_one (M := model X.prog X.w) J3.kIn LT hb1).here ?_))) (by intro q; cases q)
      cases b with
      | true =>
        refine codeAny_handlers_suite (HandSPX.lands_againZ fl fun h4 fl4 up4 => ?_)
        have J4 : Inv X pins σ' H' { s' with heap := h4 } := J.landed nb fl4.1 ((up.trans up3).trans up4) os ag
        obtain ⟨o4, v4, e4, z4, d4⟩ := fl4.there
        exact wpAny_mono ((hsu a o4 cls d (X.pn ++ pins) z4 ⟨_, d4⟩).run [] _ _ H' _ (J4.suite e4 d4 na nl nf) (yes rfl a na)) (fun f s6 q => sp_un ok q) (fun _ _ z => False.elim z)
      | false => exact ih (no rfl)
    | skip hc r ih =>
      rintro ⟨b, hb1, yes, no⟩
      refine wpAny_handleBy_cons (codeAny_handlers_test (names_run S3 hc ((PySem.W.exm_one (M := model X.prog X.w) J3.kIn LT hb1).here ?_))) (by intro q; cases q)
      cases b with
      | true => exact (yes rfl).elim
      | false => exact ih (no rfl)
  · cases f with
    | next =>
      obtain ⟨σ', H', J', q⟩ := hsp
      exact wpAny_execs_nil ⟨σ', H', J'.ofTry ok, q⟩
    | brk => exact sp_try ok (by intro z; cases z) hsp
    | cont => exact sp_try ok (by intro z; cases z) hsp
    | ret u => exact sp_try ok (by intro z; cases z) hsp
end
end CP

set_option Elab.async false
set_option linter.all false
set_option maxRecDepth 100000
set_option autoImplicit false
/-! CpTel: a thunk handed to a def that tells how it ends. -/
namespace CP
open PySem PySem.Spec PyProof.Rows L2 LamX

def strGoodB (x : Str) : Bool := decide (x.length ≤ sizeLine) && PyData.strOk x
/-- a written constant -/
def cst : D → Expr → Bool
  | .str x, .Constant (.str y) _ _ => x == y && strGoodB x
  | .bl a, .Constant (.bool b) _ _ => a == b
  | _, _ => false
theorem cst_ok {d : D} {e : Expr} (h : cst d e = true) : ∃ v, (∀ X, PE X e (tC v)) ∧ ∀ K mg mu H, Rep K mg mu H v d := by
  unfold cst at h
  split at h
  · simp only [Bool.and_eq_true, beq_iff_eq] at h
    obtain ⟨rfl, h⟩ := h
    unfold strGoodB at h
    simp only [Bool.and_eq_true, decide_eq_true_eq] at h
    exact ⟨_, fun X => pe_str, fun _ _ _ _ => .str h⟩
  · simp only [beq_iff_eq] at h
    subst h
    exact ⟨_, fun X => pe_bl, fun _ _ _ _ => .bl _⟩
  · cases h
theorem cst_no {d : D} {e : Expr} (h : cst d e = true) : d.asB = false := by
  unfold cst at h
  split at h <;> first | rfl | cases h
def gblS (sg : Scope) (x : Str) : Bool := decide (sg.names.lookup x = some .globalImplicit) && !(x == ("__debug__" : Str))
def hdsB (sg : Scope) : List (Str × D) → List ExceptHandler → Bool
  | [], [] => true
  | (n, .fn _) :: r, .ExceptHandler (some (.Name x _)) _ _ _ :: hs => n == x && gblS sg x && hdsB sg r hs
  | (n, d) :: r, .ExceptHandler (some (.Name x _)) none [.Return (some e) _] _ :: hs => n == x && gblS sg x && cst d e && hdsB sg r hs
  | _, _ => false
def tellB (sg : Scope) (a : Str) (t : Tl) : List Stmt → Bool
  | [.Try [.Expr (.Call (.Name b _) [] [] _) _] (h :: hs) [] [] _, .Return (some e) _] => b == a && cst t.fin e && hdsB sg t.hs (h :: hs)
  | _ => false
/-- what the clauses wish -/
def wTl (K : PySem.W.Frag) (Q : VK) : List (Addr × Option V) → Value → Hp → Prop
  | [], _, _ => False
  | (C, o) :: r, cls, H => ∃ b, PySem.W.exmOne K cls (.ref C) = some b ∧ (b = true → match o with
    | some v => Q v H
    | none => False) ∧ (b = false → wTl K Q r cls H)
def TTl (K : PySem.W.Frag) (L : List (Addr × Option V)) (fin : V) : (XK → Hp → VK → Prop) → Hp → VK → Prop := fun tl H Q =>
  tl (fun cls _ H' => wTl K Q L cls H') H (fun _ H' => Q fin H')
def hdL (L : List (Addr × Option V)) : List (Value × Option Suite) := L.map fun p => (.ref p.1, p.2.map fun v => fun _ _ _ => tRet (tC v))
theorem wMany_of {K : PySem.W.Frag} {D : Ends} {σ : L2.St} {H : Hp} {cls : Value} {d : Option Addr} {W : WX} : ∀ {L : List (Addr × Option V)}, wTl K D.rt L cls H → wM2 K W D (hdL L) cls d σ H
  | [], h => h.elim
  | (C, some v) :: r, ⟨b, h1, h2, h3⟩ => ⟨b, h1, fun hb _ _ => h2 hb, fun hb => wMany_of (L := r) (h3 hb)⟩
  | (C, none) :: r, ⟨b, h1, h2, h3⟩ => ⟨b, h1, fun hb => h2 hb, fun hb => wMany_of (L := r) (h3 hb)⟩
/-- what a clause tells -/
def RepO (K : PySem.W.Frag) (mg : Str → Option Value) (mu : Mu) (H : Hp) : Option V → D → Prop
  | some v, d => Rep K mg mu H v d ∧ d.asB = false
  | none, d => d.asB = true
/-- where such a def stands -/
structure TelAt (K : PySem.W.Frag) (mg : Str → Option Value) (t : Tl) : Prop where
  ex : ∃ (g : Addr) (pg : Arguments) (bg : List Stmt) (sg : Scope) (dV kV doc pm cdv ct oc : Value) (an od : Option Addr) (osl : Array (Option Value)) (Ng : List Str) (a : Str),
    mg t.name = some (.ref g) ∧ PySem.W.keepIn K (.ref g) = true ∧ K.lookup g = some ⟨oc, od, .func (PySem.W.fnOf t.name t.name pg bg sg dV kV doc pm an cdv ct), osl⟩ ∧ PySem.W.codeIn K cdv t.name = true ∧
    L2.Binds K (PySem.W.fnOf t.name t.name pg bg sg dV kV doc pm an cdv ct) [a] [] ∧ FnScope Ng [a] sg ∧ Ng[0]? = some a ∧ Vis sg a ∧ (a == ("__debug__" : Str)) = false ∧ (a == ("__classdict__" : Str)) = false ∧ tellB sg a t bg = true ∧
    ∀ h ∈ t.hs, ∃ C, mg h.1 = some (.ref C)
theorem start_one {N : List Str} {v : V} : (L2.start N [v])[0]? = some (some v) := by
  unfold L2.start
  simp
theorem tell_gives {X : Cx} {Ng : List Str} {x a q : Str} {sg : Scope} {g : Addr} {cdg : Value} {bg : List Stmt} {t : Tl} (hb : tellB sg a t bg = true) (hm : ∀ h ∈ t.hs, ∃ C, X.mg h.1 = some (.ref C)) :
    ∃ (L : List (Addr × Option V)) (fin : V), L.length = t.hs.length ∧ (∀ p ∈ t.hs.zip L, X.mg p.1.1 = some (.ref p.2.1) ∧ ∀ K mg mu H, RepO K mg mu H p.2.2 p.1.2) ∧ (∀ K mg mu H, Rep K mg mu H fin t.fin) ∧
      GivesTo X Ng x sg g cdg bg a q (TTl X.K L fin) := by
  unfold tellB at hb
  split at hb
  · simp only [Bool.and_eq_true, beq_iff_eq] at hb
    obtain ⟨⟨rfl, h1⟩, h2⟩ := hb
    obtain ⟨fin, c1, c2⟩ := cst_ok h1
    rename_i b p1 p2 p3 h0 hs0 p4 e p5
    have hL : ∃ L : List (Addr × Option V), L.length = t.hs.length ∧ (∀ p ∈ t.hs.zip L, X.mg p.1.1 = some (.ref p.2.1) ∧ ∀ K mg mu H, RepO K mg mu H p.2.2 p.1.2) ∧ ∀ (Z : Cx), Z.env.scope = sg → Z.mg = X.mg → Hds2 Z (h0 :: hs0) (hdL L) := by
      revert h2 hm
      generalize h0 :: hs0 = es
      generalize t.hs = hs
      induction hs generalizing es with
      | nil =>
        intro hm h2
        cases es with
        | nil => exact ⟨[], rfl, fun p hp => (by cases hp), fun Z _ _ => .nil⟩
        | cons _ _ => simp [hdsB] at h2
      | cons nd r ih =>
        obtain ⟨n, d⟩ := nd
        intro hm h
        cases es with
        | nil => simp [hdsB] at h
        | cons e es =>
          unfold hdsB at h
          split at h
          · rename_i heq
            cases heq
          · rename_i heq1 heq2
            cases heq1
            cases heq2
            simp only [Bool.and_eq_true, beq_iff_eq] at h
            obtain ⟨⟨rfl, k1⟩, k3⟩ := h
            obtain ⟨C, hC⟩ := hm (n, .fn _) List.mem_cons_self
            obtain ⟨L, q1, q2, q3⟩ := ih _ (fun h hh => hm h (List.mem_cons_of_mem _ hh)) k3
            unfold gblS at k1
            simp only [Bool.and_eq_true, decide_eq_true_eq, Bool.not_eq_true'] at k1
            refine ⟨(C, none) :: L, by simp [q1], fun p hp => ?_, fun Z hz hz2 => ?_⟩
            · rcases List.mem_cons.mp (by simpa using hp) with e | hp
              · rw [e]; exact ⟨hC, fun _ _ _ _ => rfl⟩
              · exact q2 p hp
            · have hg : Gl Z n := by
                show Z.env.scope.names.lookup n = some .globalImplicit
                rw [hz]; exact k1.1
              exact .skip ⟨hg, k1.2, .inl (by rw [hz2]; exact hC)⟩ (q3 Z hz hz2)
          · rename_i heq1 heq2
            cases heq1
            cases heq2
            simp only [Bool.and_eq_true, beq_iff_eq] at h
            obtain ⟨⟨⟨rfl, k1⟩, k2⟩, k3⟩ := h
            have na := cst_no k2
            obtain ⟨v, d1, d2⟩ := cst_ok k2
            obtain ⟨C, hC⟩ := hm (n, d) List.mem_cons_self
            obtain ⟨L, q1, q2, q3⟩ := ih _ (fun h hh => hm h (List.mem_cons_of_mem _ hh)) k3
            unfold gblS at k1
            simp only [Bool.and_eq_true, decide_eq_true_eq, Bool.not_eq_true'] at k1
            refine ⟨(C, some v) :: L, by simp [q1], fun p hp => ?_, fun Z hz hz2 => ?_⟩
            · rcases List.mem_cons.mp (by simpa using hp) with e | hp
              · rw [e]; exact ⟨hC, fun K mg mu H => ⟨d2 K mg mu H, na⟩⟩
              · exact q2 p hp
            · have hg : Gl Z n := by
                show Z.env.scope.names.lookup n = some .globalImplicit
                rw [hz]; exact k1.1
              exact .one ⟨hg, k1.2, .inl (by rw [hz2]; exact hC)⟩ (fun a oe cls d pn _ _ => pss_one (ps_ret (d1 _))) (q3 Z hz hz2)
          · cases h
    obtain ⟨L, l1, l2, l3⟩ := hL
    refine ⟨L, fin, l1, l2, c2, ?_⟩
    intro f c' s H Q tl act hc h
    refine ⟨_, pss_cons (ps_try2 (X := (cxOf C8.CX0 X.prog X.w X.K X.mg X.base Ng x sg g cdg X.A X.stack s H C8.E0).nox)
      (tb := fun W D σ H => ∃ Ech : XK, (∀ cls d σ' H', Ech cls d H' → W cls d σ' H') ∧ σ[0]? = some (some (.ref f)) ∧ H c' = some (CodeO c' q) ∧ tl Ech H (fun _ H1 => D.nx σ H1))
      rfl rfl L2.takes0 (fun W pn xe tk _ => ?_) (l3 _ rfl rfl)) (pss_one (ps_ret (c1 _))), ?_⟩
    · refine ⟨fun pins s' σ H' D I h' => ?_⟩
      obtain ⟨Ech, hW, g1, g2, g3⟩ := h'
      have hp := act W pn xe Ech p1 p2 tk hW
      have hq := pss_one (ps_expr (pos := p3) hp)
      exact hq.run pins s' σ H' D I ⟨g1, g2, g3⟩
    · exact ⟨fun cls _ H' => wTl X.K Q L cls H', fun cls d σ' H' hw => wMany_of hw, start_one, hc, h⟩
  · cases hb
end CP

set_option Elab.async false
set_option linter.all false
set_option maxRecDepth 100000
set_option autoImplicit false
/-! CpSound: a checker, and that what it takes is computed. -/
namespace CP
open PySem PySem.Spec PyProof.Rows L2

/-- what is known of names -/
structure Cs where
  N : List Str
  sc : Scope
  /-- none: all cells may be written; else those of this scope -/
  cs : Option Scope
  /-- lambdas may be made -/
  lm : Bool


def vis (c : Cs) (i : Nat) (x : Str) : Bool := decide (c.N[i]? = some x) && (match c.sc.names.lookup x with | some .local => true | some .cell => true | some .free => true | _ => false) && !(x == ("__debug__" : Str)) && !(x == ("__classdict__" : Str))
def gbl (c : Cs) (x : Str) : Bool := (match c.sc.names.lookup x with | some .globalImplicit => true | _ => false) && !(x == ("__debug__" : Str))
def stor (c : Cs) (i : Nat) (x : Str) : Bool := decide (c.N[i]? = some x) && (match c.sc.names.lookup x with | some .local => true | some .cell => (match c.cs with | none => true | some s => decide (s.names.lookup x = some .cell)) | _ => false)
/-- other built-ins that are called -/
def othN : List Str := ["dict", "enumerate", "set"]
def isiNames : List String := ["int", "bool", "str", "tuple", "list"]
def namesOf : List Expr → Option (List (Str × Pos))
  | [] => some []
  | .Name x p :: es => (namesOf es).map ((x, p) :: ·)
  | _ => none
def okTg (c : Cs) : Tg → Expr → Bool
  | .nm i, .Name x _ => stor c i x
  | .tu is, .Tuple es _ _ => match namesOf es with
    | some xs => decide (is.length = xs.length) && ((is.zip xs).all fun p => stor c p.1 p.2.1)
    | none => false
  | _, _ => false
def ownOf (c : Cs) (own : List Nat) : Option (List (Str × Nat)) := own.mapM fun i => (c.N[i]?).map fun x => (x, i)
/-- a walk that hands out pairs wants a target of its own form -/
def tupTg : Expr → Bool
  | .Tuple _ _ _ => true
  | _ => false
def tgW : Wk → Expr → Bool
  | .zip _ _, tg => tupTg tg
  | .enu _, tg => tupTg tg
  | _, _ => true
def Cs.blk (c : Cs) (scope : Scope) : Cs := ⟨c.N, relS scope c.sc, some scope, c.lm⟩
def Cs.lamc (c : Cs) (scope : Scope) : Cs := ⟨c.N, scope, some scope, false⟩

variable (P : Pg)
mutual
def okE : Nat → Cs → E → Expr → Bool
  | 0, _, _, _ => false
  | n + 1, c, m, e => match m, e with
    | .non, .Constant .none _ _ => true
    | .bl b, .Constant (.bool b') _ _ => b == b'
    | .int i, .Constant (.int j) _ _ => i == j
    | .str x, .Constant (.str y) _ _ => x == y && strGoodB x
    | .var i, .Name x _ => vis c i x
    | .glb x, .Name y _ => x == y && gbl c y && (P.con.lookup x).isSome
    | .fnv x, .Name y _ => x == y && gbl c y && P.hasV x
    | .tup xs, .Tuple es _ _ => okEs n c xs es
    | .lst xs, .List es _ => okEs n c xs es
    | .mls xs, .List es _ => okEs n c xs es
    | .mdc, .Dict [] [] _ => true
    | .bin o x y, .BinOp a op b _ => decide (op = o.py) && okE n c x a && okE n c y b
    | .neg x, .UnaryOp .USub a _ => okE n c x a
    | .not x, .UnaryOp .Not a _ => okE n c x a
    | .cmp o x y, .Compare a [op] [b] _ => decide (op = o.py) && okE n c x a && okE n c y b
    | .chn o o2 x y z, .Compare a [op, op2] [b, d] _ => decide (op = o.py) && decide (op2 = o2.py) && okE n c x a && okE n c y b && okE n c z d
    | .and x y, .BoolOp .And [a, b] _ => okE n c x a && okE n c y b
    | .and x y, .BoolOp .And (a :: b :: d :: r) p => okE n c x a && okE n c y (.BoolOp .And (b :: d :: r) p)
    | .or x y, .BoolOp .Or [a, b] _ => okE n c x a && okE n c y b
    | .or x y, .BoolOp .Or (a :: b :: d :: r) p => okE n c x a && okE n c y (.BoolOp .Or (b :: d :: r) p)
    | .ite x y z, .IfExp a b d _ => okE n c x a && okE n c y b && okE n c z d
    | .cal f xs, .Call (.Name g _) es [] _ => P.py f == g && gbl c g && P.has f && okEs n c xs es
    | .calv i xs, .Call (.Name g _) (a :: es) [] _ => vis c i g && okEs n c xs (a :: es)
    | .tel f x, .Call (.Name g _) [.Lambda ⟨[], [], none, [], [], none, []⟩ body scope _] [] _ => f == g && gbl c g && c.lm && (P.tel? f).isSome && LamX.lamSB c.sc scope && okE n (c.lamc scope) x body
    | .app x y, .Call (.Attribute (.Name g p) m apos) [a] [] cpos => m == ("append" : Str) && (apos.endLine == cpos.line) && okE n c x (.Name g p) && okE n c y a
    | .dgt x w z, .Call (.Attribute (.Call (.Name d _) [.Call (.Name li _) [a] [] _] [] _) m apos) [e, f] [] cpos => m == ("get" : Str) && (apos.endLine == cpos.line) && d == ("dict" : Str) && gbl c d && li == ("list" : Str) && gbl c li && okE n c x a && okE n c w e && okE n c z f
    | .mad x y, .BinOp a op b _ => decide (op = .Add) && okE n c x a && okE n c y b
    | .rev x, .Subscript a (.Slice none none (some (.UnaryOp .USub (.Constant (.int 1) _ _) _)) _) _ => okE n c x a
    | .rgs t .none y, .Call (.Name g _) [.Call (.Name r _) [b] [] _] [] _ => g == (if t then ("tuple" : Str) else ("list" : Str)) && gbl c g && r == ("range" : Str) && gbl c r && okE n c y b
    | .rgs t (.some x) y, .Call (.Name g _) [.Call (.Name r _) [a, b] [] _] [] _ => g == (if t then ("tuple" : Str) else ("list" : Str)) && gbl c g && r == ("range" : Str) && gbl c r && okE n c x a && okE n c y b
    | .ssr x, .Call (.Name g _) [.Call (.Name t _) [a] [] _] [] _ => g == ("sorted" : Str) && gbl c g && t == ("set" : Str) && gbl c t && okE n c x a
    | .bi f xs, .Call (.Name g _) (a :: es) [] _ => g == f.nm && gbl c g && okEs n c xs (a :: es)
    | .isi x t, .Call (.Name g _) [a, .Name u _] [] _ => g == ("isinstance" : Str) && gbl c g && u == (t : Str) && gbl c u && isiNames.contains t && okE n c x a
    | .ix x y, .Subscript a b _ => okE n c x a && okE n c y b
    | .sl x lo hi, .Subscript a (.Slice l h none _) _ => okE n c x a && okO n c lo l && okO n c hi h
    | .lc x T w d own, .ListComp el [⟨tg, it, ifs, 0⟩] scope _ => okLc n c x T w d own el tg it ifs scope
    | .lc2 x T w d own T1 w1 d1, .ListComp el [⟨tg, it, ifs, 0⟩, ⟨tg1, it1, ifs1, 0⟩] scope _ => okLc n c x T w d own el tg it ifs scope && (T1.ix.all fun i => own.contains i) && tgW w1 tg1 && okW n (c.blk scope) w1 it1 && okTg (c.blk scope) T1 tg1 && okC n (c.blk scope) d1 ifs1
    | _, _ => false
def okLc : Nat → Cs → E → Tg → Wk → Oe → List Nat → Expr → Expr → Expr → List Expr → Scope → Bool
  | 0, _, _, _, _, _, _, _, _, _, _, _ => false
  | n + 1, c, x, T, w, d, own, el, tg, it, ifs, scope => match ownOf c own with
    | some ow => blkC c.N c.sc scope ow && (T.ix.all fun i => own.contains i) && tgW w tg && okW n c w it && okTg (c.blk scope) T tg && okC n (c.blk scope) d ifs && okE n (c.blk scope) x el
    | none => false
def okEs : Nat → Cs → Es → List Expr → Bool
  | 0, _, _, _ => false
  | _ + 1, _, .nil, [] => true
  | n + 1, c, .cons x xs, e :: es => okE n c x e && okEs n c xs es
  | _ + 1, _, _, _ => false
def okO : Nat → Cs → Oe → Option Expr → Bool
  | 0, _, _, _ => false
  | _ + 1, _, .none, none => true
  | n + 1, c, .some x, some e => okE n c x e
  | _ + 1, _, _, _ => false
def okC : Nat → Cs → Oe → List Expr → Bool
  | 0, _, _, _ => false
  | _ + 1, _, .none, [] => true
  | n + 1, c, .some x, [e] => okE n c x e
  | _ + 1, _, _, _ => false
def okW : Nat → Cs → Wk → Expr → Bool
  | 0, _, _, _ => false
  | n + 1, c, .seq x, e => okE n c x e
  | n + 1, c, .rng1 x, .Call (.Name g _) [a] [] _ => g == ("range" : Str) && gbl c g && okE n c x a
  | n + 1, c, .rng2 x y, .Call (.Name g _) [a, b] [] _ => g == ("range" : Str) && gbl c g && okE n c x a && okE n c y b
  | n + 1, c, .enu x, .Call (.Name g _) [a] [] _ => g == ("enumerate" : Str) && gbl c g && okE n c x a
  | n + 1, c, .zip x y, .Call (.Name g _) [a, b] [] _ => g == ("zip" : Str) && gbl c g && okE n c x a && okE n c y b
  | _ + 1, _, _, _ => false
end

/-! ### what is taken is plain -/
def plainE : Expr → Bool
  | .Constant _ _ _ | .Name _ _ | .Tuple _ _ _ | .List _ _ | .BinOp _ _ _ _ | .UnaryOp _ _ _ | .Compare _ _ _ _ | .BoolOp _ _ _ | .IfExp _ _ _ _ | .Call _ _ _ _ | .Subscript _ _ _ | .ListComp _ _ _ _ | .Dict _ _ _ => true
  | _ => false
set_option maxHeartbeats 4000000 in
theorem okE_plain {n : Nat} {c : Cs} {m : E} {e : Expr} (h : okE P n c m e = true) : plainE e = true := by
  cases n with
  | zero => simp [okE] at h
  | succ n => cases e <;> first | rfl | (cases m <;> simp [okE] at h)
theorem okW_plain {n : Nat} {c : Cs} {m : Wk} {e : Expr} (h : okW P n c m e = true) : plainE e = true := by
  cases n with
  | zero => simp [okW] at h
  | succ n =>
    cases m with
    | seq x => exact okE_plain P (show okE P n c x e = true by simpa [okW] using h)
    | _ => cases e <;> first | rfl | simp [okW] at h
theorem plain_star {e : Expr} (h : plainE e = true) (es : List Expr) (env : Env) : starEach (e :: es) env = (false, eval e env) :: starEach es env := by
  cases e <;> first | rfl | (simp [plainE] at h)
theorem plain_ix {e : Expr} (h : plainE e = true) : PlainIx e := fun o i => by
  cases e <;> first | rfl | (simp [plainE] at h)
theorem plain_fold {e : Expr} (h : plainE e = true) (env : Env) : ∀ x, foldedSetIterable e env x = pure x := fun x => by
  cases e <;> first | rfl | (simp [plainE] at h)
theorem plain_mark {e : Expr} (h : plainE e = true) (op : CmpOp) : behindInMarks op e = false := by
  cases e <;> first | rfl | (simp [plainE] at h)

/-! ### where one stands -/
theorem hasV_ok {P : Pg} {x : Str} (h : P.hasV x = true) : P.has x = true ∧ P.py x = x := by
  unfold Pg.hasV at h
  simpa using h
structure Bs (X : Cx) (G : Gm) : Prop where
  calm : X.calm = true
  nd : X.N.Nodup
  hu : X.A.units + 200 < cLine
  cal : ∀ f, P.has f = true → Callee X (G.cal f) (P.py f)
  ghas : G.has = P.hasV
  con : ∀ x d, P.con.lookup x = some d → G.con x = some d ∧ ∃ v u, X.mg x = some u ∧ RelV v u ∧ ∀ mu H, Rep X.K X.mg mu H v d
  bi : ∀ f : B, X.mg f.nm = none
  isi : X.mg "isinstance" = none
  rng : X.mg "range" = none
  zip : X.mg "zip" = none
  tys : ∀ t ∈ isiNames, X.mg (t : Str) = none
  oth : ∀ t ∈ othN, X.mg t = none
/-- a def as a value, to a level -/
structure FnAt (P : Program) (w : World) (K : PySem.W.Frag) (mg : Str → Option Value) (base : Heap) (k : Nat) (x : Str) (m : List D → So → R D) : Prop where
  ex : ∃ (fa : Addr) (fd : FuncData) (ps : List Str), mg x = some (.ref fa) ∧ PySem.W.keepIn K (.ref fa) = true ∧ Binds K fd ps [] ∧ FnOk P w K mg base (L2.CX P w) k fa fd ps (spF K mg m)
/-- lambdas may be made and handed on -/
structure LamOk1 (X : Cx) (G : Gm) : Prop where
  tel : ∀ f t, P.tel? f = some t → (∀ th st, G.tel f th st = tellD P t (th st)) ∧ TelAt X.K X.mg t
  cat : ∀ c, P.excs.contains c = true → ∀ t ∈ P.tels, ∀ h ∈ t.hs, ∀ C CS, X.mg c = some (.ref C) → X.mg h.1 = some (.ref CS) → PySem.W.exmOne X.K (.ref C) (.ref CS) = some (P.sub c h.1)
  ex : ∃ (k : Nat) (G' : Gm) (c Pt : Addr), Room (k + 2) X.A ∧ (∀ e l st, G.lam e l st = evE G' e l st) ∧ (∀ f, P.has f = true → FnAt X.prog X.w X.K X.mg X.base k (P.py f) (G'.cal f)) ∧
    G'.has = P.hasV ∧ (∀ x d, P.con.lookup x = some d → G'.con x = some d) ∧ LamX.TabB X.base X.mg c Pt ∧ X.env.code = .ref c ∧ (Pt, X.env.qual ++ "<lambda>") ∈ tabsOf X.K ∧
    ∀ p ∈ tabsOf X.K, p.1 = Pt → p.2 = X.env.qual ++ "<lambda>"
def LamOk (X : Cx) (G : Gm) : Prop := (∀ f th st, G.tel f th st = .bad) ∨ LamOk1 P X G
structure At (X : Cx) (G : Gm) (c : Cs) : Prop where
  N : X.N = c.N
  sc : X.env.scope = c.sc
  fn : match c.cs with
    | none => ∀ x, X.fn x = true
    | some s => ∀ x, s.names.lookup x = some .cell → X.fn x = true
  lam : c.lm = true → LamOk P X G
section
variable {P : Pg} {X : Cx} {G : Gm} {c : Cs} {W : WX}
theorem Bs.blk (B : Bs P X G) (s : Shared) (H : Hp) (scope : Scope) (cenv : Env) (fp : List Addr) : Bs P (X.blk s H scope cenv fp) G :=
  ⟨B.calm, B.nd, B.hu, fun f h => ⟨(B.cal f h).ex⟩, B.ghas, B.con, B.bi, B.isi, B.rng, B.zip, B.tys, B.oth⟩
theorem At.blk (A : At P X G c) (s : Shared) (H : Hp) (scope : Scope) (C : Addr) (cl : List (Str × Addr)) (fp : List Addr) : At P (X.blk s H scope (compEnvC scope cl C X.env) fp) G (c.blk scope) :=
  ⟨A.N, by show relS scope X.env.scope = relS scope c.sc; rw [A.sc], fun x h => by show (scope.names.lookup x == some .cell) = true; rw [h]; rfl, fun h => (A.lam h).imp id fun L => ⟨L.tel, L.cat, L.ex⟩⟩
theorem vis_ok (A : At P X G c) {i : Nat} {x : Str} (h : vis c i x = true) : X.N[i]? = some x ∧ Vis X.env.scope x ∧ (x == ("__debug__" : Str)) = false ∧ (x == ("__classdict__" : Str)) = false := by
  unfold vis at h
  simp only [Bool.and_eq_true, decide_eq_true_eq, Bool.not_eq_true'] at h
  obtain ⟨⟨⟨h1, h2⟩, h3⟩, h4⟩ := h
  refine ⟨by rw [A.N]; exact h1, ?_, h3, h4⟩
  unfold Vis
  rw [A.sc]
  split at h2 <;> simp_all
theorem gbl_ok (A : At P X G c) {x : Str} (h : gbl c x = true) : Gl X x ∧ (x == ("__debug__" : Str)) = false := by
  unfold gbl at h
  simp only [Bool.and_eq_true, Bool.not_eq_true'] at h
  refine ⟨?_, h.2⟩
  show X.env.scope.names.lookup x = some .globalImplicit
  rw [A.sc]
  have h1 := h.1
  split at h1 <;> simp_all
theorem stor_ok (A : At P X G c) {i : Nat} {x : Str} (h : stor c i x = true) : Stor X i x := by
  unfold stor at h
  simp only [Bool.and_eq_true, decide_eq_true_eq] at h
  obtain ⟨h1, h2⟩ := h
  refine ⟨by rw [A.N]; exact h1, ?_, ?_⟩
  · unfold L2.Loc
    rw [A.sc]
    split at h2 <;> simp_all
  · rw [A.sc]
    have hf := A.fn
    split at h2
    · rename_i e; exact .inr e
    · left
      split at h2
      · rename_i e; rw [e] at hf; exact hf x
      · rename_i e; rw [e] at hf; exact hf x (by simpa using h2)
    · cases h2
theorem namesOf_eq : ∀ {es : List Expr} {xs : List (Str × Pos)}, namesOf es = some xs → es = xs.map fun p => .Name p.1 p.2
  | [], _, h => by cases h; rfl
  | e :: es, xs, h => by
    cases e <;> first
      | (simp [namesOf] at h; done)
      | (simp only [namesOf, Option.map_eq_some_iff] at h
         obtain ⟨ys, h1, rfl⟩ := h
         rw [namesOf_eq h1]
         rfl)
theorem okTg_ok (B : Bs P X G) (A : At P X G c) {T : Tg} {e : Expr} (h : okTg c T e = true) : PG X e (tTg X.K X.mg T) := by
  cases T with
  | nm i => cases e <;> first
    | (simp [okTg] at h; done)
    | exact pg_nmD B.nd (stor_ok A h)
  | tu is => cases e <;> first
    | (simp [okTg] at h; done)
    | (simp only [okTg] at h
       split at h
       · rename_i xs e
         simp only [Bool.and_eq_true, decide_eq_true_eq, List.all_eq_true] at h
         rw [namesOf_eq e]
         exact pg_tuD B.nd B.calm h.1 fun p hp => stor_ok A (h.2 p hp)
       · cases h)
/-- what a comprehension asks -/
def LcOk (X : Cx) (G : Gm) (W : WX) (x : E) (T : Tg) (w : Wk) (d : Oe) (own : List Nat) (el tg it : Expr) (ifs : List Expr) (scope : Scope) : Prop :=
  PI X tg it (tG X.K X.mg W (relW X.K X.mg) (evW G w)) ∧ (∀ x, foldedSetIterable it X.env x = pure x) ∧ (∀ i ∈ T.ix, i ∈ own) ∧ ∃ ow : List (Str × Nat), ow.map (·.2) = own ∧ BlkOk X.N X.env.scope scope ow ∧
    (∀ (s : Shared) (H : Hp) (C : Addr) (cl : List (Str × Addr)) (fp : List Addr), PG (X.blk s H scope (compEnvC scope cl C X.env) fp) tg (tTg X.K X.mg T)) ∧
    (∀ (s : Shared) (H : Hp) (C : Addr) (cl : List (Str × Addr)) (fp : List Addr), PTs (X.blk s H scope (compEnvC scope cl C X.env) fp) ifs (tT X.K X.mg WF (evC G d))) ∧
    (∀ (s : Shared) (H : Hp) (C : Addr) (cl : List (Str × Addr)) (fp : List Addr), PE (X.blk s H scope (compEnvC scope cl C X.env) fp) el (tE X.K X.mg WF (evE G x)))
theorem takesF {X : Cx} : Takes X WF := takes0
theorem ownOf_eq {c : Cs} : ∀ {own : List Nat} {ow : List (Str × Nat)}, ownOf c own = some ow → ow.map (·.2) = own
  | [], ow, h => by
    unfold ownOf at h
    simp at h
    subst h
    rfl
  | i :: own, ow, h => by
    unfold ownOf at h
    rw [List.mapM_cons] at h
    cases e : c.N[i]? with
    | none => rw [e] at h; simp at h
    | some x =>
      rw [e] at h
      simp only [Option.map_some, Option.bind_eq_bind, Option.bind_some] at h
      cases e2 : List.mapM (fun i => (c.N[i]?).map fun x => (x, i)) own with
      | none => rw [e2] at h; simp at h
      | some r =>
        rw [e2] at h
        simp at h
        subst h
        rw [List.map_cons, ownOf_eq (c := c) (own := own) (ow := r) e2]
structure Snd (X : Cx) (G : Gm) (W : WX) (m : E) (e : Expr) : Prop where
  se : SE X G W e m
  st : ST X G W e m
  sw : (∃ op vs p, e = .BoolOp op vs p) → SW X G W e m
/-- an expression that is no test of its own -/
theorem Snd.of {m : E} {e : Expr} (h : SE X G W e m) (he : ∀ whole, isTrue e X.env whole = (do let v ← whole; standAt e.pos; holding [v] (truthy v))) (hn : ∀ op vs p, e ≠ .BoolOp op vs p) : Snd X G W m e :=
  ⟨h, st_of h he, fun ⟨op, vs, p, e⟩ => absurd e (hn op vs p)⟩
theorem args_ok {es : List Expr} : (∀ e ∈ es, plainE e = true) → ∀ (env : Env) (pos : Pos), (backTo pos (starEach es env)).any (·.1) = false := fun h env pos => by
  induction es with
  | nil => rfl
  | cons e es ih =>
    rw [plain_star (h e List.mem_cons_self)]
    exact ih fun e he => h e (List.mem_cons_of_mem _ he)
theorem okEs_nil {n : Nat} {c : Cs} {xs : Es} (h : okEs P n c xs [] = true) : xs = .nil := by
  cases n with
  | zero => simp [okEs] at h
  | succ n => cases xs with
    | nil => rfl
    | cons _ _ => simp [okEs] at h
theorem se_calL {f g : Str} {p pos : Pos} {es : List Expr} {xs : Es} (hC : Callee X (G.cal f) g) (tk : Takes X W) (hg : Gl X g) (hdb : (g == ("__debug__" : Str)) = false) (h : PA X es (tA X.K X.mg W (evEs G xs))) (h2 : ∀ e ∈ es, plainE e = true) (hx : es = [] → xs = .nil) :
    SE X G W (.Call (.Name g p) es [] pos) (.cal f xs) := by
  cases es with
  | nil =>
    rw [hx rfl]
    exact se_cal0 hC tk hg hdb
  | cons a es => exact se_cal hC tk hg hdb h (plain_star (h2 a List.mem_cons_self) _ _) (args_ok (fun e he => h2 e (List.mem_cons_of_mem _ he)) _ _)
theorem fin_tell {t : Tl} {K : PySem.W.Frag} {mg : Str → Option Value} {L : List (Addr × Option V)} {fin : V} {s' : L2.St} {mu : Mu} {H : Hp} {Q : VK} {r : R D} {W : WX}
    (hl : L.length = t.hs.length) (hL : ∀ p ∈ t.hs.zip L, mg p.1.1 = some (.ref p.2.1) ∧ ∀ K mg mu H, RepO K mg mu H p.2.2 p.1.2) (hf : ∀ K mg mu H, Rep K mg mu H fin t.fin)
    (hc : ∀ c, P.excs.contains c = true → ∀ h ∈ t.hs, ∀ C CS, mg c = some (.ref C) → mg h.1 = some (.ref CS) → PySem.W.exmOne K (.ref C) (.ref CS) = some (P.sub c h.1))
    (h : Fin K mg W s' (relE K mg) mu H (tellD P t r) Q) : Fin K mg (fun cls _ _ H' => wTl K Q L cls H') s' (relE K mg) mu H r (fun _ H' => Q fin H') := by
  cases r with
  | ok d st => exact fun mu' H' b e S _ => h mu' H' fin e S (hf _ _ _ _)
  | bad => exact h
  | exc c p st =>
    cases p with
    | non =>
      refine ⟨rfl, fun mu' H' C e S hC => ?_⟩
      have h : Fin K mg W s' (relE K mg) mu H (if P.excs.contains c then catchD P c st t.hs else .bad) Q := h
      by_cases he : P.excs.contains c = true
      · rw [if_pos he] at h
        revert hl hL hc h
        generalize t.hs = hs
        induction hs generalizing L with
        | nil => intro hl hL hc h; exact h.elim
        | cons nd r ih =>
          intro hl hL hc h
          cases L with
          | nil => cases hl
          | cons q L =>
            obtain ⟨g1, g2⟩ := hL (nd, q) (by simp)
            refine ⟨P.sub c nd.1, hc c he nd List.mem_cons_self C q.1 hC g1, fun hb => ?_, fun hb => ?_⟩
            · unfold catchD at h
              rw [if_pos hb] at h
              obtain ⟨qa, qo⟩ := q
              cases qo with
              | some v =>
                obtain ⟨r1, r2⟩ : Rep K mg mu' H' v nd.2 ∧ nd.2.asB = false := g2 K mg mu' H'
                rw [r2] at h
                exact h mu' H' v e S r1
              | none =>
                have r2 : nd.2.asB = true := g2 K mg mu' H'
                rw [r2] at h
                exact h.elim
            · unfold catchD at h
              rw [if_neg (by rw [hb]; decide)] at h
              exact ih (by simpa using hl) (fun p hp => hL p (by simp only [List.zip_cons_cons]; exact List.mem_cons_of_mem _ hp)) (fun c he h hh => hc c he h (List.mem_cons_of_mem _ hh)) h
      · rw [if_neg he] at h
        exact h.elim
    | _ => exact h.elim
theorem se_tel {f : Str} {p lpos pos : Pos} {body : Expr} {scope : Scope} {x : E} (hlm : c.lm = true) (B : Bs P X G) (A : At P X G c) (hf : (P.tel? f).isSome = true) (hg : Gl X f) (hdb : (f == ("__debug__" : Str)) = false) (L : LamX.LamS X.env.scope scope)
    (hbody : ∀ (X' : Cx) (G' : Gm) (W' : WX), Bs P X' G' → At P X' G' (c.lamc scope) → Takes X' W' → PE X' body (tE X'.K X'.mg W' (evE G' x))) :
    SE X G W (.Call (.Name f p) [.Lambda ⟨[], [], none, [], [], none, []⟩ body scope lpos] [] pos) (.tel f x) := by
  obtain ⟨t, ht⟩ := Option.isSome_iff_exists.mp hf
  by_cases hbad : ∀ f th st, G.tel f th st = .bad
  · exact ⟨fun pins s σ H Q I h => by
      obtain ⟨l, st, mu, RL, S, h⟩ := h
      rw [evE, hbad] at h
      exact h.elim⟩
  have LO := (A.lam hlm).resolve_left hbad
  obtain ⟨hrun, hat⟩ := LO.tel f t ht
  have etn : t.name = f := by
    unfold Pg.tel? at ht
    simpa using List.find?_some ht
  have etm : t ∈ P.tels := List.mem_of_find?_eq_some ht
  subst etn
  obtain ⟨g, pg, bg, sg, dV, kV, doc, pm, cdv, ct, oc, an, od, osl, Ng, a, hm, hk, lk, hcg, hb, Sg, hNg, hva, hd1, hd2, htb, hcm⟩ := hat.ex
  obtain ⟨k, G', co, Pt, hr, hG', hcal, hhas, hcon, TB, hcode, hmT, hu⟩ := LO.ex
  obtain ⟨Ls, fin, l1, l2, l3, hGv⟩ := tell_gives (X := X) (Ng := Ng) (x := t.name) (q := X.env.qual ++ "<lambda>") (g := g) (cdg := cdv) htb hcm
  refine pe_imp (LamX.pe_lamcall (T := tabsOf X.K) (TT := TTl X.K Ls fin) (t := fun E => tE X.K X.mg (fun cls d _ H => E cls d H) (evE G' x)) (c := co) (P := Pt) (k := k) hg hm hk lk hcg hb Sg hNg hva hGv TB hcode hmT hu hr L rfl (fun _ _ _ _ _ => rfl) (fun A' outer s H E f c' hr' => ?_) hdb hd1 hd2) fun σ H Q h => ?_
  · refine hbody (LamX.lamCx X A' outer s H E scope f c') G' (fun cls d _ H => E cls d H) ⟨rfl, B.nd, by have := hr'.un; show (A'.deeper _).units + 200 < cLine; omega, fun g hg => ?_, hhas, fun y d e => ⟨hcon y d e, (B.con y d e).2⟩, B.bi, B.isi, B.rng, B.zip, B.tys, B.oth⟩
      ⟨A.N, rfl, fun y hy => ?_, fun z => by cases z⟩ (takes_of rfl rfl rfl rfl)
    · obtain ⟨fa, fd, ps, q1, q2, q3, q4⟩ := (hcal g hg).ex
      exact ⟨fa, fd, ps, k, q1, q2, q3, hr', q4⟩
    · exact absurd rfl ((L.own (y, .cell) (PySem.mem_of_lookup hy)).2)
  · obtain ⟨l, st, mu, RL, S, h⟩ := h
    refine ⟨S.tb, fun H1 eN T1 => ?_⟩
    have e1 : Ext mu H mu H1 := ⟨⟨[], (List.append_nil _).symm⟩, fun a h n => absurd h (Mu.not_ch.mp n).2, fun _ h => h, fun a h n => absurd h n, fun a o h _ t => eN a o h t⟩
    have S1 : Sim X.K X.mg mu st H1 := ⟨S.len, S.nd, fun n a o h1 h2 => (S.ob n a o h1 h2).mono' e1 fun u hu hp => eN a u hu hp.1, fun a ha => let ⟨⟨xs, hx⟩, n⟩ := S.fo a ha; ⟨⟨xs, eN a _ hx (fun _ z => by cases z)⟩, n⟩, T1⟩
    refine ⟨l, st, mu, RL.mono e1, S1, ?_⟩
    rw [evE, hrun, hG'] at h
    exact fin_tell l1 l2 l3 (fun c he h hh => LO.cat c he t etm h hh) (h.ext e1)
set_option maxHeartbeats 4000000 in
theorem sound (n : Nat) :
    (∀ (X : Cx) (G : Gm) (W : WX) (c : Cs) (m : E) (e : Expr), Bs P X G → At P X G c → Takes X W → okE P n c m e = true → Snd X G W m e) ∧
    (∀ (X : Cx) (G : Gm) (W : WX) (c : Cs) (x : E) (T : Tg) (w : Wk) (d : Oe) (own : List Nat) (el tg it : Expr) (ifs : List Expr) (scope : Scope), Bs P X G → At P X G c → Takes X W → okLc P n c x T w d own el tg it ifs scope = true → LcOk X G W x T w d own el tg it ifs scope) ∧
    (∀ (X : Cx) (G : Gm) (W : WX) (c : Cs) (xs : Es) (es : List Expr), Bs P X G → At P X G c → Takes X W → okEs P n c xs es = true → PA X es (tA X.K X.mg W (evEs G xs)) ∧ ∀ e ∈ es, plainE e = true) ∧
    (∀ (X : Cx) (G : Gm) (W : WX) (c : Cs) (o : Oe) (e : Option Expr), Bs P X G → At P X G c → Takes X W → okO P n c o e = true → PO X e (tO X.K X.mg W (evO G o))) ∧
    (∀ (X : Cx) (G : Gm) (W : WX) (c : Cs) (o : Oe) (es : List Expr), Bs P X G → At P X G c → Takes X W → okC P n c o es = true → PTs X es (tT X.K X.mg W (evC G o))) ∧
    (∀ (X : Cx) (G : Gm) (W : WX) (c : Cs) (w : Wk) (e : Expr), Bs P X G → At P X G c → Takes X W → okW P n c w e = true → (∀ tg, tgW w tg = true → PI X tg e (tG X.K X.mg W (relW X.K X.mg) (evW G w))) ∧ plainE e = true) := by
  induction n with
  | zero =>
    refine ⟨?_, ?_, ?_, ?_, ?_, ?_⟩
    · intro X G W c m e _ _ _ h; simp [okE] at h
    · intro X G W c x T w d own el tg it ifs scope _ _ _ h; simp [okLc] at h
    · intro X G W c xs es _ _ _ h; simp [okEs] at h
    · intro X G W c o e _ _ _ h; simp [okO] at h
    · intro X G W c o e _ _ _ h; simp [okC] at h
    · intro X G W c w e _ _ _ h; simp [okW] at h
  | succ n ih =>
    obtain ⟨ihE, ihL, ihA, ihO, ihC, ihW⟩ := ih
    refine ⟨?_, ?_, ?_, ?_, ?_, ?_⟩
    · intro X G W c m e B A tk h
      unfold okE at h
      split at h
      · exact .of (se_lit pe_non (fun _ _ => .non) fun _ _ => rfl) (fun _ => rfl) (fun _ _ _ z => by cases z)
      · simp only [beq_iff_eq] at h
        subst h
        exact .of (se_lit pe_bl (fun _ _ => .bl _) fun _ _ => rfl) (fun _ => rfl) (fun _ _ _ z => by cases z)
      · simp only [beq_iff_eq] at h
        subst h
        exact .of (se_lit pe_int (fun _ _ => .int _) fun _ _ => rfl) (fun _ => rfl) (fun _ _ _ z => by cases z)
      · simp only [Bool.and_eq_true, beq_iff_eq] at h
        obtain ⟨rfl, h⟩ := h
        unfold strGoodB at h
        simp only [Bool.and_eq_true, decide_eq_true_eq] at h
        exact .of (se_lit pe_str (fun _ _ => .str h) fun _ _ => rfl) (fun _ => rfl) (fun _ _ _ z => by cases z)
      · obtain ⟨h1, h2, h3, h4⟩ := vis_ok A h
        exact .of (se_var h1 h2 h3 h4) (fun _ => rfl) (fun _ _ _ z => by cases z)
      · simp only [Bool.and_eq_true, beq_iff_eq] at h
        obtain ⟨⟨rfl, h1⟩, h2⟩ := h
        obtain ⟨hg, hd⟩ := gbl_ok A h1
        obtain ⟨d, e⟩ := Option.isSome_iff_exists.mp h2
        obtain ⟨e1, v, u, hm, hr, hrep⟩ := B.con _ d e
        exact .of (se_lit (pe_glob hg hm hr hd) hrep fun _ _ => by rw [evE, e1]) (fun _ => rfl) (fun _ _ _ z => by cases z)
      · simp only [Bool.and_eq_true, beq_iff_eq] at h
        obtain ⟨⟨rfl, h1⟩, h2⟩ := h
        obtain ⟨hg, hd⟩ := gbl_ok A h1
        obtain ⟨h2, h3⟩ := hasV_ok h2
        obtain ⟨fa, fd, ps, k, hm, hk, hb, hr, F⟩ := (B.cal _ h2).ex
        rw [h3] at hm
        exact .of (se_lit (pe_glob (v := .ref fa) hg hm rfl hd) (fun _ _ => .fn hm) fun _ _ => rfl) (fun _ => rfl) (fun _ _ _ z => by cases z)
      · exact .of (se_tup (ihA _ _ _ _ _ _ B A tk h).1) (fun _ => rfl) (fun _ _ _ z => by cases z)
      · exact .of (se_lst (ihA _ _ _ _ _ _ B A tk h).1) (fun _ => rfl) (fun _ _ _ z => by cases z)
      · exact .of (se_mls (ihA _ _ _ _ _ _ B A tk h).1) (fun _ => rfl) (fun _ _ _ z => by cases z)
      · exact .of se_mdc (fun _ => rfl) (fun _ _ _ z => by cases z)
      · simp only [Bool.and_eq_true, decide_eq_true_eq] at h
        obtain ⟨⟨rfl, h1⟩, h2⟩ := h
        exact .of (se_bin (ihE _ _ _ _ _ _ B A tk h1).se (ihE _ _ _ _ _ _ B A tk h2).se) (fun _ => rfl) (fun _ _ _ z => by cases z)
      · exact .of (se_neg (ihE _ _ _ _ _ _ B A tk h).se) (fun _ => rfl) (fun _ _ _ z => by cases z)
      · have q := ihE _ _ _ _ _ _ B A tk h
        exact ⟨se_not q.se, st_not q.st, fun ⟨_, _, _, z⟩ => by cases z⟩
      · simp only [Bool.and_eq_true, decide_eq_true_eq] at h
        obtain ⟨⟨rfl, h1⟩, h2⟩ := h
        have q1 := ihE _ _ _ _ _ _ B A tk h1
        have q2 := ihE _ _ _ _ _ _ B A tk h2
        have hm := plain_mark (okE_plain P h2)
        exact ⟨se_cmp B.hu q1.se q2.se (hm _), st_cmp B.hu q1.se q2.se (hm _), fun ⟨_, _, _, z⟩ => by cases z⟩
      · simp only [Bool.and_eq_true, decide_eq_true_eq] at h
        obtain ⟨⟨⟨⟨rfl, rfl⟩, h1⟩, h2⟩, h3⟩ := h
        have q1 := ihE _ _ _ _ _ _ B A tk h1
        have q2 := ihE _ _ _ _ _ _ B A tk h2
        have q3 := ihE _ _ _ _ _ _ B A tk h3
        have hm := plain_mark (okE_plain P h3)
        exact ⟨se_chn B.hu q1.se q2.se q3.se (hm _), st_chn B.hu q1.se q2.se q3.se (hm _), fun ⟨_, _, _, z⟩ => by cases z⟩
      · simp only [Bool.and_eq_true] at h
        have q1 := ihE _ _ _ _ _ _ B A tk h.1
        have q2 := ihE _ _ _ _ _ _ B A tk h.2
        exact ⟨se_and q1.se (pe_one q2.se), (sw_and q1.st (pw_and1 q2.st)).pt, fun _ => sw_and q1.st (pw_and1 q2.st)⟩
      · simp only [Bool.and_eq_true] at h
        have q1 := ihE _ _ _ _ _ _ B A tk h.1
        have q2 := ihE _ _ _ _ _ _ B A tk h.2
        exact ⟨se_and q1.se q2.se, (sw_and q1.st (q2.sw ⟨_, _, _, rfl⟩)).pt, fun _ => sw_and q1.st (q2.sw ⟨_, _, _, rfl⟩)⟩
      · simp only [Bool.and_eq_true] at h
        have q1 := ihE _ _ _ _ _ _ B A tk h.1
        have q2 := ihE _ _ _ _ _ _ B A tk h.2
        exact ⟨se_or q1.se (pe_one q2.se), (sw_or q1.st (pw_or1 q2.st)).pt, fun _ => sw_or q1.st (pw_or1 q2.st)⟩
      · simp only [Bool.and_eq_true] at h
        have q1 := ihE _ _ _ _ _ _ B A tk h.1
        have q2 := ihE _ _ _ _ _ _ B A tk h.2
        exact ⟨se_or q1.se q2.se, (sw_or q1.st (q2.sw ⟨_, _, _, rfl⟩)).pt, fun _ => sw_or q1.st (q2.sw ⟨_, _, _, rfl⟩)⟩
      · simp only [Bool.and_eq_true] at h
        have q1 := ihE _ _ _ _ _ _ B A tk h.1.1
        have q2 := ihE _ _ _ _ _ _ B A tk h.1.2
        have q3 := ihE _ _ _ _ _ _ B A tk h.2
        exact ⟨se_ite q1.st q2.se q3.se, st_ite q1.st q2.st q3.st, fun ⟨_, _, _, z⟩ => by cases z⟩
      · simp only [Bool.and_eq_true, beq_iff_eq] at h
        obtain ⟨⟨⟨rfl, h1⟩, h2⟩, h3⟩ := h
        obtain ⟨hg, hd⟩ := gbl_ok A h1
        obtain ⟨q1, q2⟩ := ihA _ _ _ _ _ _ B A tk h3
        exact .of (se_calL (B.cal _ h2) tk hg hd q1 q2 fun e => okEs_nil (P := P) (by rw [← e]; exact h3)) (fun _ => rfl) (fun _ _ _ z => by cases z)
      · simp only [Bool.and_eq_true] at h
        obtain ⟨h1, h2, h3, h4⟩ := vis_ok A h.1
        obtain ⟨q1, q2⟩ := ihA _ _ _ _ _ _ B A tk h.2
        exact .of (se_calv (fun f hf => by rw [B.ghas] at hf; obtain ⟨z1, z2⟩ := hasV_ok hf; have q := B.cal f z1; rw [z2] at q; exact q) tk h1 h2 h3 h4 q1 (plain_star (q2 _ List.mem_cons_self) _ _) (args_ok (fun e he => q2 e (List.mem_cons_of_mem _ he)) _ _)) (fun _ => rfl) (fun _ _ _ z => by cases z)
      · simp only [Bool.and_eq_true, beq_iff_eq] at h
        obtain ⟨⟨⟨⟨⟨rfl, h1⟩, h2⟩, h3⟩, h4⟩, h5⟩ := h
        obtain ⟨hg, hd⟩ := gbl_ok A h1
        exact .of (se_tel h2 B A h3 hg hd (LamX.lamS_by (by rw [A.sc]; exact h4)) fun X' G' W' B' A' tk' => (ihE X' G' W' _ _ _ B' A' tk' h5).se) (fun _ => rfl) (fun _ _ _ z => by cases z)
      · simp only [Bool.and_eq_true] at h
        obtain ⟨⟨⟨h1, h2⟩, h3⟩, h4⟩ := h
        obtain rfl := eq_of_beq h1
        have hs := plain_star (okE_plain P h4) [] X.env
        exact .of (se_app (ihE _ _ _ _ _ _ B A tk h3).se (ihE _ _ _ _ _ _ B A tk h4).se rfl h2 hs (by rw [hs]; rfl)) (fun _ => rfl) (fun _ _ _ z => by cases z)
      · simp only [Bool.and_eq_true] at h
        obtain ⟨⟨⟨⟨⟨⟨⟨⟨h1, h2⟩, h3⟩, h4⟩, h5⟩, h6⟩, h7⟩, h8⟩, h9⟩ := h
        obtain rfl := eq_of_beq h1
        obtain rfl := eq_of_beq h3
        obtain rfl := eq_of_beq h5
        obtain ⟨gD, _⟩ := gbl_ok A h4
        obtain ⟨gL, _⟩ := gbl_ok A h6
        have s8 := plain_star (okE_plain P h8)
        have s9 := plain_star (okE_plain P h9) [] X.env
        exact .of (se_dgt B.calm B.hu gD (B.oth _ (by simp [othN])) gL (B.bi .list) (ihE _ _ _ _ _ _ B A tk h7).se (ihE _ _ _ _ _ _ B A tk h8).se (ihE _ _ _ _ _ _ B A tk h9).se (plain_star (okE_plain P h7) [] _) rfl
          ⟨rfl, by rw [s8, s9]; rfl, h2, by rw [s8, s9]; rfl⟩) (fun _ => rfl) (fun _ _ _ z => by cases z)
      · simp only [Bool.and_eq_true, decide_eq_true_eq] at h
        obtain ⟨⟨rfl, h1⟩, h2⟩ := h
        exact .of (se_mad (ihE _ _ _ _ _ _ B A tk h1).se (ihE _ _ _ _ _ _ B A tk h2).se) (fun _ => rfl) (fun _ _ _ z => by cases z)
      · exact .of (se_rev (ihE _ _ _ _ _ _ B A tk h).se) (fun _ => rfl) (fun _ _ _ z => by cases z)
      · simp only [Bool.and_eq_true] at h
        obtain ⟨⟨⟨⟨h1, h2⟩, h3⟩, h4⟩, h5⟩ := h
        obtain rfl := eq_of_beq h1
        obtain rfl := eq_of_beq h3
        obtain ⟨gS, _⟩ := gbl_ok A h2
        obtain ⟨gT, _⟩ := gbl_ok A h4
        exact .of (se_rgs1 B.calm gS (fun z => (B.bi z)) gT B.rng (ihE _ _ _ _ _ _ B A tk h5).se (plain_star (okE_plain P h5) [] _) rfl) (fun _ => rfl) (fun _ _ _ z => by cases z)
      · simp only [Bool.and_eq_true] at h
        obtain ⟨⟨⟨⟨⟨h1, h2⟩, h3⟩, h4⟩, h5⟩, h6⟩ := h
        obtain rfl := eq_of_beq h1
        obtain rfl := eq_of_beq h3
        obtain ⟨gS, _⟩ := gbl_ok A h2
        obtain ⟨gT, _⟩ := gbl_ok A h4
        have s6 := plain_star (okE_plain P h6) [] X.env
        exact .of (se_rgs2 B.calm gS (fun z => (B.bi z)) gT B.rng (ihE _ _ _ _ _ _ B A tk h5).se (ihE _ _ _ _ _ _ B A tk h6).se (plain_star (okE_plain P h5) _ _) s6 (by rw [s6]; rfl) rfl) (fun _ => rfl) (fun _ _ _ z => by cases z)
      · simp only [Bool.and_eq_true] at h
        obtain ⟨⟨⟨⟨h1, h2⟩, h3⟩, h4⟩, h5⟩ := h
        obtain rfl := eq_of_beq h1
        obtain rfl := eq_of_beq h3
        obtain ⟨gS, _⟩ := gbl_ok A h2
        obtain ⟨gT, _⟩ := gbl_ok A h4
        exact .of (se_ssr B.calm B.hu gS (B.bi .sorted) gT (B.oth _ (by simp [othN])) (ihE _ _ _ _ _ _ B A tk h5).se (plain_star (okE_plain P h5) [] _) rfl) (fun _ => rfl) (fun _ _ _ z => by cases z)
      · simp only [Bool.and_eq_true, beq_iff_eq] at h
        obtain ⟨⟨rfl, h1⟩, h2⟩ := h
        obtain ⟨hg, hd⟩ := gbl_ok A h1
        obtain ⟨q1, q2⟩ := ihA _ _ _ _ _ _ B A tk h2
        exact .of (se_bi B.calm B.hu hg (B.bi _) q1 (plain_star (q2 _ List.mem_cons_self) _ _) (args_ok (fun e he => q2 e (List.mem_cons_of_mem _ he)) _ _)) (fun _ => rfl) (fun _ _ _ z => by cases z)
      · simp only [Bool.and_eq_true, beq_iff_eq] at h
        obtain ⟨⟨⟨⟨⟨rfl, h1⟩, rfl⟩, h2⟩, h3⟩, h4⟩ := h
        obtain ⟨hg, hd⟩ := gbl_ok A h1
        obtain ⟨hg2, hd2⟩ := gbl_ok A h2
        have q1 := ihE _ _ _ _ _ _ B A tk h4
        rename_i x t p a p2 p3
        have hm : t ∈ isiNames := by simpa using h3
        have hv : bootBuiltins (t : Str) = some (.type t) ∧ (t : Str) ≠ "__name__" := by
          simp only [isiNames, List.mem_cons, List.not_mem_nil, or_false] at hm
          rcases hm with rfl | rfl | rfl | rfl | rfl <;> exact ⟨by decide +kernel, by decide⟩
        exact .of (se_isi hg B.isi hg2 (B.tys t hm) hv.1 hv.2 hd2 q1.se (plain_star (okE_plain P h4) _ _)) (fun _ => rfl) (fun _ _ _ z => by cases z)
      · simp only [Bool.and_eq_true] at h
        exact .of (se_ix B.hu (ihE _ _ _ _ _ _ B A tk h.1).se (ihE _ _ _ _ _ _ B A tk h.2).se (plain_ix (okE_plain P h.2))) (fun _ => rfl) (fun _ _ _ z => by cases z)
      · simp only [Bool.and_eq_true] at h
        exact .of (se_sl (ihE _ _ _ _ _ _ B A tk h.1.1).se (ihO _ _ _ _ _ _ B A tk h.1.2) (ihO _ _ _ _ _ _ B A tk h.2)) (fun _ => rfl) (fun _ _ _ z => by cases z)
      · obtain ⟨h1, h2, h3, ow, h4, h5, h6, h7, h8⟩ := ihL _ _ _ _ _ _ _ _ _ _ _ _ _ _ B A tk h
        subst h4
        exact .of (se_lc B.calm B.nd h1 h5 h3 h6 h7 h8 h2) (fun _ => rfl) (fun _ _ _ z => by cases z)
      · simp only [Bool.and_eq_true, List.all_eq_true] at h
        obtain ⟨⟨⟨⟨⟨h0, k1⟩, k2⟩, k3⟩, k4⟩, k5⟩ := h
        obtain ⟨h1, h2, h3, ow, h4, h5, h6, h7, h8⟩ := ihL _ _ _ _ _ _ _ _ _ _ _ _ _ _ B A tk h0
        subst h4
        exact .of (se_lc2 B.calm B.nd h1 h5 h3 (fun i hi => by simpa using k1 i hi) h6 h7 (fun s H C cl fp => (ihW _ G WF _ _ _ (B.blk s H _ _ fp) (A.blk s H _ C cl fp) takesF k3).1 _ k2)
          (fun s H C cl fp => okTg_ok (B.blk s H _ _ fp) (A.blk s H _ C cl fp) k4) (fun s H C cl fp => ihC _ G WF _ _ _ (B.blk s H _ _ fp) (A.blk s H _ C cl fp) takesF k5) h8 h2 (fun env x => plain_fold (okW_plain P k3) env x)) (fun _ => rfl) (fun _ _ _ z => by cases z)
      · cases h
    · intro X G W c x T w d own el tg it ifs scope B A tk h
      unfold okLc at h
      split at h
      · rename_i ow e
        simp only [Bool.and_eq_true, List.all_eq_true] at h
        obtain ⟨⟨⟨⟨⟨⟨h1, h2⟩, h3t⟩, h3⟩, h4⟩, h5⟩, h6⟩ := h
        obtain ⟨q1, q2⟩ := ihW _ _ _ _ _ _ B A tk h3
        refine ⟨q1 tg h3t, plain_fold q2 _, fun i hi => by simpa using h2 i hi, ow, ownOf_eq e, by rw [A.N, A.sc]; exact blkOk_by h1, fun s H C cl fp => ?_, fun s H C cl fp => ?_, fun s H C cl fp => ?_⟩
        · exact okTg_ok (B.blk s H scope _ fp) (A.blk s H scope C cl fp) h4
        · exact ihC (X.blk s H scope (compEnvC scope cl C X.env) fp) G WF _ _ _ (B.blk s H scope _ fp) (A.blk s H scope C cl fp) takesF h5
        · exact (ihE (X.blk s H scope (compEnvC scope cl C X.env) fp) G WF _ _ _ (B.blk s H scope _ fp) (A.blk s H scope C cl fp) takesF h6).se
      · cases h
    · intro X G W c xs es B A tk h
      unfold okEs at h
      split at h
      · cases h
      · exact ⟨sa_nil, fun e he => by cases he⟩
      · rename_i n' x xs e es heq
        cases heq
        simp only [Bool.and_eq_true] at h
        have q1 := ihE _ _ _ _ _ _ B A tk h.1
        obtain ⟨q2, q3⟩ := ihA _ _ _ _ _ _ B A tk h.2
        refine ⟨sa_cons q1.se q2 (plain_star (okE_plain P h.1) _ _), fun e' he => ?_⟩
        rcases List.mem_cons.mp he with rfl | he
        · exact okE_plain P h.1
        · exact q3 e' he
      · cases h
    · intro X G W c o e B A tk h
      unfold okO at h
      split at h
      · cases h
      · exact so_none
      · rename_i heq
        cases heq
        exact so_some (ihE _ _ _ _ _ _ B A tk h).se
      · cases h
    · intro X G W c o es B A tk h
      unfold okC at h
      split at h
      · cases h
      · exact sc_nil
      · rename_i heq
        cases heq
        exact sc_one (ihE _ _ _ _ _ _ B A tk h).st
      · cases h
    · intro X G W c w e B A tk h
      unfold okW at h
      split at h
      · cases h
      · rename_i heq
        cases heq
        exact ⟨fun tg _ => pi_seqD (ihE _ _ _ _ _ _ B A tk h).se, okE_plain P h⟩
      · rename_i heq
        cases heq
        simp only [Bool.and_eq_true, beq_iff_eq] at h
        obtain ⟨⟨rfl, h1⟩, h2⟩ := h
        obtain ⟨hg, hd⟩ := gbl_ok A h1
        exact ⟨fun tg _ => pi_rng1D hg B.rng (ihE _ _ _ _ _ _ B A tk h2).se (plain_star (okE_plain P h2) [] _), rfl⟩
      · rename_i heq
        cases heq
        simp only [Bool.and_eq_true, beq_iff_eq] at h
        obtain ⟨⟨⟨rfl, h1⟩, h2⟩, h3⟩ := h
        obtain ⟨hg, hd⟩ := gbl_ok A h1
        refine ⟨fun tg _ => pi_rng2D hg B.rng (ihE _ _ _ _ _ _ B A tk h2).se (ihE _ _ _ _ _ _ B A tk h3).se ?_ (plain_star (okE_plain P h3) [] _), rfl⟩
        rw [plain_star (okE_plain P h2), plain_star (okE_plain P h3)]
        rfl
      · rename_i heq
        cases heq
        simp only [Bool.and_eq_true, beq_iff_eq] at h
        obtain ⟨⟨rfl, h1⟩, h2⟩ := h
        obtain ⟨hg, hd⟩ := gbl_ok A h1
        refine ⟨fun tg ht => ?_, rfl⟩
        cases tg with
        | Tuple elts kk tpos => exact pi_enuD hg (B.oth _ (by simp [othN])) (ihE _ _ _ _ _ _ B A tk h2).se (plain_star (okE_plain P h2) [] _)
        | _ => simp [tgW, tupTg] at ht
      · rename_i heq
        cases heq
        simp only [Bool.and_eq_true, beq_iff_eq] at h
        obtain ⟨⟨⟨rfl, h1⟩, h2⟩, h3⟩ := h
        obtain ⟨hg, hd⟩ := gbl_ok A h1
        refine ⟨fun tg ht => ?_, rfl⟩
        cases tg with
        | Tuple elts kk tpos => exact pi_zipD hg B.zip (ihE _ _ _ _ _ _ B A tk h2).se (ihE _ _ _ _ _ _ B A tk h3).se (plain_star (okE_plain P h2) _ _) (plain_star (okE_plain P h3) [] _) (args_ok (fun e he => by
            have := List.mem_singleton.mp he
            rw [this]; exact okE_plain P h3) _ _)
        | _ => simp [tgW, tupTg] at ht
      · cases h
end
end CP

set_option Elab.async false
set_option linter.all false
set_option maxRecDepth 100000
set_option autoImplicit false
/-! CpProg: statements checked; defs, and a whole program. -/
namespace CP
open PySem PySem.Spec PyProof.Rows L2

def isLc : Expr → Bool
  | .ListComp _ _ _ _ => true
  | _ => false
def isTup : Expr → Bool
  | .Tuple _ _ _ => true
  | _ => false
/-- a, b = x, y stored without a tuple -/
def parB (c : Cs) (n m : Str) (pn pm : Pos) (a b : Expr) : Bool :=
  (match c.sc.names.lookup n with | some .local => true | _ => false) && (match c.sc.names.lookup m with | some .local => true | _ => false) && !(n == m) && (pm.line == pn.line) && !([a, b].all (foldedForSure 8)) && !([a, b].all (constantsAlone 8))
def parB3 (c : Cs) (n m r : Str) (pn pm pr : Pos) (a b d : Expr) : Bool :=
  (match c.sc.names.lookup n with | some .local => true | _ => false) && (match c.sc.names.lookup m with | some .local => true | _ => false) && (match c.sc.names.lookup r with | some .local => true | _ => false) && !(n == m) && !(n == r) && !(m == r) && (pm.line == pn.line) && (pr.line == pn.line) && !([a, b, d].all (foldedForSure 8)) && !([a, b, d].all (constantsAlone 8))
/-- name = [..] on one line -/
def swB (c : Cs) (scope : Scope) (n : Str) (p pv : Pos) : Bool :=
  (match c.sc.names.lookup n with | some .local => true | _ => false) && (p.line == pv.line) && !(scope.names.any fun (m, k) => m == n && (k == .local || k == .cell))
/-- some name is none of the function's own -/
def celB (c : Cs) (xs : List (Str × Pos)) : Bool := !(xs.length == 2 || xs.length == 3) || xs.any fun p => !(match c.sc.names.lookup p.1 with | some .local => true | _ => false)
variable (P : Pg)
def okSet (n : Nat) (c : Cs) (i : Nat) (x : E) (y : Str) (p : Pos) (a : Expr) : Bool := match x, a with
  | .lc x T w d own, .ListComp el [⟨tg, it, ifs, 0⟩] scope pv => stor c i y && swB c scope y p pv && okLc P n c x T w d own el tg it ifs scope
  | .lc2 x T w d own T1 w1 d1, .ListComp el [⟨tg, it, ifs, 0⟩, ⟨tg1, it1, ifs1, 0⟩] scope pv => stor c i y && swB c scope y p pv && (okLc P n c x T w d own el tg it ifs scope && (T1.ix.all fun i => own.contains i) && tgW w1 tg1 && okW P n (c.blk scope) w1 it1 && okTg (c.blk scope) T1 tg1 && okC P n (c.blk scope) d1 ifs1)
  | x, a => stor c i y && !isLc a && okE P n c x a
mutual
def okS : Nat → Cs → S → Stmt → Bool
  | 0, _, _, _ => false
  | n + 1, c, m, e => match m, e with
    | .ret x, .Return (some a) _ => okE P n c x a
    | .retN, .Return none _ => true
    | .pass, .Expr (.Constant (.str _) _ _) _ => true
    | .pass, .Pass _ => true
    | .brk, .Break _ => true
    | .cnt, .Continue _ => true
    | .expr x, .Expr a _ => !isLc a && okE P n c x a
    | .set i x, .Assign [.Name y p] a _ => okSet P n c i x y p a
    | .setT is x, .Assign [.Tuple es _ _] a _ => (match namesOf es with
      | some xs => decide (is.length = xs.length) && ((is.zip xs).all fun p => stor c p.1 p.2.1) && (!isTup a || celB c xs)
      | none => false) && !isLc a && okE P n c x a
    | .par i j x y, .Assign [.Tuple [.Name u pu, .Name v pv] _ _] (.Tuple [a, b] _ _) _ => decide (c.N[i]? = some u) && decide (c.N[j]? = some v) && !(i == j) && parB c u v pu pv a b && okE P n c x a && okE P n c y b
    | .par3 i j k x y z, .Assign [.Tuple [.Name u pu, .Name v pv, .Name r pr] _ _] (.Tuple [a, b, d] _ _) _ => decide (c.N[i]? = some u) && decide (c.N[j]? = some v) && decide (c.N[k]? = some r) && !(i == j) && !(i == k) && !(j == k) && parB3 c u v r pu pv pr a b d && okE P n c x a && okE P n c y b && okE P n c z d
    | .sub x y z, .Assign [.Subscript o i _] v _ => !isLc v && okE P n c x o && okE P n c y i && okE P n c z v
    | .ite x p q, .If a s1 s2 _ => okE P n c x a && okSs n c p s1 && okSs n c q s2
    | .whl x p, .While a s1 [] _ => okE P n c x a && okSs n c p s1
    | .for T w p, .For tg it s1 [] _ => okTg c T tg && tgW w tg && okW P n c w it && okSs n c p s1
    | .raise g, .Raise (some (.Call (.Name h _) [.Constant (.str _) _ _] [] _)) none _ => g == h && gbl c h && P.excs.contains h
    | _, _ => false
def okSs : Nat → Cs → Ss → List Stmt → Bool
  | 0, _, _, _ => false
  | _ + 1, _, .nil, [] => true
  | n + 1, c, .cons x xs, e :: es => okS n c x e && okSs n c xs es
  | _ + 1, _, _, _ => false
end

structure ExcK (K : PySem.W.Frag) (mg : Str → Option Value) (c : Str) : Prop where
  ex : ∃ C, mg c = some (.ref C) ∧ PySem.W.excIn K C [.type "ValueError", .type "Exception", .type "BaseException", .type "object"] "ValueError.__new__" = true ∧ PySem.W.keepIn K (.ref C) = true ∧
    PySem.W.subIn K (.ref C) (.type "BaseException") = some true ∧ PySem.W.typeIn K (.ref C) = some (.type "type")
structure Bt (X : Cx) (G : Gm) : Prop where
  bs : Bs P X G
  exc : ∀ c, P.excs.contains c = true → ExcK X.K X.mg c
  pass : PassesOwn (model X.prog X.w) X.A X.env X.xe
  kind : X.env.scope.kind = .function
section
variable {P : Pg} {X : Cx} {G : Gm} {c : Cs} {W : WX}
theorem sw_false {a : Expr} (h : isLc a = false) (hp : plainE a = true) (t : Option Expr) (l : Nat) (env : Env) : swapsWith a t l env = pure false := by
  cases a <;> first | (simp [isLc] at h; done) | (simp [plainE] at hp; done) | rfl
theorem sws_false {a : Expr} (h : isLc a = false) (hp : plainE a = true) (t : Expr) (l : Nat) (env : Env) : swapsWithSole [t] a l env = pure false := sw_false h hp (some t) l env
theorem sst_none {a : Expr} (h : isTup a = false) (es : List Expr) (k : Nat) (p : Pos) (env : Env) : swappedStores [.Tuple es k p] a env = pure none := by
  cases a <;> first | (simp [isTup] at h; done) | rfl
theorem fm_lt {α β : Type} (f : α → Option β) : ∀ {xs : List α}, (∃ x ∈ xs, f x = none) → (xs.filterMap f).length < xs.length
  | [], ⟨x, h, _⟩ => by cases h
  | y :: ys, ⟨x, h, e⟩ => by
    rcases List.mem_cons.mp h with rfl | h
    · rw [List.filterMap_cons_none e, List.length_cons]
      exact Nat.lt_succ_of_le (List.length_filterMap_le f ys)
    · have ih := fm_lt f (xs := ys) ⟨x, h, e⟩
      cases ey : f y with
      | none => rw [List.filterMap_cons_none ey, List.length_cons]; omega
      | some z => rw [List.filterMap_cons_some ey, List.length_cons, List.length_cons]; omega
theorem sst_cell (A : At P X G c) {xs : List (Str × Pos)} (h : celB c xs = true) (k : Nat) (p : Pos) (a : Expr) : swappedStores [.Tuple (xs.map fun p => .Name p.1 p.2) k p] a X.env = pure none := by
  cases a <;> try rfl
  rename_i vs k2 p2
  unfold celB at h
  rw [Bool.or_eq_true] at h
  unfold swappedStores
  simp only
  rcases h with h | h
  · rw [if_pos]
    rw [List.length_map, h]
    rfl
  split
  · rfl
  split
  · rfl
  rw [if_pos]
  rw [Bool.or_eq_true]
  refine .inl (bne_iff_ne.mpr (Nat.ne_of_lt (fm_lt _ ?_)))
  obtain ⟨q, hq, e⟩ := List.any_eq_true.mp h
  refine ⟨.Name q.1 q.2, List.mem_map.mpr ⟨q, hq, rfl⟩, ?_⟩
  simp only
  rw [if_neg]
  intro hh
  rw [Bool.and_eq_true, beq_iff_eq] at hh
  have hk : X.env.scope.names.lookup q.1 = some .local := hh.1
  rw [A.sc] at hk
  rw [hk] at e
  cases e
theorem sub_none (o i : Expr) (p : Pos) (a : Expr) (env : Env) : swappedStores [.Subscript o i p] a env = pure none := by
  cases a <;> rfl
theorem sub_asg {i : Expr} (h : plainE i = true) (o : Expr) (p : Pos) (env : Env) : ∀ v, assign (.Subscript o i p) env v = (do
      let ov ← holding [v] (eval o env)
      let iv ← holding [v, ov] (eval i env)
      standAt p
      holding [v, ov, iv] (setItem ov iv v)
      release [v, ov, iv] []) := fun v => by
  cases i <;> first | (simp [plainE] at h; done) | rfl
theorem par_ok (hk : X.env.scope.kind = .function) (A : At P X G c) {n m : Str} {pn pm pt pt2 : Pos} {kt k2 : Nat} {a b : Expr} (h : parB c n m pn pm a b = true) (ha : plainE a = true) (hb : plainE b = true) :
    X.env.scope.names.lookup n = some .local ∧ X.env.scope.names.lookup m = some .local ∧ swappedStores [.Tuple [.Name n pn, .Name m pm] kt pt] (.Tuple [a, b] k2 pt2) X.env = pure (some [n, m]) := by
  unfold parB at h
  simp only [Bool.and_eq_true, Bool.not_eq_true'] at h
  obtain ⟨⟨⟨⟨⟨h1, h2⟩, h3⟩, h4⟩, h5⟩, h6⟩ := h
  have l1 : X.env.scope.names.lookup n = some .local := by
    rw [A.sc]
    split at h1
    · assumption
    · cases h1
  have l2 : X.env.scope.names.lookup m = some .local := by
    rw [A.sc]
    split at h2
    · assumption
    · cases h2
  refine ⟨l1, l2, ?_⟩
  have k1 : X.env.kindOf n = some .local := l1
  have k2' : X.env.kindOf m = some .local := l2
  have bk : X.env.blockKind = .function := by unfold Env.blockKind; rw [hk]; rfl
  have star : ∀ e : Expr, plainE e = true → (match e with | .Starred _ _ => true | _ => false) = false := fun e h => by
    cases e <;> first | (simp [plainE] at h; done) | rfl
  have sa := star a ha
  have sb := star b hb
  have h4' : pm.line = pn.line := by simpa using h4
  have h3' : ¬ m = n := fun e => by rw [e] at h3; simp at h3
  have e5 : List.all [a, b] (foldedForSure 8) = false := h5
  have e6 : List.all [a, b] (constantsAlone 8) = false := h6
  unfold swappedStores
  simp only [List.length_cons, List.length_nil, bk, List.any_cons, List.any_nil, sa, sb, List.head?_cons, Option.map_some, Option.getD_some, Expr.pos, List.filterMap_cons, List.filterMap_nil, k1, k2', h4', beq_self_eq_true, Bool.and_self, if_true, e5, e6]
  simp [h3', List.eraseDups_cons]
  intro h
  exfalso
  have no : ∀ e : Expr, plainE e = true → (match e with | .Starred _ _ => true | _ => false) = true → False := fun e h1 h2 => by rw [star e h1] at h2; cases h2
  rcases h with h | h
  · exact no a ha h
  · exact no b hb h
set_option maxHeartbeats 4000000 in
theorem par_ok3 (hk : X.env.scope.kind = .function) (A : At P X G c) {n m r : Str} {pn pm pr pt pt2 : Pos} {kt k2 : Nat} {a b d : Expr} (h : parB3 c n m r pn pm pr a b d = true) (ha : plainE a = true) (hb : plainE b = true) (hd : plainE d = true) :
    X.env.scope.names.lookup n = some .local ∧ X.env.scope.names.lookup m = some .local ∧ X.env.scope.names.lookup r = some .local ∧ swappedStores [.Tuple [.Name n pn, .Name m pm, .Name r pr] kt pt] (.Tuple [a, b, d] k2 pt2) X.env = pure (some [n, m, r]) := by
  unfold parB3 at h
  simp only [Bool.and_eq_true, Bool.not_eq_true'] at h
  obtain ⟨⟨⟨⟨⟨⟨⟨⟨⟨h1, h2⟩, h3⟩, n1⟩, n2⟩, n3⟩, g1⟩, g2⟩, h5⟩, h6⟩ := h
  have l1 : X.env.scope.names.lookup n = some .local := by
    rw [A.sc]; split at h1
    · assumption
    · cases h1
  have l2 : X.env.scope.names.lookup m = some .local := by
    rw [A.sc]; split at h2
    · assumption
    · cases h2
  have l3 : X.env.scope.names.lookup r = some .local := by
    rw [A.sc]; split at h3
    · assumption
    · cases h3
  refine ⟨l1, l2, l3, ?_⟩
  have k1 : X.env.kindOf n = some .local := l1
  have k2' : X.env.kindOf m = some .local := l2
  have k3 : X.env.kindOf r = some .local := l3
  have bk : X.env.blockKind = .function := by unfold Env.blockKind; rw [hk]; rfl
  have star : ∀ e : Expr, plainE e = true → (match e with | .Starred _ _ => true | _ => false) = false := fun e h => by
    cases e <;> first | (simp [plainE] at h; done) | rfl
  have sa := star a ha
  have sb := star b hb
  have sd := star d hd
  have g1' : pm.line = pn.line := by simpa using g1
  have g2' : pr.line = pn.line := by simpa using g2
  have m1 : ¬ m = n := fun e => by rw [e] at n1; simp at n1
  have m2 : ¬ r = n := fun e => by rw [e] at n2; simp at n2
  have m3 : ¬ r = m := fun e => by rw [e] at n3; simp at n3
  have e5 : List.all [a, b, d] (foldedForSure 8) = false := h5
  have e6 : List.all [a, b, d] (constantsAlone 8) = false := h6
  unfold swappedStores
  simp only [List.length_cons, List.length_nil, bk, List.any_cons, List.any_nil, sa, sb, sd, List.head?_cons, Option.map_some, Option.getD_some, Expr.pos, List.filterMap_cons, List.filterMap_nil, k1, k2', k3, g1', g2', beq_self_eq_true, Bool.and_self, if_true, e5, e6]
  simp [m1, m2, m3, List.eraseDups_cons]
  intro h
  exfalso
  have no : ∀ e : Expr, plainE e = true → (match e with | .Starred _ _ => true | _ => false) = true → False := fun e h1 h2 => by rw [star e h1] at h2; cases h2
  rcases h with h | h | h
  · exact no a ha h
  · exact no b hb h
  · exact no d hd h
theorem set_ok {n i : Nat} {x : E} {y : Str} {p pos : Pos} {a : Expr} (B : Bt P X G) (A : At P X G c) (tk : Takes X W) (h : okSet P n c i x y p a = true) : SS X G W (.Assign [.Name y p] a pos) (.set i x) := by
  unfold okSet at h
  split at h
  · simp only [Bool.and_eq_true] at h
    obtain ⟨⟨h1, h2⟩, h3⟩ := h
    obtain ⟨q1, q2, q3, ow, q4, q5, q6, q7, q8⟩ := (sound n).2.1 _ _ _ _ _ _ _ _ _ _ _ _ _ _ B.bs A tk h3
    subst q4
    unfold swB at h2
    simp only [Bool.and_eq_true, Bool.not_eq_true'] at h2
    have hl : X.env.scope.names.lookup y = some .local := by
      rw [A.sc]
      have h := h2.1.1
      split at h
      · assumption
      · cases h
    exact ss_setLc B.bs.calm B.bs.nd (stor_ok A h1).ix hl (sw_true B.kind hl h2.1.2 h2.2) q1 q5 q3 q6 q7 q8 q2
  · simp only [Bool.and_eq_true, List.all_eq_true] at h
    obtain ⟨⟨h1, h2⟩, ⟨⟨⟨⟨⟨h3, k1⟩, k2⟩, k3⟩, k4⟩, k5⟩⟩ := h
    obtain ⟨q1, q2, q3, ow, q4, q5, q6, q7, q8⟩ := (sound n).2.1 _ _ _ _ _ _ _ _ _ _ _ _ _ _ B.bs A tk h3
    subst q4
    unfold swB at h2
    simp only [Bool.and_eq_true, Bool.not_eq_true'] at h2
    have hl : X.env.scope.names.lookup y = some .local := by
      rw [A.sc]
      have h := h2.1.1
      split at h
      · assumption
      · cases h
    have ihW := (sound (P := P) n).2.2.2.2.2
    have ihC := (sound (P := P) n).2.2.2.2.1
    exact ss_setLc2 B.bs.calm B.bs.nd (stor_ok A h1).ix hl (sw_true B.kind hl h2.1.2 h2.2) q1 q5 q3 (fun i hi => by simpa using k1 i hi) q6 q7 (fun s H C cl fp => (ihW _ G WF _ _ _ (B.bs.blk s H _ _ fp) (A.blk s H _ C cl fp) takesF k3).1 _ k2)
      (fun s H C cl fp => okTg_ok (B.bs.blk s H _ _ fp) (A.blk s H _ C cl fp) k4) (fun s H C cl fp => ihC _ G WF _ _ _ (B.bs.blk s H _ _ fp) (A.blk s H _ C cl fp) takesF k5) q8 q2 (fun env x => plain_fold (okW_plain P k3) env x)
  · simp only [Bool.and_eq_true, Bool.not_eq_true'] at h
    obtain ⟨⟨h1, h2⟩, h3⟩ := h
    exact ss_set B.bs.nd (stor_ok A h1) ((sound n).1 _ _ _ _ _ _ B.bs A tk h3).se (sw_false h2 (okE_plain P h3) _ _ _)
set_option maxHeartbeats 4000000 in
theorem soundS (n : Nat) :
    (∀ (X : Cx) (G : Gm) (W : WX) (c : Cs) (m : S) (e : Stmt), Bt P X G → At P X G c → Takes X W → okS P n c m e = true → SS X G W e m) ∧
    (∀ (X : Cx) (G : Gm) (W : WX) (c : Cs) (xs : Ss) (es : List Stmt), Bt P X G → At P X G c → Takes X W → okSs P n c xs es = true → SSs X G W es xs) := by
  induction n with
  | zero =>
    refine ⟨?_, ?_⟩
    · intro X G W c m e _ _ _ h; simp [okS] at h
    · intro X G W c xs es _ _ _ h; simp [okSs] at h
  | succ n ih =>
    obtain ⟨ihS, ihB⟩ := ih
    refine ⟨?_, ?_⟩
    · intro X G W c m e B A tk h
      have E : ∀ {m e}, okE P n c m e = true → Snd X G W m e := fun h => (sound n).1 _ _ _ _ _ _ B.bs A tk h
      unfold okS at h
      split at h
      · exact ss_ret (E h).se
      · exact ss_retN
      · exact ss_doc
      · exact ss_pass
      · exact ss_brk
      · exact ss_cnt
      · simp only [Bool.and_eq_true, Bool.not_eq_true'] at h
        exact ss_expr (E h.2).se (sw_false h.1 (okE_plain P h.2) _ _ _)
      · exact set_ok B A tk h
      · simp only [Bool.and_eq_true, Bool.not_eq_true'] at h
        obtain ⟨⟨h1, h2⟩, h4⟩ := h
        split at h1
        · rename_i xs e
          simp only [Bool.and_eq_true, decide_eq_true_eq, List.all_eq_true, Bool.or_eq_true, Bool.not_eq_true'] at h1
          rw [namesOf_eq e]
          exact ss_setT B.bs.nd B.bs.calm h1.1.1 (fun p hp => stor_ok A (h1.1.2 p hp)) (E h4).se (sws_false h2 (okE_plain P h4) _ _ _) (h1.2.elim (fun h3 => sst_none h3 _ _ _ _) fun h3 => sst_cell A h3 _ _ _)
        · cases h1
      · simp only [Bool.and_eq_true, decide_eq_true_eq, Bool.not_eq_true', beq_eq_false_iff_ne] at h
        obtain ⟨⟨⟨⟨⟨h1, h2⟩, h3⟩, h4⟩, h5⟩, h6⟩ := h
        obtain ⟨l1, l2, hw⟩ := par_ok B.kind A h4 (okE_plain P h5) (okE_plain P h6)
        exact ss_par B.bs.calm B.bs.nd (by rw [A.N]; exact h1) (by rw [A.N]; exact h2) h3 l1 l2 (E h5).se (E h6).se (plain_star (okE_plain P h5) _ _) (plain_star (okE_plain P h6) _ _) hw
      · simp only [Bool.and_eq_true, decide_eq_true_eq, Bool.not_eq_true', beq_eq_false_iff_ne] at h
        obtain ⟨⟨⟨⟨⟨⟨⟨⟨⟨h1, h2⟩, h3⟩, n1⟩, n2⟩, n3⟩, h4⟩, h5⟩, h6⟩, h7⟩ := h
        obtain ⟨l1, l2, l3, hw⟩ := par_ok3 B.kind A h4 (okE_plain P h5) (okE_plain P h6) (okE_plain P h7)
        exact ss_par3 B.bs.calm B.bs.nd (by rw [A.N]; exact h1) (by rw [A.N]; exact h2) (by rw [A.N]; exact h3) n1 n2 n3 l1 l2 l3 (E h5).se (E h6).se (E h7).se (plain_star (okE_plain P h5) _ _) (plain_star (okE_plain P h6) _ _) (plain_star (okE_plain P h7) _ _) hw
      · simp only [Bool.and_eq_true, Bool.not_eq_true'] at h
        obtain ⟨⟨⟨h1, h2⟩, h3⟩, h4⟩ := h
        exact ss_sub B.bs.hu (E h2).se (E h3).se (E h4).se (sws_false h1 (okE_plain P h4) _ _ _) (sub_none _ _ _ _ _) (sub_asg (okE_plain P h3) _ _ _)
      · simp only [Bool.and_eq_true] at h
        exact ss_ite (E h.1.1).st (ihB _ _ _ _ _ _ B A tk h.1.2) (ihB _ _ _ _ _ _ B A tk h.2)
      · simp only [Bool.and_eq_true] at h
        exact ss_whl B.pass (E h.1).st (ihB _ _ _ _ _ _ B A tk h.2)
      · simp only [Bool.and_eq_true] at h
        obtain ⟨q1, q2⟩ := (sound n).2.2.2.2.2 _ _ _ _ _ _ B.bs A tk h.1.2
        exact ss_for B.pass B.bs.calm (q1 _ h.1.1.2) (okTg_ok B.bs A h.1.1.1) (ihB _ _ _ _ _ _ B A tk h.2) (plain_fold q2 _)
      · simp only [Bool.and_eq_true, beq_iff_eq] at h
        obtain ⟨⟨rfl, h1⟩, h2⟩ := h
        obtain ⟨hg, hd⟩ := gbl_ok A h1
        exact ss_raise ⟨(B.exc _ h2).ex⟩ B.bs.calm tk hg hd
      · cases h
    · intro X G W c xs es B A tk h
      unfold okSs at h
      split at h
      · cases h
      · exact sss_nil
      · rename_i heq
        cases heq
        simp only [Bool.and_eq_true] at h
        exact sss_cons (ihS _ _ _ _ _ _ B A tk h.1) (ihB _ _ _ _ _ _ B A tk h.2)
      · cases h
end

/-! ### a def, by its body -/
section
variable {P : Program} {w : World} {K : PySem.W.Frag} {mg : Str → Option Value} {base : Heap}
/-- what the top has written -/
structure Glob (Q : Pg) (K : PySem.W.Frag) (mg : Str → Option Value) : Prop where
  con : ∀ x d, Q.con.lookup x = some d → ∃ v u, mg x = some u ∧ RelV v u ∧ ∀ mu H, Rep K mg mu H v d
  bi : ∀ f : B, mg f.nm = none
  isi : mg "isinstance" = none
  rng : mg "range" = none
  zip : mg "zip" = none
  tys : ∀ t ∈ isiNames, mg (t : Str) = none
  oth : ∀ t ∈ othN, mg t = none
  exc : ∀ c, Q.excs.contains c = true → ExcK K mg c
/-- a def that makes lambdas: its code object and its table -/
structure TbAt (K : PySem.W.Frag) (mg : Str → Option Value) (x : Str) (p : Addr × Addr) : Prop where
  ex : ∃ (f : Addr) (oc : Value) (od : Option Addr) (fd : FuncData) (osl : Array (Option Value)), mg x = some (.ref f) ∧ K.lookup f = some ⟨oc, od, .func fd, osl⟩ ∧ fd.code = .ref p.1
  tab : PySem.W.tabIn K x = some p
  no : K.lookup p.2 = none
structure LamK (Q : Pg) (K : PySem.W.Frag) (mg : Str → Option Value) (cs : List (Addr × Addr)) : Prop where
  tel : ∀ f t, Q.tel? f = some t → TelAt K mg t
  cat : ∀ c, Q.excs.contains c = true → ∀ t ∈ Q.tels, ∀ h ∈ t.hs, ∀ C CS, mg c = some (.ref C) → mg h.1 = some (.ref CS) → PySem.W.exmOne K (.ref C) (.ref CS) = some (Q.sub c h.1)
  tb : ∀ x ∈ lamDefs, ∃ p ∈ cs, TbAt K mg x p
  un : ∀ p ∈ cs, ∃ x ∈ lamDefs, TbAt K mg x p
  uq : ∀ x ∈ lamDefs, ∀ y ∈ lamDefs, ∀ p q, TbAt K mg x p → TbAt K mg y q → p.2 = q.2 → x = y
theorem tabs_mem {cs : List (Addr × Addr)} {Q : Pg} (L : LamK Q K mg cs) {x : Str} (hx : x ∈ lamDefs) {p : Addr × Addr} (h : TbAt K mg x p) : (p.2, x ++ ".<locals>." ++ "<lambda>") ∈ tabsOf K := by
  unfold tabsOf
  rw [List.mem_filterMap]
  exact ⟨x, hx, by rw [h.tab]; rfl⟩
theorem tabs_uq {cs : List (Addr × Addr)} {Q : Pg} (L : LamK Q K mg cs) {x : Str} (hx : x ∈ lamDefs) {p : Addr × Addr} (h : TbAt K mg x p) : ∀ q ∈ tabsOf K, q.1 = p.2 → q.2 = x ++ ".<locals>." ++ "<lambda>" := fun q hq e => by
  unfold tabsOf at hq
  rw [List.mem_filterMap] at hq
  obtain ⟨y, hy, e2⟩ := hq
  obtain ⟨p', hp', h'⟩ := L.tb y hy
  rw [h'.tab] at e2
  cases e2
  rw [L.uq x hx y hy p p' h h' e.symm]
theorem repL_start {mu : Mu} {H : Hp} {N : List Str} {vs : List V} {ds : List D} {np nn : Nat} (r : Reps K mg mu H vs ds) (hd : ds.length = np) (hn : N.length = nn) (hl : np ≤ nn) : RepL K mg mu H (L2.start N vs) (ds.map some ++ List.replicate (nn - np) none) := by
  have e := r.length
  refine ⟨?_, fun i d h => ?_⟩
  · unfold L2.start
    simp only [List.length_append, List.length_map, List.length_replicate]
    omega
  · by_cases hi : i < ds.length
    · rw [List.getElem?_append_left (by simpa using hi), List.getElem?_map] at h
      cases e2 : ds[i]? with
      | none => rw [e2] at h; cases h
      | some d' =>
        rw [e2] at h
        cases h
        obtain ⟨v, h1, h2⟩ := r.get e2
        refine ⟨v, ?_, h2⟩
        unfold L2.start
        rw [List.getElem?_append_left (by rw [List.length_map, e]; exact hi), List.getElem?_map, h1]
        rfl
    · rw [List.getElem?_append_right (by simpa using hi), List.getElem?_replicate] at h
      split at h <;> cases h
theorem gm_succ (Q : Pg) (k : Nat) (x : Str) (ds : List D) (st : So) : calN Q (k + 1) x ds st = match Q.fns.find? fun f => f.name == x with
    | some f => runBody (gmN Q k) f ds st
    | none => .bad := by
  unfold calN
  cases k <;> rfl
theorem gm_has (Q : Pg) (k : Nat) : (gmN Q k).has = Q.hasV := by
  cases k with
  | zero => rfl
  | succ k => cases k <;> rfl
theorem gm_con0 (Q : Pg) (k : Nat) (x : Str) : (gmN Q k).con x = Q.con.lookup x := by
  cases k with
  | zero => rfl
  | succ k => cases k <;> rfl
theorem fn_ok {Q : Pg} {k n : Nat} {x y : Str} {lm : Bool} {st : Stmt} {f : Addr} {fd : FuncData} {N ps : List Str} {fe : Fn} {cs : List (Addr × Addr)} (F : Fun K y y st f fd) (hmx : mg x = some (.ref f)) (hlm : lm = true → lamDefs.contains x = true ∧ x = y) (S : FnScope N ps (defScope st)) (hnp : ps.length = fe.np) (hnn : N.length = fe.nn)
    (ok : okSs Q n ⟨N, defScope st, none, lm⟩ fe.body (defBody st) = true) (hG : Glob Q K mg) (hL : LamK Q K mg cs) (hTB : ∀ p ∈ cs, LamX.TabB base mg p.1 p.2)
    (hC : ∀ j ≤ k, ∀ f, Q.has f = true → FnAt P w K mg base j (Q.py f) (calN Q j f)) :
    FnOk P w K mg base (L2.CX P w) (k + 1) f fd ps (spF K mg fun ds st => runBody (gmN Q k) fe ds st) := by
  obtain ⟨oc, od, kV, doc, pm, an, cdv, ct, osl, rfl, lk, hcd⟩ := F.ex
  refine fn_of lk hcd S (fun vs H R E h => ?_) fun A outer s H vs R E hr h => ?_
  · obtain ⟨ds, st', mu, r, S', h⟩ := h
    simp only [runBody] at h
    split at h
    · rename_i e
      rw [r.length, e, hnp]
    · exact h.elim
  · obtain ⟨ds, st', mu, r, S', h⟩ := h
    simp only [runBody] at h
    split at h
    · rename_i e
      have B : Bt Q (cxOf (L2.CX P w) P w K mg base N y (defScope st) f cdv A outer s H E) (gmN Q k) :=
        ⟨⟨rfl, S.nd, by have := hr.un; show (A.deeper (envOfC y (defScope st) s.heap.objs.size f cdv)).units + 200 < cLine; omega, fun g hg => by
            obtain ⟨fa, fd, ps, h1, h2, h3, h4⟩ := (hC k (Nat.le_refl _) g hg).ex
            exact ⟨fa, fd, ps, k, h1, h2, h3, hr, h4⟩, gm_has _ _, fun x d e => ⟨by rw [gm_con0]; exact e, hG.con x d e⟩, hG.bi, hG.isi, hG.rng, hG.zip, hG.tys, hG.oth⟩, hG.exc, passes_of rfl, S.kind⟩
      have hl : fe.np ≤ fe.nn := by
        have q := congrArg List.length S.pre
        rw [List.length_take] at q
        omega
      have hlam : lm = true → LamOk Q (cxOf (L2.CX P w) P w K mg base N y (defScope st) f cdv A outer s H E) (gmN Q k) := fun hx => by
        obtain ⟨hx, rfl⟩ := hlm hx
        have hx : x ∈ lamDefs := by simpa using hx
        cases k with
        | zero => exact .inl fun _ _ _ => rfl
        | succ k => cases k with
          | zero => exact .inl fun _ _ _ => rfl
          | succ k =>
            refine .inr ⟨fun g t ht => ⟨fun th st => ?_, hL.tel g t ht⟩, hL.cat, ?_⟩
            · show (match Q.tel? g with
                | some t => tellD Q t (th st)
                | none => .bad) = _
              rw [ht]
            · obtain ⟨p, hp, tb⟩ := hL.tb x hx
              obtain ⟨f', oc', od', fd', osl', m1, m2, m3⟩ := tb.ex
              rw [hmx] at m1
              cases m1
              rw [lk] at m2
              cases m2
              exact ⟨k, gmN Q k, p.1, p.2, hr, fun _ _ _ => rfl, fun g hg => hC k (by omega) g hg, gm_has _ _, fun y d e => by rw [gm_con0]; exact e, hTB p hp, m3, tabs_mem hL hx tb, tabs_uq hL hx tb⟩
      refine ⟨_, (soundS n).2 _ _ _ ⟨N, defScope st, none, lm⟩ _ _ B ⟨rfl, rfl, fun _ => rfl, hlam⟩ (takes_of rfl rfl rfl rfl) ok, ?_⟩
      refine ⟨_, st', mu, repL_start r e hnn hl, S', ?_⟩
      cases e2 : evSs (gmN Q k) fe.body (ds.map some ++ List.replicate (fe.nn - fe.np) none) st' with
      | nx l st1 => rw [e2] at h; exact fun mu' H' s' e S L => h mu' H' .non e S .non
      | rt d st1 => rw [e2] at h; exact h
      | bk l st1 => rw [e2] at h; exact h.elim
      | ct l st1 => rw [e2] at h; exact h.elim
      | exc c p l st1 => rw [e2] at h; exact ⟨h.1, fun mu' H' s' C e S L g => h.2 mu' H' C e S g⟩
      | bad => rw [e2] at h; exact h.elim
    · exact h.elim
/-- a def of the program: where it stands, its names -/
structure Df where
  name : Str
  ix : Nat
  N : List Str
  ps : List Str
  /-- the name under which it stands; its own name -/
  gn : Str
  own : Str
def scopeB (N ps : List Str) (sc : Scope) : Bool :=
  decide (sc.kind = .function) && !sc.isCoroutine && !sc.isGenerator && decide N.Nodup && decide (N.take ps.length = ps) && (ps.all fun x => decide (sc.names.lookup x = some .local ∨ sc.names.lookup x = some .cell)) && (sc.names.all fun y => decide (y.2 ≠ .free))
theorem scopeB_ok {N ps : List Str} {sc : Scope} (h : scopeB N ps sc = true) : FnScope N ps sc := by
  unfold scopeB at h
  simp only [Bool.and_eq_true, decide_eq_true_eq, Bool.not_eq_true', List.all_eq_true] at h
  obtain ⟨⟨⟨⟨⟨⟨h1, h2⟩, h3⟩, h4⟩, h5⟩, h6⟩, h7⟩ := h
  exact ⟨h1, h2, h3, h4, h5, h6, h7⟩
def Df.ok (Q : Pg) (top : List Stmt) (d : Df) : Bool := match Q.fns.find? fun f => f.name == d.name with
  | some fe => let st := top.getD d.ix (.Pass ⟨0, 0, 0, 0⟩)
    scopeB d.N d.ps (defScope st) && decide (d.ps.length = fe.np) && decide (d.N.length = fe.nn) && decide (Q.py d.name = d.gn) && okSs Q 100 ⟨d.N, defScope st, none, lamDefs.contains d.gn && decide (d.gn = d.own)⟩ fe.body (defBody st)
  | none => false
/-- where a def stands behind the top -/
structure DfAt (K : PySem.W.Frag) (mg : Str → Option Value) (top : List Stmt) (d : Df) : Prop where
  ex : ∃ (fa : Addr) (fd : FuncData), mg d.gn = some (.ref fa) ∧ Fun K d.own d.own (top.getD d.ix (.Pass ⟨0, 0, 0, 0⟩)) fa fd ∧ ∀ us : List Value, us.length = d.ps.length → bindArgs fd ⟨us, []⟩ = pure (d.ps.zip us)
theorem _root_.L2.Fun.look {x qual : Str} {st : Stmt} {f : Addr} {fd : FuncData} (F : Fun K x qual st f fd) : ∃ oc od osl, K.lookup f = some ⟨oc, od, .func fd, osl⟩ := by
  obtain ⟨oc, od, kV, doc, pm, an, cdv, ct, osl, h1, h2, h3⟩ := F.ex
  exact ⟨oc, od, osl, h2⟩
/-- a def as a value, to a level -/
structure DfN (P : Program) (w : World) (K : PySem.W.Frag) (mg : Str → Option Value) (base : Heap) (k : Nat) (d : Df) (m : List D → So → R D) : Prop where
  ex : ∃ (fa : Addr) (fd : FuncData), mg d.gn = some (.ref fa) ∧ (∃ oc od osl, K.lookup fa = some ⟨oc, od, .func fd, osl⟩) ∧ PySem.W.keepIn K (.ref fa) = true ∧ (∀ us : List Value, us.length = d.ps.length → bindArgs fd ⟨us, []⟩ = pure (d.ps.zip us)) ∧ FnOk P w K mg base (L2.CX P w) k fa fd d.ps (spF K mg m)
theorem py_ok {Q : Pg} {top : List Stmt} {d : Df} (h : d.ok Q top = true) : Q.py d.name = d.gn := by
  unfold Df.ok at h
  split at h
  · simp only [Bool.and_eq_true, decide_eq_true_eq] at h
    exact h.1.2
  · cases h
theorem all_ok {Q : Pg} {top : List Stmt} {dfs : List Df} {cs : List (Addr × Addr)} (hok : (dfs.all fun d => d.ok Q top) = true) (hcov : (Q.fns.all fun f => dfs.any fun d => d.name == f.name) = true) (hG : Glob Q K mg) (hL : LamK Q K mg cs) (hTB : ∀ p ∈ cs, LamX.TabB base mg p.1 p.2)
    (hat : ∀ d ∈ dfs, DfAt K mg top d) :
    ∀ k, ∀ j ≤ k, ∀ d ∈ dfs, DfN P w K mg base j d (calN Q j d.name) := by
  intro k
  induction k with
  | zero =>
    intro j hj d hd
    obtain rfl : j = 0 := by omega
    obtain ⟨fa, fd, q1, q2, q3⟩ := (hat d hd).ex
    refine ⟨fa, fd, q1, q2.look, q2.kp, q3, fun vs H R E h => ?_, fun A outer s H args us vs R E hr he hb hv h => ?_⟩
    · obtain ⟨ds, st', mu, r, S', h⟩ := h
      exact h.elim
    · obtain ⟨ds, st', mu, r, S', h⟩ := h
      exact h.elim
  | succ k ih =>
    intro j hj d hd
    by_cases hjk : j ≤ k
    · exact ih j hjk d hd
    obtain rfl : j = k + 1 := by omega
    have ih' : ∀ j ≤ k, ∀ f, Q.has f = true → FnAt P w K mg base j (Q.py f) (calN Q j f) := fun j hj f hf => by
      unfold Pg.has at hf
      obtain ⟨fe, h1, h2⟩ := List.any_eq_true.mp hf
      obtain ⟨d, h3, h4⟩ := List.any_eq_true.mp (List.all_eq_true.mp hcov fe h1)
      have e : d.name = f := by
        simp only [beq_iff_eq] at h2 h4
        rw [h4, h2]
      have ed := py_ok (List.all_eq_true.mp hok d h3)
      obtain ⟨fa, fd, q1, _, q2, q3, q4⟩ := (ih j hj d h3).ex
      rw [← ed] at q1
      subst e
      exact ⟨fa, fd, d.ps, q1, q2, .all q3, q4⟩
    obtain ⟨fa, fd, q1, q2, q3⟩ := (hat d hd).ex
    have hd := List.all_eq_true.mp hok d hd
    unfold Df.ok at hd
    split at hd
    · rename_i fe' hfe
      simp only [Bool.and_eq_true, decide_eq_true_eq] at hd
      obtain ⟨⟨⟨⟨d1, d2⟩, d3⟩, _⟩, d4⟩ := hd
      have F := fn_ok (P := P) (w := w) (base := base) q2 q1 (fun h => by simpa using h) (scopeB_ok d1) d2 d3 d4 hG hL hTB ih'
      refine ⟨fa, fd, q1, q2.look, q2.kp, q3, F.imp fun vs H R E h => ?_⟩
      obtain ⟨ds, st', mu, r, S', h⟩ := h
      refine ⟨ds, st', mu, r, S', ?_⟩
      have e3 : calN Q (k + 1) d.name ds st' = runBody (gmN Q k) fe' ds st' := by
        rw [gm_succ, hfe]
      show Fin K mg _ _ _ _ _ (runBody (gmN Q k) fe' ds st') R
      rw [← e3]
      exact h
    · cases hd

/-! ### the law -/
def spLaw (K : PySem.W.Frag) : Sp := fun vs H R _ => ∃ (a : Addr) (ns : List Int), vs = [.ref a] ∧ SqL K H a (ns.map V.int) ∧ LamX.Tabs (tabsOf K) H ∧ ns.length ≤ 63 ∧ ∀ H', R (.bl true) H'
theorem reps_ints {mu : Mu} {H : Hp} : ∀ ns : List Int, Reps K mg mu H (ns.map V.int) (ns.map D.int)
  | [] => .nil
  | n :: ns => .cons (.int n) (reps_ints ns)
theorem law_fn {Q : Pg} {top : List Stmt} {dfs : List Df} {dl : Df} {x : Str} {k : Nat} {cs : List (Addr × Addr)} (hok : (dfs.all fun d => d.ok Q top) = true) (hcov : (Q.fns.all fun f => dfs.any fun d => d.name == f.name) = true) (hl : dl ∈ dfs) (hx : dl.ps = [x])
    (hm : ∀ ns : List Int, ns.length ≤ 63 → ∃ st, calN Q k dl.name [.scr (ns.map D.int)] [] = .ok (.bl true) st) (hG : Glob Q K mg) (hL : LamK Q K mg cs) (hat : ∀ d ∈ dfs, DfAt K mg top d) {fa : Addr} (hfa : mg dl.gn = some (.ref fa)) :
    ∃ fd : FuncData, (∀ (s : Shared) (u : Value), BindsTo s fd ⟨[u], []⟩ [(x, u)]) ∧ ∀ base : Heap, (∀ p ∈ cs, LamX.TabB base mg p.1 p.2) → FnOk P w K mg base (L2.CX P w) k fa fd [x] (spLaw K) := by
  obtain ⟨fa', fd, q1, q2, q3⟩ := (hat dl hl).ex
  rw [hfa] at q1
  cases q1
  refine ⟨fd, fun s u => .of_eq ?_, fun base hTB => ?_⟩
  · rw [q3 [u] (by rw [hx]; rfl), hx]
    rfl
  · obtain ⟨fa2, fd2, h1, ⟨oc1, od1, sl1, h5⟩, h2, h3, h4⟩ := (all_ok (P := P) (w := w) (base := base) hok hcov hG hL hTB hat k k (Nat.le_refl _) dl hl).ex
    rw [hfa] at h1
    cases h1
    have efd : fd2 = fd := by
      obtain ⟨oc2, od2, sl2, h6⟩ := q2.look
      rw [h5] at h6
      cases h6
      rfl
    subst efd
    rw [hx] at h4
    refine h4.imp fun vs H R E h => ?_
    obtain ⟨a, ns, rfl, hS, hT, hn, hR⟩ := h
    obtain ⟨st, hst⟩ := hm ns hn
    refine ⟨[.scr (ns.map D.int)], [], ⟨[], []⟩, .cons (.scr ?_ (by rw [List.length_map]; exact Nat.le_trans hn (by decide)) (reps_ints ns)) .nil, ⟨rfl, List.nodup_nil, fun n a o h => by simp at h, fun a h => by simp at h, hT⟩, ?_⟩
    · rcases hS with (hS | ⟨o, hS⟩) | hS
      · exact .inl ⟨.inr hS, by simp [Mu.ch]⟩
      · exact .inl ⟨.inl ⟨o, hS⟩, by simp [Mu.ch]⟩
      · exact .inr hS
    · rw [hst]
      intro mu' H' b e S r
      cases r
      exact hR H'
/-- the law's promise at the head's heap -/
theorem law_at {l : PySem.W.OpenLaw} {q : Program} {loose : List Str} {mean : ExcName → Option Value} {mb : Str → Option Value} {h : Heap} {Q : Pg} {top : List Stmt} {dfs : List Df} {dl : Df} {x : Str} {k : Nat} {cs : List (Addr × Addr)}
    (T : Top q loose mean mg mb h) (X : K.In h) (hrec : ∀ y ∈ lamDefs, ∃ d, (recsOf q).find? (fun e => e.name == y) = some d)
    (hok : (dfs.all fun d => d.ok Q top) = true) (hcov : (Q.fns.all fun f => dfs.any fun d => d.name == f.name) = true) (hl : dl ∈ dfs) (hx : dl.ps = [x])
    (hm : ∀ ns : List Int, ns.length ≤ 63 → ∃ st, calN Q k dl.name [.scr (ns.map D.int)] [] = .ok (.bl true) st) {fa : Addr} (hfa : mg dl.gn = some (.ref fa)) (hG : Glob Q K mg) (hL : LamK Q K mg cs) (hat : ∀ d ∈ dfs, DfAt K mg top d) :
    LamX.LawAtS l w K (L2.CX l.prog w) k 63 x mg fa h := by
  obtain ⟨fd, h1, h2⟩ := law_fn (P := l.prog) (w := w) hok hcov hl hx hm hG hL hat hfa
  have tb : ∀ p ∈ cs, PySem.W.CodeHd h p.1 p.2 ∧ h.get? p.2 = some (PySem.W.tabObj #[]) := fun p hp => by
    obtain ⟨y, hy, t⟩ := hL.un p hp
    obtain ⟨d, hd⟩ := hrec y hy
    exact PySem.W.tab_of T X hd t.tab
  refine ⟨fd, cs, spLaw K, fun p hp => (tb p hp).2, fun p hp => ?_, fun p hp => (tb p hp).1, h1, fun H a ns hn _ hT hS => ⟨a, ns, rfl, hS, fun p hp => ?_, hn, fun _ => rfl⟩, fun base _ _ hTB => h2 base hTB⟩
  · obtain ⟨y, hy, t⟩ := hL.un p hp
    exact t.no
  · unfold tabsOf at hp
    rw [List.mem_filterMap] at hp
    obtain ⟨y, hy, e⟩ := hp
    obtain ⟨p', hp', t⟩ := hL.tb y hy
    rw [t.tab] at e
    cases e
    exact .nil (hT p' hp')
theorem walk_ofL {l : PySem.W.OpenLaw} {k : Nat} {q : Program} {loose : List Str} {XP : (Str → Option Value) → Heap → Prop} {YP : World → Heap → Prop} {d : DefRec} {K : Params → PySem.W.Frag} {x : Str}
    (hn : l.most = some 63) (hdf : d.params.defaults = []) (hr : Room k callerA) (hY : ∀ (w : World) (h : Heap), YP w h → (K w.params).In h)
    (F : ∀ (w : World) (mg mb : Str → Option Value) (fa : Addr) (h : Heap) (loose' : List Str) (mean : ExcName → Option Value), Top q loose' mean mg mb h → (K w.params).In h → h.Ns mainGlobals mg → mg d.name = some (.ref fa) → LamX.LawAtS l w (K w.params) (L2.CX l.prog w) k 63 x mg fa h) :
    PySem.W.WalkO q loose XP YP l.row.toRowW d [] (fun f vs => PySem.call f vs) := by
  refine Att.attach_callB hn hdf fun w s₀ s₁ mg mb fa o pm cd doc a vs ns G Y ho hd hcd hmg hobj hints hlen hbits hg => ?_
  have KX := hY w _ Y
  obtain ⟨fd, cs, sp, hT, nT, C, hb, hsp, hF⟩ := F w mg mb fa _ _ _ G.T KX G.T.g hmg
  exact LamX.law_callTs KX G.T.g G.T.b G.T.builtins G.T.nolimit hg hT nT C G.T.bmain hobj hints (Nat.le_trans hlen (by decide)) hr hF hb (fun H hH hS => hsp H a ns hlen hbits hH hS) fun H e s' h => by
    obtain ⟨_, _, _, _, _, _, _, _, _, _, _, _, z⟩ := h
    exact z
theorem hat_nil {top : List Stmt} : ∀ d ∈ ([] : List Df), DfAt K mg top d := fun d h => by cases h
theorem hat_cons {top : List Stmt} {d : Df} {l : List Df} (h : DfAt K mg top d) (t : ∀ d ∈ l, DfAt K mg top d) : ∀ d' ∈ d :: l, DfAt K mg top d' := fun d' hd => by
  rcases List.mem_cons.mp hd with rfl | hd
  · exact h
  · exact t d' hd
theorem dfAt_mk {top : List Stmt} {d : Df} {h : Heap} {fa : Addr} {oc : Value} {od an : Option Addr} {osl : Array (Option Value)} {kV doc pm cdv ct : Value} (X : K.In h) (G : h.Ns mainGlobals mg) (a : PySem.W.nsIn K mainGlobals d.gn = some (some (.ref fa)))
    (l : K.lookup fa = some ⟨oc, od, .func (PySem.W.fnOf d.own d.own (defArgs (top.getD d.ix (.Pass ⟨0, 0, 0, 0⟩))) (defBody (top.getD d.ix (.Pass ⟨0, 0, 0, 0⟩))) (defScope (top.getD d.ix (.Pass ⟨0, 0, 0, 0⟩))) .none kV doc pm an cdv ct), osl⟩)
    (c : PySem.W.codeIn K cdv d.own = true) (k : PySem.W.keepIn K (.ref fa) = true)
    (b : ∀ (kV doc pm : Value) (an : Option Addr) (cdv ct : Value) (us : List Value), us.length = d.ps.length → bindArgs (PySem.W.fnOf d.own d.own (defArgs (top.getD d.ix (.Pass ⟨0, 0, 0, 0⟩))) (defBody (top.getD d.ix (.Pass ⟨0, 0, 0, 0⟩))) (defScope (top.getD d.ix (.Pass ⟨0, 0, 0, 0⟩))) .none kV doc pm an cdv ct) ⟨us, []⟩ = pure (d.ps.zip us)) : DfAt K mg top d :=
  ⟨fa, _, PySem.W.mg_of X G a, fun_mk l c k, b kV doc pm an cdv ct⟩
structure ConAt (K : PySem.W.Frag) (mg : Str → Option Value) (x : Str) (d : D) : Prop where
  ex : ∃ v u, mg x = some u ∧ RelV v u ∧ ∀ mu H, Rep K mg mu H v d
theorem con_nil : ∀ x d, ([] : List (Str × D)).lookup x = some d → ∃ v u, mg x = some u ∧ RelV v u ∧ ∀ mu H, Rep K mg mu H v d := fun x d h => by cases h
theorem con_cons {y : Str} {e : D} {l : List (Str × D)} (h : ConAt K mg y e) (t : ∀ x d, l.lookup x = some d → ∃ v u, mg x = some u ∧ RelV v u ∧ ∀ mu H, Rep K mg mu H v d) :
    ∀ x d, ((y, e) :: l).lookup x = some d → ∃ v u, mg x = some u ∧ RelV v u ∧ ∀ mu H, Rep K mg mu H v d := fun x d hd => by
  rw [List.lookup_cons] at hd
  split at hd
  · rename_i b
    have e1 : x = y := by simpa using b
    cases hd
    rw [e1]
    exact h.ex
  · exact t x d hd
theorem conAt_int {h : Heap} {x : Str} {n : Int} {t : Tok} (X : K.In h) (G : h.Ns mainGlobals mg) (a : PySem.W.nsIn K mainGlobals x = some (some (.int n t))) : ConAt K mg x (.int n) :=
  ⟨.int n, _, PySem.W.mg_of X G a, ⟨t, rfl⟩, fun _ _ => .int n⟩
theorem conAt_str {h : Heap} {x z : Str} {t : Tok} (X : K.In h) (G : h.Ns mainGlobals mg) (hz : strGoodB z = true) (a : PySem.W.nsIn K mainGlobals x = some (some (.str z t))) : ConAt K mg x (.str z) := by
  unfold strGoodB at hz
  simp only [Bool.and_eq_true, decide_eq_true_eq] at hz
  exact ⟨.str z, _, PySem.W.mg_of X G a, ⟨t, rfl⟩, fun _ _ => .str hz⟩
/-- a value of the written part that stands for data: a number, a text, a tuple of such -/
inductive KD (K : PySem.W.Frag) : Value → D → Prop
  | non : KD K .none .non
  | bl (b : Bool) : KD K (.bool b) (.bl b)
  | int (n : Int) (t : Tok) : KD K (.int n t) (.int n)
  | str {z : Str} (t : Tok) : strGoodB z = true → KD K (.str z t) (.str z)
  | nil {a : Addr} {od : Option Addr} {n : Nat} {sl : Array (Option Value)} : K.lookup a = some ⟨.type "tuple", od, .seq #[] n, sl⟩ → KD K (.ref a) (.tup [])
  | tup {a : Addr} {od : Option Addr} {us : List Value} {ds : List D} {n : Nat} {sl : Array (Option Value)} : K.lookup a = some ⟨.type "tuple", od, .seq us.toArray n, sl⟩ → us.length = ds.length → us.length ≤ 1000 → (∀ p ∈ us.zip ds, KD K p.1 p.2) → KD K (.ref a) (.tup ds)
theorem kz_nil {K : PySem.W.Frag} : ∀ p ∈ ([] : List Value).zip ([] : List D), KD K p.1 p.2 := fun _ h => nomatch h
theorem kz_cons {K : PySem.W.Frag} {u : Value} {us : List Value} {d : D} {ds : List D} (h : KD K u d) (t : ∀ p ∈ us.zip ds, KD K p.1 p.2) : ∀ p ∈ (u :: us).zip (d :: ds), KD K p.1 p.2 := fun p hp => by
  rw [List.zip_cons_cons] at hp
  rcases List.mem_cons.mp hp with e | e
  · subst e; exact h
  · exact t p e
theorem KD.rep {u : Value} {d : D} (h : KD K u d) : ∃ v, RelV v u ∧ ∀ mu H, Rep K mg mu H v d := by
  induction h with
  | non => exact ⟨.non, rfl, fun _ _ => .non⟩
  | bl b => exact ⟨.bl b, rfl, fun _ _ => .bl b⟩
  | int n t => exact ⟨.int n, ⟨t, rfl⟩, fun _ _ => .int n⟩
  | str t hz =>
    unfold strGoodB at hz
    simp only [Bool.and_eq_true, decide_eq_true_eq] at hz
    exact ⟨.str _, ⟨t, rfl⟩, fun _ _ => .str hz⟩
  | nil l => exact ⟨.ref _, rfl, fun _ _ => .tup (.inr ⟨_, #[], _, l, rfl, rfl, Nat.zero_le _, .nil⟩) (Nat.zero_le _) .nil⟩
  | @tup a od us ds n sl l hl hz hs ih =>
    have ex : ∀ (us : List Value) (ds : List D), us.length = ds.length → (∀ p ∈ us.zip ds, ∃ v, RelV v p.1 ∧ ∀ mu H, Rep K mg mu H v p.2) → ∃ vs, Vals vs us ∧ ∀ mu H, Reps K mg mu H vs ds := by
      intro us
      induction us with
      | nil =>
        intro ds hl _
        cases ds with
        | nil => exact ⟨[], .nil, fun _ _ => .nil⟩
        | cons _ _ => cases hl
      | cons u us ihu =>
        intro ds hl hp
        cases ds with
        | nil => cases hl
        | cons d ds =>
          obtain ⟨v, h1, h2⟩ := hp (u, d) List.mem_cons_self
          obtain ⟨vs, h3, h4⟩ := ihu ds (by simpa using hl) fun p hp' => hp p (List.mem_cons_of_mem _ hp')
          exact ⟨v :: vs, .cons h1 h3, fun mu H => .cons (h2 mu H) (h4 mu H)⟩
    obtain ⟨vs, h1, h2⟩ := ex us ds hl ih
    have hs' : sizeLine = 16777216 := sizeLine_eq
    exact ⟨.ref a, rfl, fun mu H => .tup (.inr ⟨_, us.toArray, n, l, rfl, rfl, by rw [List.size_toArray]; omega, h1⟩) (by omega) (h2 mu H)⟩
theorem conAt_kd {h : Heap} {x : Str} {u : Value} {d : D} (X : K.In h) (G : h.Ns mainGlobals mg) (a : PySem.W.nsIn K mainGlobals x = some (some u)) (k : KD K u d) : ConAt K mg x d :=
  let ⟨v, h1, h2⟩ := k.rep (mg := mg)
  ⟨v, u, PySem.W.mg_of X G a, h1, h2⟩
end
end CP

set_option Elab.async false
set_option linter.all false
set_option maxRecDepth 100000
set_option autoImplicit false
/-! CpEnd: the head's facts, put together. -/
namespace CP
open PySem PySem.Spec PyProof.Rows L2
theorem all_nil {α : Type} {p : α → Prop} : ∀ y ∈ ([] : List α), p y := fun y h => by cases h
theorem all_cons {α : Type} {p : α → Prop} {x : α} {l : List α} (h : p x) (t : ∀ y ∈ l, p y) : ∀ y ∈ x :: l, p y := fun y hy => by
  rcases List.mem_cons.mp hy with rfl | hy
  · exact h
  · exact t y hy
/-- a teller: where it stands, its names -/
structure Td where
  t : Tl
  ix : Nat
  N : List Str
  a : Str
def Td.ok (top : List Stmt) (d : Td) : Bool := let st := top.getD d.ix (.Pass ⟨0, 0, 0, 0⟩)
  scopeB d.N [d.a] (defScope st) && decide (d.N[0]? = some d.a) && (match (defScope st).names.lookup d.a with | some .local => true | some .cell => true | some .free => true | _ => false) && !(d.a == ("__debug__" : Str)) && !(d.a == ("__classdict__" : Str)) && tellB (defScope st) d.a d.t (defBody st)
section
variable {K : PySem.W.Frag} {mg : Str → Option Value}
theorem tbAt_mk {h : Heap} {x : Str} {f c Pt : Addr} {oc oc2 : Value} {od od2 : Option Addr} {fd : FuncData} {osl osl2 : Array (Option Value)} {vs : Array Value} (X : K.In h) (G : h.Ns mainGlobals mg) (a : PySem.W.nsIn K mainGlobals x = some (some (.ref f)))
    (l : K.lookup f = some ⟨oc, od, .func fd, osl⟩) (c1 : fd.code = .ref c) (l2 : K.lookup c = some ⟨oc2, od2, .fields vs, osl2⟩) (v : (vs[11]? : Option Value) = some (.ref Pt)) (no : K.lookup Pt = none) : TbAt K mg x (c, Pt) := by
  refine ⟨⟨f, oc, od, fd, osl, PySem.W.mg_of X G a, l, c1⟩, ?_, no⟩
  unfold PySem.W.tabIn
  rw [a]
  simp only [l, c1, l2, v]
inductive Lms (K : PySem.W.Frag) (mg : Str → Option Value) : List Str → List (Addr × Addr) → Prop
  | nil : Lms K mg [] []
  | cons {x : Str} {xs : List Str} {p : Addr × Addr} {ps : List (Addr × Addr)} : TbAt K mg x p → Lms K mg xs ps → Lms K mg (x :: xs) (p :: ps)
theorem Lms.tb {xs : List Str} {ps : List (Addr × Addr)} (h : Lms K mg xs ps) : ∀ x ∈ xs, ∃ p ∈ ps, TbAt K mg x p := by
  induction h with
  | nil => intro x hx; cases hx
  | cons t _ ih =>
    intro x hx
    rcases List.mem_cons.mp hx with rfl | hx
    · exact ⟨_, List.mem_cons_self, t⟩
    · obtain ⟨p, hp, q⟩ := ih x hx
      exact ⟨p, List.mem_cons_of_mem _ hp, q⟩
theorem Lms.un {xs : List Str} {ps : List (Addr × Addr)} (h : Lms K mg xs ps) : ∀ p ∈ ps, ∃ x ∈ xs, TbAt K mg x p := by
  induction h with
  | nil => intro x hx; cases hx
  | cons t _ ih =>
    intro x hx
    rcases List.mem_cons.mp hx with rfl | hx
    · exact ⟨_, List.mem_cons_self, t⟩
    · obtain ⟨p, hp, q⟩ := ih x hx
      exact ⟨p, List.mem_cons_of_mem _ hp, q⟩
theorem Lms.uq {xs : List Str} {ps : List (Addr × Addr)} (h : Lms K mg xs ps) (n : (ps.map (·.2)).Nodup) : ∀ x ∈ xs, ∀ y ∈ xs, ∀ p q, TbAt K mg x p → TbAt K mg y q → p.2 = q.2 → x = y := by
  have same : ∀ {x : Str} {p q : Addr × Addr}, TbAt K mg x p → TbAt K mg x q → p = q := fun a b => by
    have e := a.tab.symm.trans b.tab
    exact Option.some.inj e
  induction h with
  | nil => intro x hx; cases hx
  | @cons z zs p0 ps0 t r ih =>
    rw [List.map_cons, List.nodup_cons] at n
    have far : ∀ y ∈ zs, ∀ q, TbAt K mg y q → q.2 ≠ p0.2 := fun y hy q hq e => by
      obtain ⟨q', hq', t'⟩ := r.tb y hy
      rw [same hq t'] at e
      exact n.1 (List.mem_map.mpr ⟨q', hq', e⟩)
    intro x hx y hy p q hp hq e
    rcases List.mem_cons.mp hx with ex | hx1
    · rcases List.mem_cons.mp hy with ey | hy1
      · rw [ex, ey]
      · subst ex
        exact absurd (by rw [← e, same hp t]) (far y hy1 q hq)
    · rcases List.mem_cons.mp hy with ey | hy1
      · subst ey
        exact absurd (by rw [e, same hq t]) (far x hx1 p hp)
      · exact ih n.2 x hx1 y hy1 p q hp hq e
theorem lamK_mk {Q : Pg} {cs : List (Addr × Addr)} (L : Lms K mg lamDefs cs) (n : (cs.map (·.2)).Nodup) (tel : ∀ t ∈ Q.tels, TelAt K mg t)
    (cat : ∀ t ∈ Q.tels, ∀ h ∈ t.hs, ∀ c ∈ Q.excs, ∀ C CS, mg c = some (.ref C) → mg h.1 = some (.ref CS) → PySem.W.exmOne K (.ref C) (.ref CS) = some (Q.sub c h.1)) : LamK Q K mg cs :=
  ⟨fun f t ht => tel t (List.mem_of_find?_eq_some ht), fun c hc t ht h hh => cat t ht h hh c (by simpa using hc), L.tb, L.un, L.uq n⟩
theorem cat_mk {h : Heap} {c x : Str} {C CS : Addr} {b b' : Bool} (X : K.In h) (G : h.Ns mainGlobals mg) (a1 : PySem.W.nsIn K mainGlobals c = some (some (.ref C))) (a2 : PySem.W.nsIn K mainGlobals x = some (some (.ref CS)))
    (e : PySem.W.exmOne K (.ref C) (.ref CS) = some b) (eb : b' = b) : ∀ C CS, mg c = some (.ref C) → mg x = some (.ref CS) → PySem.W.exmOne K (.ref C) (.ref CS) = some b' := fun C' CS' m1 m2 => by
  rw [PySem.W.mg_of X G a1] at m1
  rw [PySem.W.mg_of X G a2] at m2
  cases m1; cases m2
  rw [eb]; exact e
theorem cls_mk {h : Heap} {x : Str} {C : Addr} (X : K.In h) (G : h.Ns mainGlobals mg) (a : PySem.W.nsIn K mainGlobals x = some (some (.ref C))) : ∃ C, mg x = some (.ref C) := ⟨C, PySem.W.mg_of X G a⟩
theorem telAt_mk {top : List Stmt} {d : Td} {h : Heap} {g : Addr} {oc : Value} {od an : Option Addr} {osl : Array (Option Value)} {kV doc pm cdv ct : Value} (ok : d.ok top = true) (X : K.In h) (G : h.Ns mainGlobals mg) (a : PySem.W.nsIn K mainGlobals d.t.name = some (some (.ref g)))
    (l : K.lookup g = some ⟨oc, od, .func (PySem.W.fnOf d.t.name d.t.name (defArgs (top.getD d.ix (.Pass ⟨0, 0, 0, 0⟩))) (defBody (top.getD d.ix (.Pass ⟨0, 0, 0, 0⟩))) (defScope (top.getD d.ix (.Pass ⟨0, 0, 0, 0⟩))) .none kV doc pm an cdv ct), osl⟩)
    (c : PySem.W.codeIn K cdv d.t.name = true) (k : PySem.W.keepIn K (.ref g) = true)
    (b : ∀ (kV doc pm : Value) (an : Option Addr) (cdv ct : Value) (us : List Value), us.length = 1 → bindArgs (PySem.W.fnOf d.t.name d.t.name (defArgs (top.getD d.ix (.Pass ⟨0, 0, 0, 0⟩))) (defBody (top.getD d.ix (.Pass ⟨0, 0, 0, 0⟩))) (defScope (top.getD d.ix (.Pass ⟨0, 0, 0, 0⟩))) .none kV doc pm an cdv ct) ⟨us, []⟩ = pure ([d.a].zip us))
    (hs : ∀ h ∈ d.t.hs, ∃ C, mg h.1 = some (.ref C)) : TelAt K mg d.t := by
  unfold Td.ok at ok
  simp only [Bool.and_eq_true, decide_eq_true_eq, Bool.not_eq_true'] at ok
  obtain ⟨⟨⟨⟨⟨o1, o2⟩, o3⟩, o4⟩, o5⟩, o6⟩ := ok
  refine ⟨g, _, _, _, _, _, _, _, _, _, _, _, _, _, d.N, d.a, PySem.W.mg_of X G a, k, l, c, .all (fun us hl => b kV doc pm an cdv ct us hl), scopeB_ok o1, o2, ?_, o4, o5, o6, hs⟩
  unfold Vis
  split at o3 <;> simp_all
theorem excAt_mk {h : Heap} {c : Str} {C : Addr} (X : K.In h) (G : h.Ns mainGlobals mg) (g : PySem.W.nsIn K mainGlobals c = some (some (.ref C)))
    (x : PySem.W.excIn K C [.type "ValueError", .type "Exception", .type "BaseException", .type "object"] "ValueError.__new__" = true) (k : PySem.W.keepIn K (.ref C) = true)
    (b : PySem.W.subIn K (.ref C) (.type "BaseException") = some true) (t : PySem.W.typeIn K (.ref C) = some (.type "type")) : ExcK K mg c := ⟨C, PySem.W.mg_of X G g, x, k, b, t⟩
theorem exc_of {l : List Str} (h : ∀ c ∈ l, ExcK K mg c) : ∀ c, l.contains c = true → ExcK K mg c := fun c hc => h c (by simpa using hc)
end
end CP

set_option Elab.async false
set_option linter.all false
set_option maxRecDepth 100000
set_option autoImplicit false
/-! CpLaw: reasoning about what the evaluator computes. -/
namespace CP
open PySem L2

/-! ### one step at a time -/
@[simp] theorem bind_ok {α β : Type} (a : α) (st : So) (f : α → So → R β) : (R.ok a st).bind f = f a st := rfl
@[simp] theorem bind_exc {α β : Type} (c : Str) (p : D) (st : So) (f : α → So → R β) : (R.exc c p st : R α).bind f = .exc c p st := rfl
@[simp] theorem bind_bad {α β : Type} (f : α → So → R β) : (R.bad : R α).bind f = .bad := rfl
@[simp] theorem of_ok {α : Type} (l : Lo) (a : α) (st : So) (f : α → So → RS) : RS.of l (.ok a st) f = f a st := rfl
@[simp] theorem of_exc {α : Type} (l : Lo) (c : Str) (p : D) (st : So) (f : α → So → RS) : RS.of l (.exc c p st) f = .exc c p l st := rfl
@[simp] theorem of_bad {α : Type} (l : Lo) (f : α → So → RS) : RS.of l .bad f = .bad := rfl
/-- a block goes on -/
def RS.seq (r : RS) (f : Lo → So → RS) : RS := match r with
  | .nx l st => f l st
  | r => r
@[simp] theorem seq_nx (l : Lo) (st : So) (f : Lo → So → RS) : (RS.nx l st).seq f = f l st := rfl
@[simp] theorem seq_rt (d : D) (st : So) (f : Lo → So → RS) : (RS.rt d st).seq f = .rt d st := rfl
@[simp] theorem seq_exc (c : Str) (p : D) (l : Lo) (st : So) (f : Lo → So → RS) : (RS.exc c p l st).seq f = .exc c p l st := rfl
@[simp] theorem seq_bad (f : Lo → So → RS) : RS.bad.seq f = .bad := rfl
@[simp] theorem seq_bk (l : Lo) (st : So) (f : Lo → So → RS) : (RS.bk l st).seq f = .bk l st := rfl
@[simp] theorem seq_ct (l : Lo) (st : So) (f : Lo → So → RS) : (RS.ct l st).seq f = .ct l st := rfl
/-- what a def hands back -/
def RS.res (r : RS) : R D := match r with
  | .nx _ st => .ok .non st
  | .rt d st => .ok d st
  | .exc c p _ st => .exc c p st
  | _ => .bad
@[simp] theorem res_nx (l : Lo) (st : So) : (RS.nx l st).res = .ok .non st := rfl
@[simp] theorem res_rt (d : D) (st : So) : (RS.rt d st).res = .ok d st := rfl
@[simp] theorem res_exc (c : Str) (p : D) (l : Lo) (st : So) : (RS.exc c p l st).res = .exc c p st := rfl
@[simp] theorem res_bad : RS.bad.res = .bad := rfl
theorem run_eq {G : Gm} {f : Fn} {ds : List D} {st : So} (h : ds.length = f.np) : runBody G f ds st = (evSs G f.body (ds.map some ++ List.replicate (f.nn - f.np) none) st).res := by
  unfold runBody
  rw [if_pos h]
  cases evSs G f.body (ds.map some ++ List.replicate (f.nn - f.np) none) st <;> rfl
/-- a choice -/
def bth {α : Type} (c : Bool) (p q : α) : α := if c then p else q
@[simp] theorem bth_true {α : Type} (p q : α) : bth true p q = p := rfl
@[simp] theorem bth_false {α : Type} (p q : α) : bth false p q = q := rfl
@[simp] theorem bth_not {α : Type} (c : Bool) (p q : α) : bth (!c) p q = bth c q p := by cases c <;> rfl
@[simp] theorem bth_same {α : Type} (c : Bool) (p : α) : bth c p p = p := by cases c <;> rfl
@[simp] theorem and_bl (p q : Bool) (st : So) : bth p (R.ok (.bl q) st) (R.ok (D.bl p) st) = .ok (.bl (p && q)) st := by cases p <;> rfl
@[simp] theorem and_bl2 (p q : Bool) (st : So) : bth p (R.ok (.bl q) st) (R.ok (D.bl false) st) = .ok (.bl (p && q)) st := by cases p <;> rfl
@[simp] theorem or_bl (p q : Bool) (st : So) : bth p (R.ok (.bl p) st) (R.ok (D.bl q) st) = .ok (.bl (p || q)) st := by cases p <;> rfl
@[simp] theorem bth_bl (p q r : Bool) (st : So) : bth p (R.ok (.bl q) st) (R.ok (D.bl r) st) = .ok (.bl (bth p q r)) st := by cases p <;> rfl
@[simp] theorem bth_rt (c : Bool) (p q : D) (st : So) : bth c (RS.rt p st) (RS.rt q st) = .rt (bth c p q) st := by cases c <;> rfl
@[simp] theorem bth_D (c p q : Bool) : bth c (D.bl p) (D.bl q) = .bl (bth c p q) := by cases c <;> rfl
@[simp] theorem bth_ff (p q : Bool) : bth p q false = (p && q) := by cases p <;> rfl
@[simp] theorem bth_tt (p q : Bool) : bth p true q = (p || q) := by cases p <;> rfl
@[simp] theorem bth_pq (p q : Bool) : bth p q p = (p && q) := by cases p <;> rfl
@[simp] theorem bth_pp (p q : Bool) : bth p p q = (p || q) := by cases p <;> rfl
@[simp] theorem seq_bth (c : Bool) (p q : RS) (f : Lo → So → RS) : (bth c p q).seq f = bth c (p.seq f) (q.seq f) := by cases c <;> rfl
@[simp] theorem of_bth {α : Type} (c : Bool) (l : Lo) (p q : R α) (f : α → So → RS) : RS.of l (bth c p q) f = bth c (RS.of l p f) (RS.of l q f) := by cases c <;> rfl
@[simp] theorem bind_bth {α β : Type} (c : Bool) (p q : R α) (f : α → So → R β) : (bth c p q).bind f = bth c (p.bind f) (q.bind f) := by cases c <;> rfl
@[simp] theorem bth_res (c : Bool) (p q : RS) : (bth c p q).res = bth c p.res q.res := by cases c <;> rfl
section
variable (G : Gm) (l : Lo) (st : So) (a b c : E) (es : Es)
@[simp] theorem e_non : evE G .non l st = .ok .non st := rfl
@[simp] theorem e_bl (k : Bool) : evE G (.bl k) l st = .ok (.bl k) st := rfl
@[simp] theorem e_int (i : Int) : evE G (.int i) l st = .ok (.int i) st := rfl
@[simp] theorem e_str (x : Str) : evE G (.str x) l st = .ok (.str x) st := rfl
def lget (l : Lo) (i : Nat) (st : So) : R D := match l[i]? with
  | some (some d) => .ok d st
  | _ => .bad
@[simp] theorem lget_zero (d : D) (l : Lo) (st : So) : lget (some d :: l) 0 st = .ok d st := rfl
@[simp] theorem lget_succ (o : Option D) (l : Lo) (i : Nat) (st : So) : lget (o :: l) (i + 1) st = lget l i st := rfl
@[simp] theorem e_var (i : Nat) : evE G (.var i) l st = lget l i st := by rw [evE]; rfl
theorem e_glb {x : Str} {d : D} (h : G.con x = some d) : evE G (.glb x) l st = .ok d st := by rw [evE, h]
@[simp] theorem e_fnv (x : Str) : evE G (.fnv x) l st = .ok (.fn x) st := rfl
@[simp] theorem e_tup : evE G (.tup es) l st = (evEs G es l st).bind fun ds st => if ds.length ≤ sizeLine then .ok (.tup ds) st else .bad := by rw [evE]
@[simp] theorem e_lst : evE G (.lst es) l st = (evEs G es l st).bind fun ds st => if ds.length ≤ sizeLine then .ok (.lst ds) st else .bad := by rw [evE]
@[simp] theorem e_mls : evE G (.mls es) l st = (evEs G es l st).bind fun ds st => if ds.length ≤ sizeLine then .ok (.ref st.length) (st ++ [.lst ds]) else .bad := by rw [evE]
@[simp] theorem e_bin (o : BO) : evE G (.bin o a b) l st = (evE G a l st).bind fun x st => (evE G b l st).bind fun y st => opD o x y st := by rw [evE]
def negD : D → So → R D
  | .int i, st => .ok (.int (-i)) st
  | _, _ => .bad
@[simp] theorem negD_int (i : Int) (st : So) : negD (.int i) st = .ok (.int (-i)) st := rfl
@[simp] theorem e_neg : evE G (.neg a) l st = (evE G a l st).bind fun x st => negD x st := by
  rw [evE]
  congr 1
  funext x st
  cases x <;> rfl
@[simp] theorem e_cmp (o : CO) : evE G (.cmp o a b) l st = (evE G a l st).bind fun x st => (evE G b l st).bind fun y st => (cmpB o x y st).bind fun k st => .ok (.bl k) st := by rw [evE]
@[simp] theorem e_chn (o o2 : CO) : evE G (.chn o o2 a b c) l st = (evE G a l st).bind fun x st => (evE G b l st).bind fun y st => (cmpB o x y st).bind fun k st =>
    bth k ((evE G c l st).bind fun z st => (cmpB o2 y z st).bind fun k st => .ok (.bl k) st) (.ok (.bl false) st) := by rw [evE]; rfl
@[simp] theorem e_and : evE G (.and a b) l st = (evE G a l st).bind fun x st => (tru x st).bind fun k st => bth k (evE G b l st) (.ok x st) := by rw [evE]; rfl
@[simp] theorem e_or : evE G (.or a b) l st = (evE G a l st).bind fun x st => (tru x st).bind fun k st => bth k (.ok x st) (evE G b l st) := by rw [evE]; rfl
@[simp] theorem e_not : evE G (.not a) l st = (evE G a l st).bind fun x st => (tru x st).bind fun k st => .ok (.bl (!k)) st := by rw [evE]
@[simp] theorem e_ite : evE G (.ite c a b) l st = (evE G c l st).bind fun x st => (tru x st).bind fun k st => bth k (evE G a l st) (evE G b l st) := by rw [evE]; rfl
@[simp] theorem e_cal (f : Str) : evE G (.cal f es) l st = (evEs G es l st).bind fun ds st => G.cal f ds st := by rw [evE]
@[simp] theorem e_bi (f : B) : evE G (.bi f es) l st = (evEs G es l st).bind fun ds st => biD f ds st := by rw [evE]
def isiR (x : D) (t : String) (st : So) : R D := match isiD x t with
  | some b => .ok (.bl b) st
  | none => .bad
theorem isiR_of {x : D} {t : String} {b : Bool} (h : isiD x t = some b) (st : So) : isiR x t st = .ok (.bl b) st := by unfold isiR; rw [h]
@[simp] theorem e_isi (t : String) : evE G (.isi a t) l st = (evE G a l st).bind fun x st => isiR x t st := by rw [evE]; rfl
@[simp] theorem e_ix : evE G (.ix a b) l st = (evE G a l st).bind fun x st => (evE G b l st).bind fun y st => ixD x y st := by rw [evE]
@[simp] theorem e_sl (lo hi : Oe) : evE G (.sl a lo hi) l st = (evE G a l st).bind fun x st => (evO G lo l st).bind fun u st => (evO G hi l st).bind fun v st => slD x u v st := by rw [evE]
theorem e_lc2 (tg tg1 : Tg) (w w1 : Wk) (o o1 : Oe) (own : List Nat) : evE G (.lc2 a tg w o own tg1 w1 o1) l st = (evW G w l st).bind fun xs st => lcGo2 (fun d => bindTg tg d (wipeD l own)) (evC G o) (evW G w1) (fun l ys acc st => lcGo (fun d => bindTg tg1 d (wipeD l tg1.ix)) (evC G o1) (evE G a) ys acc st) xs [] st := by rw [evE]
@[simp] theorem e_lc (tg : Tg) (w : Wk) (o : Oe) (own : List Nat) : evE G (.lc a tg w o own) l st = (evW G w l st).bind fun xs st => lcGo (fun d => bindTg tg d (wipeD l own)) (evC G o) (evE G a) xs [] st := by rw [evE]
@[simp] theorem es_nil : evEs G .nil l st = .ok [] st := rfl
@[simp] theorem es_cons : evEs G (.cons a es) l st = (evE G a l st).bind fun d st => (evEs G es l st).bind fun ds st => .ok (d :: ds) st := by rw [evEs]
@[simp] theorem eo_none : evO G .none l st = .ok none st := rfl
def intO : D → So → R (Option Int)
  | .int i, st => .ok (some i) st
  | _, _ => .bad
@[simp] theorem intO_int (i : Int) (st : So) : intO (.int i) st = .ok (some i) st := rfl
@[simp] theorem eo_some : evO G (.some a) l st = (evE G a l st).bind fun d st => intO d st := by
  rw [evO]
  congr 1
  funext x st
  cases x <;> rfl
@[simp] theorem ec_none : evC G .none l st = .ok true st := rfl
@[simp] theorem ec_some : evC G (.some a) l st = (evE G a l st).bind fun d st => tru d st := by rw [evC]
def walkD : D → So → R (List D)
  | .tup xs, st => .ok xs st
  | .lst xs, st => .ok xs st
  | .str x, st => .ok (signs x) st
  | _, _ => .bad
@[simp] theorem walkD_tup (xs : List D) (st : So) : walkD (.tup xs) st = .ok xs st := rfl
@[simp] theorem walkD_lst (xs : List D) (st : So) : walkD (.lst xs) st = .ok xs st := rfl
@[simp] theorem walkD_str (x : Str) (st : So) : walkD (.str x) st = .ok (signs x) st := rfl
@[simp] theorem ew_seq : evW G (.seq a) l st = (evE G a l st).bind fun d st => walkD d st := by
  rw [evW]
  congr 1
  funext x st
  cases x <;> rfl
def rngR (x y : D) (st : So) : R (List D) := match x, y with
  | .int i, .int j => if rngOk i j then .ok (rngD i (j - i).toNat) st else .bad
  | _, _ => .bad
@[simp] theorem rngR_int (i j : Int) (st : So) : rngR (.int i) (.int j) st = if rngOk i j then .ok (rngD i (j - i).toNat) st else .bad := rfl
@[simp] theorem ew_rng1 : evW G (.rng1 a) l st = (evE G a l st).bind fun y st => rngR (.int 0) y st := by
  rw [evW]
  congr 1
  funext x st
  cases x <;> simp [rngR]
@[simp] theorem ew_rng2 : evW G (.rng2 a b) l st = (evE G a l st).bind fun x st => (evE G b l st).bind fun y st => rngR x y st := by
  rw [evW]
  rfl
@[simp] theorem ew_zip : evW G (.zip a b) l st = (evE G a l st).bind fun x st => (evE G b l st).bind fun y st => zipD x y st := by rw [evW]
@[simp] theorem e_app : evE G (.app a b) l st = (evE G a l st).bind fun x st => if isLstD x st then (evE G b l st).bind fun y st => appD x y st else .bad := by rw [evE]
@[simp] theorem eb_eq : evB G a l st = (evE G a l st).bind fun d st => tru d st := rfl
def dgtL (x : D) (f : List Key → List D → R D) : R D := match (pseq x).bind pairsK with
  | some (ks, ds) => f ks ds
  | none => .bad
theorem dgtL_of {x : D} {xs : List D} {ks : List Key} {ds : List D} (h : pseq x = some xs) (h2 : pairsK xs = some (ks, ds)) (f : List Key → List D → R D) : dgtL x f = f ks ds := by unfold dgtL; rw [h]; simp [h2]
@[simp] theorem e_dgt (z : E) : evE G (.dgt a b z) l st = (evE G a l st).bind fun x st => dgtL x fun ks ds => (evE G b l st).bind fun y st => (evE G z l st).bind fun z st => dgtR ks ds y z st := by rw [evE]; rfl
@[simp] theorem e_mad : evE G (.mad a b) l st = (evE G a l st).bind fun x st => (evE G b l st).bind fun y st => madR x y st := by rw [evE]
theorem ssrL_lst {xs : List D} (h : xs.all D.tupB = true) (st : So) : ssrL (.lst xs) st = ssrR xs st := by simp [ssrL, lstOf, h]
theorem ssrL_tup {xs : List D} (h : xs.all D.isiB = true) (st : So) : ssrL (.tup xs) st = ssrR xs st := by simp [ssrL, h]
@[simp] theorem e_ssr : evE G (.ssr a) l st = (evE G a l st).bind fun x st => ssrL x st := by rw [evE]
@[simp] theorem e_rev : evE G (.rev a) l st = (evE G a l st).bind fun x st => revR x st := by rw [evE]
@[simp] theorem e_rgs1 (t : Bool) : evE G (.rgs t .none b) l st = (evE G b l st).bind fun y st => rgsR t (.int 0) y st := by rw [evE]
@[simp] theorem e_rgs2 (t : Bool) : evE G (.rgs t (.some a) b) l st = (evE G a l st).bind fun x st => (evE G b l st).bind fun y st => rgsR t x y st := by rw [evE]
@[simp] theorem revR_lst (xs : List D) (st : So) : revR (.lst xs) st = .ok (.lst xs.reverse) st := rfl
@[simp] theorem rgsR_int (t : Bool) (i j : Int) (st : So) : rgsR t (.int i) (.int j) st = if rngOk i j then .ok (if t then .tup (rngD i (j - i).toNat) else .lst (rngD i (j - i).toNat)) st else .bad := rfl
def enuR (d : D) (st : So) : R (List D) := match d with
  | .lst xs => .ok (enuD 0 xs) st
  | .tup xs => .ok (enuD 0 xs) st
  | _ => .bad
@[simp] theorem enuR_lst (xs : List D) (st : So) : enuR (.lst xs) st = .ok (enuD 0 xs) st := rfl
@[simp] theorem enuR_tup (xs : List D) (st : So) : enuR (.tup xs) st = .ok (enuD 0 xs) st := rfl
@[simp] theorem ew_enu : evW G (.enu a) l st = (evE G a l st).bind fun d st => enuR d st := by
  rw [evW]
  congr 1
variable (ss : Ss)
@[simp] theorem s_par3 (i j k : Nat) : evS G (.par3 i j k a b c) l st = RS.of l (evE G a l st) fun x st => RS.of l (evE G b l st) fun y st => RS.of l (evE G c l st) fun z st => .nx (((l.set i (some x)).set j (some y)).set k (some z)) st := by rw [evS]
@[simp] theorem s_ret : evS G (.ret a) l st = RS.of l (evE G a l st) fun d st => .rt d st := by rw [evS]
@[simp] theorem s_retN : evS G .retN l st = .rt .non st := rfl
@[simp] theorem s_expr : evS G (.expr a) l st = RS.of l (evE G a l st) fun _ st => .nx l st := by rw [evS]
@[simp] theorem s_pass : evS G .pass l st = .nx l st := rfl
@[simp] theorem s_set (i : Nat) : evS G (.set i a) l st = RS.of l (evE G a l st) fun d st => .nx (l.set i (some d)) st := by rw [evS]
def setTR (is : List Nat) (d : D) (l : Lo) (st : So) : RS := match bindTg (.tu is) d l with
  | some l => .nx l st
  | none => .bad
@[simp] theorem setTR_tup (is : List Nat) (ds : List D) (l : Lo) (st : So) : setTR is (.tup ds) l st = (match setAll is ds l with
  | some l => .nx l st
  | none => .bad) := rfl
@[simp] theorem s_setT (is : List Nat) : evS G (.setT is a) l st = RS.of l (evE G a l st) fun d st => setTR is d l st := by rw [evS]; rfl
@[simp] theorem s_par (i j : Nat) : evS G (.par i j a b) l st = RS.of l (evE G a l st) fun x st => RS.of l (evE G b l st) fun y st => .nx ((l.set i (some x)).set j (some y)) st := by rw [evS]
def subR (l : Lo) (x y z : D) (st : So) : RS := match x with
  | .ref n => match putOb n y z st with
    | some st => .nx l st
    | none => .bad
  | _ => .bad
@[simp] theorem subR_ref (l : Lo) (n : Nat) (y z : D) (st : So) : subR l (.ref n) y z st = (match putOb n y z st with
    | some st => .nx l st
    | none => .bad) := rfl
@[simp] theorem s_sub : evS G (.sub a b c) l st = RS.of l (evE G c l st) fun z st => RS.of l (evE G a l st) fun x st => RS.of l (evE G b l st) fun y st => subR l x y z st := by rw [evS]; rfl
@[simp] theorem e_mdc : evE G .mdc l st = .ok (.ref st.length) (st ++ [.dct [] []]) := rfl
@[simp] theorem s_ite (p q : Ss) : evS G (.ite a p q) l st = RS.of l (evB G a l st) fun k st => bth k (evSs G p l st) (evSs G q l st) := by rw [evS]; rfl
@[simp] theorem s_for (tg : Tg) (w : Wk) (p : Ss) : evS G (.for tg w p) l st = RS.of l (evW G w l st) fun xs st => forGo (bindTg tg) (evSs G p) xs l st := by rw [evS]
@[simp] theorem s_whl (p : Ss) : evS G (.whl a p) l st = whileGo (evB G a) (evSs G p) turns l st := by rw [evS]
@[simp] theorem s_raise (x : Str) : evS G (.raise x) l st = .exc x .non l st := rfl
@[simp] theorem ss_nil : evSs G .nil l st = .nx l st := rfl
@[simp] theorem ss_cons (s : S) : evSs G (.cons s ss) l st = (evS G s l st).seq fun l st => evSs G ss l st := by
  rw [evSs]
  cases evS G s l st <;> rfl
end

section
variable (st : So) (xs ys : List D) (x y : D) (i j : Int) (z w : Str)
@[simp] theorem tru_bl (b : Bool) : tru (.bl b) st = .ok b st := rfl
@[simp] theorem tru_non : tru .non st = .ok false st := rfl
@[simp] theorem tru_int : tru (.int i) st = .ok (i != 0) st := rfl
@[simp] theorem tru_tup : tru (.tup xs) st = .ok (!xs.isEmpty) st := rfl
@[simp] theorem tru_lst : tru (.lst xs) st = .ok (!xs.isEmpty) st := rfl
@[simp] theorem len_str : biD .len [.str z] st = .ok (.int z.length) st := rfl
@[simp] theorem len_tup : biD .len [.tup xs] st = .ok (.int xs.length) st := rfl
@[simp] theorem len_lst : biD .len [.lst xs] st = .ok (.int xs.length) st := rfl
@[simp] theorem abs_int : biD .abs [.int i] st = .ok (.int (if i < 0 then -i else i)) st := rfl
@[simp] theorem int_int : biD .int [.int i] st = .ok (.int i) st := rfl
@[simp] theorem list_str : biD .list [.str z] st = .ok (.lst (signs z)) st := rfl
@[simp] theorem list_tup : biD .list [.tup xs] st = .ok (.lst xs) st := rfl
@[simp] theorem list_lst : biD .list [.lst xs] st = .ok (.lst xs) st := rfl
@[simp] theorem list_scr : biD .list [.scr xs] st = .ok (.lst xs) st := rfl
@[simp] theorem tuple_tup : biD .tuple [.tup xs] st = .ok (.tup xs) st := rfl
@[simp] theorem tuple_lst : biD .tuple [.lst xs] st = .ok (.tup xs) st := rfl
theorem all_lst {bs : List Bool} (h : blsOf xs = some bs) : biD .all [.lst xs] st = .ok (.bl (bs.all id)) st := by
  simp [biD, lstOf, h]
@[simp] theorem cmp_eq : cmpB .eq x y st = eqD x y st := by cases x <;> rfl
@[simp] theorem cmp_ne : cmpB .ne x y st = (eqD x y st).bind fun b st => .ok (!b) st := by cases x <;> rfl
@[simp] theorem cmp_mem : cmpB .mem x y st = memD x y st := by cases x <;> rfl
@[simp] theorem cmp_nmem : cmpB .nmem x y st = (memD x y st).bind fun b st => .ok (!b) st := by cases x <;> rfl
@[simp] theorem cmp_is : cmpB .is x y st = isD x y st := by cases x <;> rfl
@[simp] theorem cmp_nis : cmpB .nis x y st = (isD x y st).bind fun b st => .ok (!b) st := by cases x <;> rfl
@[simp] theorem cmp_lt : cmpB .lt (.int i) (.int j) st = .ok (decide (i < j)) st := rfl
@[simp] theorem cmp_le : cmpB .le (.int i) (.int j) st = .ok (decide (i ≤ j)) st := rfl
@[simp] theorem cmp_gt : cmpB .gt (.int i) (.int j) st = .ok (decide (j < i)) st := rfl
@[simp] theorem cmp_ge : cmpB .ge (.int i) (.int j) st = .ok (decide (j ≤ i)) st := rfl
theorem min_lst {n : Int} {ns : List Int} (h : intsD xs = some (n :: ns)) : biD .min [.lst xs] st = .ok (.int (minL n ns)) st := by
  show (match intsD xs with
    | some (n :: ns) => R.ok (D.int (minL n ns)) st
    | _ => .bad) = _
  rw [h]
theorem max_lst {n : Int} {ns : List Int} (h : intsD xs = some (n :: ns)) : biD .max [.lst xs] st = .ok (.int (maxL n ns)) st := by
  show (match intsD xs with
    | some (n :: ns) => R.ok (D.int (maxL n ns)) st
    | _ => .bad) = _
  rw [h]
@[simp] theorem min_int : biD .min [.int i, .int j] st = .ok (.int (if j < i then j else i)) st := rfl
@[simp] theorem max_int : biD .max [.int i, .int j] st = .ok (.int (if j > i then j else i)) st := rfl
theorem sorted_lst : biD .sorted [.lst xs] st = sortR xs st := rfl
theorem sorted_tup : biD .sorted [.tup xs] st = sortR xs st := rfl
@[simp] theorem op_add : opD .add (.int i) (.int j) st = .ok (.int (i + j)) st := rfl
@[simp] theorem op_sub : opD .sub (.int i) (.int j) st = .ok (.int (i - j)) st := rfl
@[simp] theorem op_add_tup : opD .add (.tup xs) (.tup ys) st = if xs.length + ys.length ≤ sizeLine then .ok (.tup (xs ++ ys)) st else .bad := rfl
@[simp] theorem op_add_lst : opD .add (.lst xs) (.lst ys) st = if xs.length + ys.length ≤ sizeLine then .ok (.lst (xs ++ ys)) st else .bad := rfl
@[simp] theorem op_add_str : opD .add (.str z) (.str w) st = if z.length + w.length ≤ sizeLine then .ok (.str (z ++ w)) st else .bad := rfl
@[simp] theorem op_mul : opD .mul (.int i) (.int j) st = if mulOk i j then .ok (.int (i * j)) st else .bad := rfl
@[simp] theorem op_fdiv : opD .fdiv (.int i) (.int j) st = if 0 < j ∧ j < 1073741824 then .ok (.int (i / j)) st else .bad := rfl
@[simp] theorem op_mod : opD .mod (.int i) (.int j) st = if 0 < j then .ok (.int (i % j)) st else .bad := rfl
theorem op_mul_tup (k : Int) : opD .mul (.tup xs) (.int k) st = if 2 ≤ k ∧ (xs.length : Int) * k ≤ 1000000 ∧ 0 < xs.length then .ok (.tup (repD xs k)) st else .bad := rfl
theorem op_mul_lst (k : Int) : opD .mul (.lst xs) (.int k) st = if -(2 ^ 63) ≤ k ∧ k < 2 ^ 63 ∧ xs.length * k.toNat ≤ sizeLine then .ok (.lst (repD xs k)) st else .bad := rfl
theorem ix_tup : ixD (.tup xs) (.int i) st = match atI xs i with
      | some d => .ok d st
      | none => .bad := rfl
theorem ix_lst : ixD (.lst xs) (.int i) st = match atI xs i with
      | some d => .ok d st
      | none => .bad := rfl
@[simp] theorem sl_tup (lo hi : Option Int) : slD (.tup xs) lo hi st = .ok (.tup (cutD xs lo hi)) st := rfl
@[simp] theorem sl_lst (lo hi : Option Int) : slD (.lst xs) lo hi st = .ok (.lst (cutD xs lo hi)) st := rfl
end

@[simp] theorem le_size {n : Nat} (h : n ≤ 100000) : n ≤ sizeLine := Nat.le_trans h (by decide)

/-- r ends well, and K holds behind it -/
def Ok {α : Type} (r : R α) (K : α → So → Prop) : Prop := match r with
  | .ok a st => K a st
  | _ => False
@[simp] theorem Ok_ok {α : Type} (a : α) (st : So) (K : α → So → Prop) : Ok (.ok a st) K ↔ K a st := Iff.rfl
@[simp] theorem Ok_bind {α β : Type} (r : R α) (f : α → So → R β) (K : β → So → Prop) : Ok (r.bind f) K ↔ Ok r fun a st => Ok (f a st) K := by
  cases r <;> exact Iff.rfl
theorem Ok.mono {α : Type} {r : R α} {K K' : α → So → Prop} (h : Ok r K) (q : ∀ a st, K a st → K' a st) : Ok r K' := by
  cases r with
  | ok a st => exact q a st h
  | exc c p st => exact h
  | bad => exact h
theorem Ok.eq {α : Type} {r : R α} {a : α} {st : So} (h : r = .ok a st) {K : α → So → Prop} (q : K a st) : Ok r K := by rw [h]; exact q
/-- a block: K what follows, T what is returned -/
def WR (r : RS) (K : Lo → So → Prop) (T : D → So → Prop) : Prop := match r with
  | .nx l st => K l st
  | .rt d st => T d st
  | _ => False
@[simp] theorem WR_nx (l : Lo) (st : So) (K : Lo → So → Prop) (T : D → So → Prop) : WR (.nx l st) K T ↔ K l st := Iff.rfl
@[simp] theorem WR_rt (d : D) (st : So) (K : Lo → So → Prop) (T : D → So → Prop) : WR (.rt d st) K T ↔ T d st := Iff.rfl
@[simp] theorem WR_of {α : Type} (l : Lo) (r : R α) (f : α → So → RS) (K : Lo → So → Prop) (T : D → So → Prop) : WR (RS.of l r f) K T ↔ Ok r fun a st => WR (f a st) K T := by
  cases r <;> exact Iff.rfl
theorem WR.mono {r : RS} {K K' : Lo → So → Prop} {T T' : D → So → Prop} (h : WR r K T) (q : ∀ l st, K l st → K' l st) (t : ∀ d st, T d st → T' d st) : WR r K' T' := by
  cases r with
  | nx l st => exact q l st h
  | rt d st => exact t d st h
  | _ => exact h
section
variable {G : Gm}
@[simp] theorem WR_seq (r : RS) (f : Lo → So → RS) (K : Lo → So → Prop) (T : D → So → Prop) : WR (r.seq f) K T ↔ WR r (fun l st => WR (f l st) K T) T := by
  cases r <;> exact Iff.rfl
@[simp] theorem WR_ite (c : Prop) [Decidable c] (p q : RS) (K : Lo → So → Prop) (T : D → So → Prop) : WR (if c then p else q) K T ↔ if c then WR p K T else WR q K T := by
  split <;> exact Iff.rfl
@[simp] theorem Ok_ite {α : Type} (c : Prop) [Decidable c] (p q : R α) (K : α → So → Prop) : Ok (if c then p else q) K ↔ if c then Ok p K else Ok q K := by
  split <;> exact Iff.rfl
@[simp] theorem Ok_res (r : RS) (K : D → So → Prop) : Ok r.res K ↔ WR r (fun _ st => K .non st) K := by
  cases r <;> exact Iff.rfl
@[simp] theorem WR_bth (c : Bool) (p q : RS) (K : Lo → So → Prop) (T : D → So → Prop) : WR (bth c p q) K T ↔ (c = true → WR p K T) ∧ (c = false → WR q K T) := by
  cases c <;> simp
@[simp] theorem Ok_bth {α : Type} (c : Bool) (p q : R α) (K : α → So → Prop) : Ok (bth c p q) K ↔ (c = true → Ok p K) ∧ (c = false → Ok q K) := by
  cases c <;> simp
theorem Ok_body {f : Fn} {ds : List D} {st : So} {K : D → So → Prop} (hn : ds.length = f.np) (h : WR (evSs G f.body (ds.map some ++ List.replicate (f.nn - f.np) none) st) (fun _ st => K .non st) K) : Ok (runBody G f ds st) K := by
  unfold runBody
  rw [if_pos hn]
  cases e : evSs G f.body (ds.map some ++ List.replicate (f.nn - f.np) none) st <;> rw [e] at h <;> exact h
end
/-- a loop, by what holds ahead of each turn -/
theorem WR_for {bnd : D → Lo → Option Lo} {body : Lo → So → RS} {K : Lo → So → Prop} {T : D → So → Prop} (I : Lo → So → Prop) : ∀ {xs : List D} {l : Lo} {st : So}, I l st →
    (∀ x ∈ xs, ∀ l st, I l st → ∃ l1, bnd x l = some l1 ∧ WR (body l1 st) I T) → (∀ l st, I l st → K l st) → WR (forGo bnd body xs l st) K T
  | [], l, st, h, _, q => q l st h
  | x :: xs, l, st, h, hs, q => by
    obtain ⟨l1, e, w⟩ := hs x List.mem_cons_self l st h
    unfold forGo
    rw [e]
    simp only
    cases eb : body l1 st with
    | nx l2 st2 => rw [eb] at w; exact WR_for I (xs := xs) w (fun y hy => hs y (List.mem_cons_of_mem _ hy)) q
    | rt d st2 => rw [eb] at w; exact w
    | _ => rw [eb] at w; exact w.elim
/-- a comprehension whose turns leave the store as it is -/
theorem lc_pure {bnd : D → Option Lo} {tst : Lo → So → R Bool} {elt : Lo → So → R D} {st : So} (p : D → Bool) (f : D → D) : ∀ {xs acc : List D},
    (∀ x ∈ xs, ∃ l, bnd x = some l ∧ tst l st = .ok (p x) st ∧ (p x = true → elt l st = .ok (f x) st)) → lcGo bnd tst elt xs acc st = .ok (.lst (acc ++ (xs.filter p).map f)) st
  | [], acc, _ => by simp [lcGo]
  | x :: xs, acc, h => by
    obtain ⟨l, e1, e2, e3⟩ := h x List.mem_cons_self
    unfold lcGo
    rw [e1]
    simp only [e2]
    cases hp : p x with
    | true =>
      simp only [e3 hp]
      rw [lc_pure p f fun y hy => h y (List.mem_cons_of_mem _ hy)]
      simp [hp]
    | false =>
      simp only
      rw [lc_pure p f fun y hy => h y (List.mem_cons_of_mem _ hy)]
      simp [hp]
theorem lc_map {bnd : D → Option Lo} {tst : Lo → So → R Bool} {elt : Lo → So → R D} {st : So} (f : D → D) {xs : List D}
    (h : ∀ x ∈ xs, ∃ l, bnd x = some l ∧ tst l st = .ok true st ∧ elt l st = .ok (f x) st) : lcGo bnd tst elt xs [] st = .ok (.lst (xs.map f)) st := by
  rw [lc_pure (fun _ => true) f fun x hx => let ⟨l, e1, e2, e3⟩ := h x hx; ⟨l, e1, e2, fun _ => e3⟩]
  rw [List.filter_eq_self.mpr fun _ _ => rfl]
  simp
/-- .. by what holds of each item -/
theorem Ok_lc {bnd : D → Option Lo} {tst : Lo → So → R Bool} {elt : Lo → So → R D} {K : D → So → Prop} (I : So → Prop) (P : D → Prop) : ∀ {xs acc : List D} {st : So}, I st → (∀ d ∈ acc, P d) →
    (∀ x ∈ xs, ∀ st, I st → ∃ l, bnd x = some l ∧ Ok (tst l st) fun b st1 => I st1 ∧ (b = true → Ok (elt l st1) fun d st2 => P d ∧ I st2)) → (∀ ds st, I st → (∀ d ∈ ds, P d) → ds.length ≤ acc.length + xs.length → K (.lst ds) st) → Ok (lcGo bnd tst elt xs acc st) K
  | [], acc, st, h, ha, _, q => q acc st h ha (by simp)
  | x :: xs, acc, st, h, ha, hs, q => by
    obtain ⟨l, e, w⟩ := hs x List.mem_cons_self st h
    unfold lcGo
    rw [e]
    simp only
    cases et : tst l st with
    | ok b st1 =>
      rw [et] at w
      obtain ⟨w1, w2⟩ := w
      cases b with
      | true =>
        simp only
        have w3 := w2 rfl
        cases ee : elt l st1 with
        | ok d st2 =>
          rw [ee] at w3
          simp only
          refine Ok_lc I P w3.2 (fun d' hd => ?_) (fun y hy => hs y (List.mem_cons_of_mem _ hy)) fun ds st hi hp hl => q ds st hi hp (by simp at hl ⊢; omega)
          rcases List.mem_append.mp hd with hd | hd
          · exact ha d' hd
          · have e : d' = d := by simpa using hd
            rw [e]; exact w3.1
        | exc c p st2 => rw [ee] at w3; exact w3.elim
        | bad => rw [ee] at w3; exact w3.elim
      | false =>
        simp only
        exact Ok_lc I P w1 ha (fun y hy => hs y (List.mem_cons_of_mem _ hy)) fun ds st hi hp hl => q ds st hi hp (by simp at hl ⊢; omega)
    | exc c p st1 => rw [et] at w; exact w.elim
    | bad => rw [et] at w; exact w.elim
def Pg.fn? (P : Pg) (x : Str) : Option Fn := P.fns.find? fun f => f.name == x
def Pg.con? (P : Pg) (x : Str) : Option D := P.con.lookup x
@[simp] theorem gm_cal (P : Pg) (k : Nat) : (gmN P k).cal = calN P k := rfl
theorem gm_con (P : Pg) (k : Nat) (x : Str) : (gmN P k).con x = P.con? x := by
  cases k with
  | zero => rfl
  | succ k => cases k <;> rfl
@[simp] theorem gm_hasL (P : Pg) (k : Nat) : (gmN P k).has = P.hasV := by
  cases k with
  | zero => rfl
  | succ k => cases k <;> rfl
theorem calN_at {P : Pg} {x : Str} {f : Fn} (h : P.fn? x = some f) (k : Nat) (ds : List D) (st : So) : calN P (k + 1) x ds st = runBody (gmN P k) f ds st := by
  unfold Pg.fn? at h
  unfold calN
  cases k <;> simp only [gmN, h]
theorem tel_at {P : Pg} {f : Str} {t : Tl} (h : P.tel? f = some t) (k : Nat) (e : E) (l : Lo) (st : So) : evE (gmN P (k + 2)) (.tel f e) l st = tellD P t (evE (gmN P k) e l st) := by
  rw [evE]
  show (match P.tel? f with
    | some t => tellD P t (evE (gmN P k) e l st)
    | none => .bad) = _
  rw [h]
theorem e_glbP {Q : Pg} {k : Nat} {x : Str} {d : D} (h : Q.con? x = some d) (l : Lo) (st : So) : evE (gmN Q k) (.glb x) l st = .ok d st := e_glb _ _ _ (by rw [gm_con]; exact h)
/-- the cup: a list of two numbers, first in the store -/
def cup (a b : Int) : Ob := .lst [.int a, .int b]
end CP

set_option Elab.async false
set_option linter.all false
set_option maxRecDepth 100000
set_option autoImplicit false
/-! LibA: defs shared by laws. -/
namespace CP
open PySem L2
def b_is_whole : Ss :=
    (.cons (.ret (.and (.isi (.var 0) "int") (.and (.not (.isi (.var 0) "bool")) (.chn .le .le (.var 1) (.var 0) (.var 2)))))
    .nil)
def f_is_whole : Fn := ⟨"is_whole", 3, 3, b_is_whole⟩
class H_is_whole (P : Pg) : Prop where
  at_is_whole : P.fn? "is_whole" = some f_is_whole
def b_is_tuple_of : Ss :=
    (.cons (.ret (.and (.isi (.var 0) "tuple") (.chn .le .le (.var 1) (.bi .len (.cons (.var 0) .nil)) (.var 2))))
    .nil)
def f_is_tuple_of : Fn := ⟨"is_tuple_of", 3, 3, b_is_tuple_of⟩
class H_is_tuple_of (P : Pg) : Prop where
  at_is_tuple_of : P.fn? "is_tuple_of" = some f_is_tuple_of
def b_fits_word (cLONGEST : Str) : Ss :=
    (.cons (.ret (.and (.isi (.var 0) "str") (.and (.chn .le .le (.int 1) (.bi .len (.cons (.var 0) .nil)) (.glb cLONGEST)) (.bi .all (.cons (.lc (.cmp .mem (.var 1) (.glb "SIGNS")) (.nm 1) (.seq (.var 0)) .none [1]) .nil)))))
    .nil)
def f_fits_word (cLONGEST : Str) : Fn := ⟨"fits_word", 1, 2, b_fits_word cLONGEST⟩
class H_fits_word (P : Pg) : Prop where
  at_fits_word : ∃ cLONGEST, P.fn? "fits_word" = some (f_fits_word cLONGEST) ∧ P.con? cLONGEST = some (.int 12)
  con_fits_word_SIGNS : P.con? "SIGNS" = some (.str "abcdefghijklmnopqrstuvwxyz0123456789")
def b_fits_words : Ss :=
    (.cons (.ret (.and (.cal "is_tuple_of" (.cons (.var 0) (.cons (.var 1) (.cons (.var 2) .nil)))) (.bi .all (.cons (.lc (.cal "fits_word" (.cons (.var 3) .nil)) (.nm 3) (.seq (.var 0)) .none [3]) .nil))))
    .nil)
def f_fits_words : Fn := ⟨"fits_words", 3, 4, b_fits_words⟩
class H_fits_words (P : Pg) : Prop extends H_fits_word P, H_is_tuple_of P where
  at_fits_words : P.fn? "fits_words" = some f_fits_words
def b_fits_name (cDEEP : Str) : Ss :=
    (.cons (.ret (.cal "fits_words" (.cons (.var 0) (.cons (.int 1) (.cons (.glb cDEEP) .nil)))))
    .nil)
def f_fits_name (cDEEP : Str) : Fn := ⟨"fits_name", 1, 1, b_fits_name cDEEP⟩
class H_fits_name (P : Pg) : Prop extends H_fits_words P where
  at_fits_name : ∃ cDEEP, P.fn? "fits_name" = some (f_fits_name cDEEP) ∧ P.con? cDEEP = some (.int 4)
def b_fits_other (cDEEP : Str) (cGREATEST : Str) : Ss :=
    (.cons (.ite (.or (.not (.cal "is_tuple_of" (.cons (.var 0) (.cons (.int 2) (.cons (.int 3) .nil))))) (.not (.isi (.ix (.var 0) (.int 0)) "str"))) (.cons (.ret (.bl false))
    .nil) .nil)
    (.cons (.ite (.cmp .eq (.ix (.var 0) (.int 0)) (.str "house")) (.cons (.ret (.and (.cmp .eq (.bi .len (.cons (.var 0) .nil)) (.int 2)) (.cal "fits_words" (.cons (.ix (.var 0) (.int 1)) (.cons (.int 1) (.cons (.glb cDEEP) .nil))))))
    .nil) .nil)
    (.cons (.ite (.cmp .eq (.ix (.var 0) (.int 0)) (.str "letter")) (.cons (.ret (.and (.cmp .eq (.bi .len (.cons (.var 0) .nil)) (.int 3)) (.and (.cal "fits_word" (.cons (.ix (.var 0) (.int 1)) .nil)) (.cal "fits_words" (.cons (.ix (.var 0) (.int 2)) (.cons (.int 1) (.cons (.glb cDEEP) .nil)))))))
    .nil) .nil)
    (.cons (.ret (.and (.cmp .eq (.ix (.var 0) (.int 0)) (.str "number")) (.and (.cmp .eq (.bi .len (.cons (.var 0) .nil)) (.int 2)) (.cal "is_whole" (.cons (.ix (.var 0) (.int 1)) (.cons (.int 0) (.cons (.glb cGREATEST) .nil)))))))
    .nil))))
def f_fits_other (cDEEP : Str) (cGREATEST : Str) : Fn := ⟨"fits_other", 1, 1, b_fits_other cDEEP cGREATEST⟩
class H_fits_other (P : Pg) : Prop extends H_is_whole P, H_fits_words P, H_fits_word P, H_is_tuple_of P where
  at_fits_other : ∃ cDEEP cGREATEST, P.fn? "fits_other" = some (f_fits_other cDEEP cGREATEST) ∧ P.con? cDEEP = some (.int 4) ∧ P.con? cGREATEST = some (.int 65535)
def b_fits_subtree (cDEEP : Str) (cGREATEST : Str) : Ss :=
    (.cons (.ite (.or (.not (.cal "is_tuple_of" (.cons (.var 0) (.cons (.int 2) (.cons (.int 3) .nil))))) (.not (.isi (.ix (.var 0) (.int 0)) "str"))) (.cons (.ret (.bl false))
    .nil) .nil)
    (.cons (.ite (.cmp .mem (.ix (.var 0) (.int 0)) (.tup (.cons (.str "house") (.cons (.str "name") .nil)))) (.cons (.ret (.and (.cmp .eq (.bi .len (.cons (.var 0) .nil)) (.int 2)) (.cal "fits_words" (.cons (.ix (.var 0) (.int 1)) (.cons (.int 0) (.cons (.glb cDEEP) .nil))))))
    .nil) .nil)
    (.cons (.ite (.cmp .ne (.bi .len (.cons (.var 0) .nil)) (.int 3)) (.cons (.ret (.bl false))
    .nil) .nil)
    (.cons (.ite (.cmp .eq (.ix (.var 0) (.int 0)) (.str "letter")) (.cons (.ret (.and (.isi (.ix (.var 0) (.int 1)) "str") (.and (.or (.cmp .eq (.ix (.var 0) (.int 1)) (.str "")) (.cal "fits_word" (.cons (.ix (.var 0) (.int 1)) .nil))) (.cal "fits_words" (.cons (.ix (.var 0) (.int 2)) (.cons (.int 0) (.cons (.glb cDEEP) .nil)))))))
    .nil) .nil)
    (.cons (.ite (.or (.cmp .ne (.ix (.var 0) (.int 0)) (.str "number")) (.or (.not (.cal "is_whole" (.cons (.ix (.var 0) (.int 1)) (.cons (.int 0) (.cons (.glb cGREATEST) .nil))))) (.not (.cal "is_whole" (.cons (.ix (.var 0) (.int 2)) (.cons (.int 0) (.cons (.glb cGREATEST) .nil))))))) (.cons (.ret (.bl false))
    .nil) .nil)
    (.cons (.ret (.cmp .le (.ix (.var 0) (.int 1)) (.ix (.var 0) (.int 2))))
    .nil))))))
def f_fits_subtree (cDEEP : Str) (cGREATEST : Str) : Fn := ⟨"fits_subtree", 1, 1, b_fits_subtree cDEEP cGREATEST⟩
class H_fits_subtree (P : Pg) : Prop extends H_is_whole P, H_fits_words P, H_fits_word P, H_is_tuple_of P where
  at_fits_subtree : ∃ cDEEP cGREATEST, P.fn? "fits_subtree" = some (f_fits_subtree cDEEP cGREATEST) ∧ P.con? cDEEP = some (.int 4) ∧ P.con? cGREATEST = some (.int 65535)
def b_is_name : Ss :=
    (.cons (.ret (.cal "fits_name" (.cons (.var 0) .nil)))
    .nil)
def f_is_name : Fn := ⟨"is_name", 1, 1, b_is_name⟩
class H_is_name (P : Pg) : Prop extends H_fits_name P where
  at_is_name : P.fn? "is_name" = some f_is_name
def b_is_other_name : Ss :=
    (.cons (.ret (.cal "fits_other" (.cons (.var 0) .nil)))
    .nil)
def f_is_other_name : Fn := ⟨"is_other_name", 1, 1, b_is_other_name⟩
class H_is_other_name (P : Pg) : Prop extends H_fits_other P where
  at_is_other_name : P.fn? "is_other_name" = some f_is_other_name
def b_is_subtree : Ss :=
    (.cons (.ret (.cal "fits_subtree" (.cons (.var 0) .nil)))
    .nil)
def f_is_subtree : Fn := ⟨"is_subtree", 1, 1, b_is_subtree⟩
class H_is_subtree (P : Pg) : Prop extends H_fits_subtree P where
  at_is_subtree : P.fn? "is_subtree" = some f_is_subtree
def b_law_cup : Ss :=
    (.cons (.set 1 (.bi .abs (.cons (.ix (.bin .add (.bi .list (.cons (.var 0) .nil)) (.lst (.cons (.int 0) .nil))) (.int 0)) .nil)))
    (.cons (.ret (.mls (.cons (.ite (.cmp .ge (.var 1) (.bin .pow (.int 10) (.int 18))) (.bin .fdiv (.var 1) (.int 71)) (.int 0)) (.cons (.bin .add (.bin .mod (.bi .int (.cons (.bin .add (.bin .mul (.var 1) (.int 281)) (.int 2683)) .nil)) (.int 2077503161)) (.int 167)) .nil))))
    .nil))
def f_law_cup : Fn := ⟨"_law_cup", 1, 2, b_law_cup⟩
class H_law_cup (P : Pg) : Prop where
  at_law_cup : P.fn? "_law_cup" = some f_law_cup
def b_law_roll : Ss :=
    (.cons (.ite (.cmp .gt (.ix (.var 0) (.int 0)) (.int 0)) (.cons (.set 3 (.bin .mod (.bi .int (.cons (.ix (.var 0) (.int 0)) .nil)) (.var 1)))
    (.cons (.sub (.var 0) (.int 0) (.bin .fdiv (.ix (.var 0) (.int 0)) (.var 1)))
    (.cons (.ret (.var 3))
    .nil))) .nil)
    (.cons (.sub (.var 0) (.int 1) (.bin .mod (.bi .int (.cons (.bin .add (.bin .mul (.ix (.var 0) (.int 1)) (.int 31051)) (.int 7993)) .nil)) (.int 2147483543)))
    (.cons (.set 2 (.bin .mod (.bi .int (.cons (.bin .mul (.ix (.var 0) (.int 1)) (.bin .add (.ix (.var 0) (.int 1)) (.int 233))) .nil)) (.int 2147483587)))
    (.cons (.ret (.bin .mod (.bi .int (.cons (.bin .fdiv (.var 2) (.int 823)) .nil)) (.var 1)))
    .nil))))
def f_law_roll : Fn := ⟨"_law_roll", 2, 4, b_law_roll⟩
class H_law_roll (P : Pg) : Prop where
  at_law_roll : P.fn? "_law_roll" = some f_law_roll
def b_law_some : Ss :=
    (.cons (.ret (.ix (.var 1) (.cal "_law_roll" (.cons (.var 0) (.cons (.bi .len (.cons (.var 1) .nil)) .nil)))))
    .nil)
def f_law_some : Fn := ⟨"_law_some", 2, 2, b_law_some⟩
class H_law_some (P : Pg) : Prop extends H_law_roll P where
  at_law_some : P.fn? "_law_some" = some f_law_some
def b_law_is_whole : Ss :=
    (.cons (.ret (.and (.isi (.var 0) "int") (.and (.not (.isi (.var 0) "bool")) (.chn .le .le (.var 1) (.var 0) (.var 2)))))
    .nil)
def f_law_is_whole : Fn := ⟨"_law_is_whole", 3, 3, b_law_is_whole⟩
class H_law_is_whole (P : Pg) : Prop where
  at_law_is_whole : P.fn? "_law_is_whole" = some f_law_is_whole
def b_law_is_word : Ss :=
    (.cons (.set 1 (.bi .list (.cons (.str "abcdefghijklmnopqrstuvwxyz0123456789") .nil)))
    (.cons (.ret (.and (.isi (.var 0) "str") (.and (.chn .lt .lt (.int 0) (.bi .len (.cons (.var 0) .nil)) (.int 13)) (.cmp .eq (.lc (.var 2) (.nm 2) (.seq (.var 0)) (.some (.cmp .nmem (.var 2) (.var 1))) [2]) (.lst .nil)))))
    .nil))
def f_law_is_word : Fn := ⟨"_law_is_word", 1, 3, b_law_is_word⟩
class H_law_is_word (P : Pg) : Prop where
  at_law_is_word : P.fn? "_law_is_word" = some f_law_is_word
def b_law_is_words : Ss :=
    (.cons (.ret (.and (.isi (.var 0) "tuple") (.and (.chn .le .le (.var 1) (.bi .len (.cons (.var 0) .nil)) (.var 2)) (.cmp .eq (.lc (.var 3) (.nm 3) (.seq (.var 0)) (.some (.not (.cal "_law_is_word" (.cons (.var 3) .nil)))) [3]) (.lst .nil)))))
    .nil)
def f_law_is_words : Fn := ⟨"_law_is_words", 3, 4, b_law_is_words⟩
class H_law_is_words (P : Pg) : Prop extends H_law_is_word P where
  at_law_is_words : P.fn? "_law_is_words" = some f_law_is_words
def b_law_is_other : Ss :=
    (.cons (.ite (.or (.not (.isi (.var 0) "tuple")) (.or (.cmp .lt (.bi .len (.cons (.var 0) .nil)) (.int 2)) (.not (.isi (.ix (.var 0) (.int 0)) "str")))) (.cons (.ret (.bl false))
    .nil) .nil)
    (.cons (.ite (.cmp .eq (.ix (.var 0) (.int 0)) (.str "letter")) (.cons (.ret (.and (.cmp .eq (.bi .len (.cons (.var 0) .nil)) (.int 3)) (.and (.cal "_law_is_word" (.cons (.ix (.var 0) (.int 1)) .nil)) (.cal "_law_is_words" (.cons (.ix (.var 0) (.int 2)) (.cons (.int 1) (.cons (.int 4) .nil)))))))
    .nil) .nil)
    (.cons (.ite (.cmp .eq (.ix (.var 0) (.int 0)) (.str "house")) (.cons (.ret (.and (.cmp .eq (.bi .len (.cons (.var 0) .nil)) (.int 2)) (.cal "_law_is_words" (.cons (.ix (.var 0) (.int 1)) (.cons (.int 1) (.cons (.int 4) .nil))))))
    .nil) .nil)
    (.cons (.ret (.and (.cmp .eq (.ix (.var 0) (.int 0)) (.str "number")) (.and (.cmp .eq (.bi .len (.cons (.var 0) .nil)) (.int 2)) (.cal "_law_is_whole" (.cons (.ix (.var 0) (.int 1)) (.cons (.int 0) (.cons (.int 65535) .nil)))))))
    .nil))))
def f_law_is_other : Fn := ⟨"_law_is_other", 1, 1, b_law_is_other⟩
class H_law_is_other (P : Pg) : Prop extends H_law_is_whole P, H_law_is_words P, H_law_is_word P where
  at_law_is_other : P.fn? "_law_is_other" = some f_law_is_other
def b_law_is_subtree : Ss :=
    (.cons (.ite (.or (.not (.isi (.var 0) "tuple")) (.or (.cmp .lt (.bi .len (.cons (.var 0) .nil)) (.int 2)) (.not (.isi (.ix (.var 0) (.int 0)) "str")))) (.cons (.ret (.bl false))
    .nil) .nil)
    (.cons (.ite (.or (.cmp .eq (.ix (.var 0) (.int 0)) (.str "name")) (.cmp .eq (.ix (.var 0) (.int 0)) (.str "house"))) (.cons (.ret (.and (.cmp .eq (.bi .len (.cons (.var 0) .nil)) (.int 2)) (.cal "_law_is_words" (.cons (.ix (.var 0) (.int 1)) (.cons (.int 0) (.cons (.int 4) .nil))))))
    .nil) .nil)
    (.cons (.ite (.cmp .eq (.ix (.var 0) (.int 0)) (.str "letter")) (.cons (.ret (.and (.cmp .eq (.bi .len (.cons (.var 0) .nil)) (.int 3)) (.and (.or (.and (.cmp .eq (.ix (.var 0) (.int 1)) (.str "")) (.isi (.ix (.var 0) (.int 1)) "str")) (.cal "_law_is_word" (.cons (.ix (.var 0) (.int 1)) .nil))) (.cal "_law_is_words" (.cons (.ix (.var 0) (.int 2)) (.cons (.int 0) (.cons (.int 4) .nil)))))))
    .nil) .nil)
    (.cons (.ite (.or (.cmp .ne (.ix (.var 0) (.int 0)) (.str "number")) (.or (.cmp .ne (.bi .len (.cons (.var 0) .nil)) (.int 3)) (.not (.cal "_law_is_whole" (.cons (.ix (.var 0) (.int 1)) (.cons (.int 0) (.cons (.int 65535) .nil))))))) (.cons (.ret (.bl false))
    .nil) .nil)
    (.cons (.ret (.cal "_law_is_whole" (.cons (.ix (.var 0) (.int 2)) (.cons (.ix (.var 0) (.int 1)) (.cons (.int 65535) .nil)))))
    .nil)))))
def f_law_is_subtree : Fn := ⟨"_law_is_subtree", 1, 1, b_law_is_subtree⟩
class H_law_is_subtree (P : Pg) : Prop extends H_law_is_whole P, H_law_is_words P, H_law_is_word P where
  at_law_is_subtree : P.fn? "_law_is_subtree" = some f_law_is_subtree
def b_law_name : Ss :=
    (.cons (.ret (.cal "_law_some" (.cons (.var 0) (.cons (.lst (.cons (.tup (.cons (.str "r") .nil)) (.cons (.tup (.cons (.str "r") (.cons (.str "a") .nil))) (.cons (.tup (.cons (.str "r") (.cons (.str "b") .nil))) (.cons (.tup (.cons (.str "r") (.cons (.str "a") (.cons (.str "c") .nil)))) (.cons (.tup (.cons (.str "s") .nil)) (.cons (.tup (.cons (.str "s") (.cons (.str "d") .nil))) .nil))))))) .nil))))
    .nil)
def f_law_name : Fn := ⟨"_law_name", 1, 1, b_law_name⟩
class H_law_name (P : Pg) : Prop extends H_law_some P where
  at_law_name : P.fn? "_law_name" = some f_law_name
def b_law_other : Ss :=
    (.cons (.set 1 (.cal "_law_some" (.cons (.var 0) (.cons (.lst (.cons (.tup (.cons (.str "x") .nil)) (.cons (.tup (.cons (.str "x") (.cons (.str "y") .nil))) (.cons (.tup (.cons (.str "z") .nil)) .nil)))) .nil))))
    (.cons (.ret (.cal "_law_some" (.cons (.var 0) (.cons (.lst (.cons (.tup (.cons (.str "house") (.cons (.var 1) .nil))) (.cons (.tup (.cons (.str "letter") (.cons (.cal "_law_some" (.cons (.var 0) (.cons (.lst (.cons (.str "me") (.cons (.str "you") .nil))) .nil))) (.cons (.var 1) .nil)))) (.cons (.tup (.cons (.str "number") (.cons (.cal "_law_roll" (.cons (.var 0) (.cons (.int 20) .nil))) .nil))) .nil)))) .nil))))
    .nil))
def f_law_other : Fn := ⟨"_law_other", 1, 2, b_law_other⟩
class H_law_other (P : Pg) : Prop extends H_law_some P, H_law_roll P where
  at_law_other : P.fn? "_law_other" = some f_law_other
def b_law_subtree : Ss :=
    (.cons (.set 1 (.cal "_law_some" (.cons (.var 0) (.cons (.lst (.cons (.tup .nil) (.cons (.tup (.cons (.str "x") .nil)) (.cons (.tup (.cons (.str "x") (.cons (.str "y") .nil))) (.cons (.tup (.cons (.str "z") .nil)) .nil))))) .nil))))
    (.cons (.set 2 (.cal "_law_roll" (.cons (.var 0) (.cons (.int 20) .nil))))
    (.cons (.set 3 (.lst (.cons (.tup (.cons (.str "name") (.cons (.cal "_law_some" (.cons (.var 0) (.cons (.lst (.cons (.tup .nil) (.cons (.tup (.cons (.str "r") .nil)) (.cons (.tup (.cons (.str "r") (.cons (.str "a") .nil))) (.cons (.tup (.cons (.str "s") .nil)) .nil))))) .nil))) .nil))) (.cons (.tup (.cons (.str "house") (.cons (.var 1) .nil))) (.cons (.tup (.cons (.str "letter") (.cons (.cal "_law_some" (.cons (.var 0) (.cons (.lst (.cons (.str "") (.cons (.str "me") .nil))) .nil))) (.cons (.var 1) .nil)))) .nil)))))
    (.cons (.ret (.cal "_law_some" (.cons (.var 0) (.cons (.bin .add (.var 3) (.lst (.cons (.tup (.cons (.str "number") (.cons (.var 2) (.cons (.bin .add (.var 2) (.cal "_law_roll" (.cons (.var 0) (.cons (.int 9) .nil)))) .nil)))) .nil))) .nil))))
    .nil))))
def f_law_subtree : Fn := ⟨"_law_subtree", 1, 4, b_law_subtree⟩
class H_law_subtree (P : Pg) : Prop extends H_law_some P, H_law_roll P where
  at_law_subtree : P.fn? "_law_subtree" = some f_law_subtree
def b_law_spoilt : Ss :=
    (.cons (.ite (.or (.not (.isi (.var 1) "tuple")) (.or (.cmp .eq (.var 1) (.tup .nil)) (.cmp .eq (.cal "_law_roll" (.cons (.var 0) (.cons (.int 6) .nil))) (.int 0)))) (.cons (.ret (.cal "_law_some" (.cons (.var 0) (.cons (.lst (.cons .non (.cons (.tup .nil) (.cons (.int 0) (.cons (.int 1) (.cons (.neg (.int 1)) (.cons (.int 7) (.cons (.int 70000) (.cons (.bin .pow (.int 10) (.int 10)) (.cons (.bl true) (.cons (.str "") (.cons (.str "a") (.cons (.str "any") (.cons (.str "A") (.cons (.str "basic") (.cons (.str "names") (.cons (.tup (.cons (.str "r") .nil)) (.cons (.tup (.cons (.str "a") (.cons (.str "b") .nil))) (.cons (.lst (.cons (.str "r") .nil)) (.cons (.str "abcdefghijklm") .nil)))))))))))))))))))) .nil))))
    .nil) .nil)
    (.cons (.par 2 3 (.cal "_law_roll" (.cons (.var 0) (.cons (.bi .len (.cons (.var 1) .nil)) .nil))) (.cal "_law_roll" (.cons (.var 0) (.cons (.int 9) .nil))))
    (.cons (.ite (.cmp .lt (.var 3) (.int 2)) (.cons (.ret (.bin .add (.bin .add (.sl (.var 1) .none (.some (.var 2))) (.sl (.var 1) (.some (.bin .add (.var 2) (.var 3))) .none)) (.ite (.cmp .eq (.var 3) (.int 0)) (.sl (.var 1) (.some (.var 2)) (.some (.bin .add (.var 2) (.int 1)))) (.tup .nil))))
    .nil) .nil)
    (.cons (.ret (.ite (.cmp .eq (.var 3) (.int 2)) (.bi .list (.cons (.var 1) .nil)) (.bin .add (.bin .add (.sl (.var 1) .none (.some (.var 2))) (.tup (.cons (.cal "_law_spoilt" (.cons (.var 0) (.cons (.ix (.var 1) (.var 2)) .nil))) .nil))) (.sl (.var 1) (.some (.bin .add (.var 2) (.int 1))) .none))))
    .nil))))
def f_law_spoilt : Fn := ⟨"_law_spoilt", 2, 4, b_law_spoilt⟩
class H_law_spoilt (P : Pg) : Prop extends H_law_roll P, H_law_some P where
  at_law_spoilt : P.fn? "_law_spoilt" = some f_law_spoilt
end CP

set_option Elab.async false
set_option linter.all false
set_option maxRecDepth 100000
set_option autoImplicit false
/-! LibA1: names, values: what they compute. -/
namespace CP
open PySem L2
def wholeD (d : D) (lo hi : Int) : Bool := match d with
  | .int i => decide (lo ≤ i) && decide (i ≤ hi)
  | _ => false
def SG : Str := "abcdefghijklmnopqrstuvwxyz0123456789"
def signOk (c : Nat) : Bool := decide (c ∈ SG.cps.toList)
def wordD (d : D) : Bool := match d with
  | .str x => decide (1 ≤ x.length) && decide (x.length ≤ 12) && x.cps.toList.all signOk
  | _ => false
def tupD (d : D) (lo hi : Int) : Bool := match d with
  | .tup xs => decide (lo ≤ (xs.length : Int)) && decide ((xs.length : Int) ≤ hi)
  | _ => false
def wordsD (d : D) (lo hi : Int) : Bool := match d with
  | .tup xs => decide (lo ≤ (xs.length : Int)) && decide ((xs.length : Int) ≤ hi) && xs.all wordD
  | _ => false
def otherD (d : D) : Bool := match d with
  | .tup [.str x, b] => (x == "house" && wordsD b 1 4) || (x == "number" && wholeD b 0 65535)
  | .tup [.str x, b, c] => x == "letter" && wordD b && wordsD c 1 4
  | _ => false
def numsD (b c : D) : Bool := match b, c with
  | .int i, .int j => decide (0 ≤ i) && decide (i ≤ j) && decide (j ≤ 65535)
  | _, _ => false
def freeD (b : D) : Bool := match b with
  | .str y => y == "" || wordD (.str y)
  | _ => false
def subtreeD (d : D) : Bool := match d with
  | .tup [.str x, b] => (x == "house" || x == "name") && wordsD b 0 4
  | .tup [.str x, b, c] => (x == "number" && numsD b c) || (x == "letter" && freeD b && wordsD c 0 4)
  | _ => false
def D.isInt : D → Bool
  | .int _ => true
  | _ => false
def D.isBl : D → Bool
  | .bl _ => true
  | _ => false
def D.isStr : D → Bool
  | .str _ => true
  | _ => false
def D.isTup : D → Bool
  | .tup _ => true
  | _ => false
def D.isLst : D → Bool
  | .lst _ => true
  | _ => false
theorem isi_int {d : D} (h : d.isDat = true) : isiD d "int" = some (d.isInt || d.isBl) := by cases d <;> first | rfl | (simp [D.isDat] at h)
theorem isi_bool {d : D} (h : d.isDat = true) : isiD d "bool" = some d.isBl := by cases d <;> first | rfl | (simp [D.isDat] at h)
theorem isi_str {d : D} (h : d.isDat = true) : isiD d "str" = some d.isStr := by cases d <;> first | rfl | (simp [D.isDat] at h)
theorem isi_tuple {d : D} (h : d.isDat = true) : isiD d "tuple" = some d.isTup := by cases d <;> first | rfl | (simp [D.isDat] at h)
theorem isi_list {d : D} (h : d.isDat = true) : isiD d "list" = some d.isLst := by cases d <;> first | rfl | (simp [D.isDat] at h)
theorem isTup_iff {d : D} : d.isTup = true ↔ ∃ xs, d = .tup xs := by cases d <;> simp [D.isTup]
theorem isStr_iff {d : D} : d.isStr = true ↔ ∃ xs, d = .str xs := by cases d <;> simp [D.isStr]
theorem isInt_iff {d : D} : d.isInt = true ↔ ∃ xs, d = .int xs := by cases d <;> simp [D.isInt]
section
variable {P : Pg} (k : Nat) (st : So)
theorem is_whole_spec [H_is_whole P] {d : D} (lo hi : Int) (hd : d.isDat = true) : calN P (k + 1) "is_whole" [d, .int lo, .int hi] st = .ok (.bl (wholeD d lo hi)) st := by
  rw [calN_at H_is_whole.at_is_whole, run_eq rfl]
  simp [f_is_whole, b_is_whole, isiR_of (isi_int hd), isiR_of (isi_bool hd)]
  cases d <;> simp [D.isInt, D.isBl, wholeD]
theorem is_tuple_of_spec [H_is_tuple_of P] {d : D} (lo hi : Int) (hd : d.isDat = true) : calN P (k + 1) "is_tuple_of" [d, .int lo, .int hi] st = .ok (.bl (tupD d lo hi)) st := by
  rw [calN_at H_is_tuple_of.at_is_tuple_of, run_eq rfl]
  simp [f_is_tuple_of, b_is_tuple_of, isiR_of (isi_tuple hd)]
  cases d <;> simp [D.isTup, tupD]
theorem law_is_whole_spec [H_law_is_whole P] {d : D} (lo hi : Int) (hd : d.isDat = true) : calN P (k + 1) "_law_is_whole" [d, .int lo, .int hi] st = .ok (.bl (wholeD d lo hi)) st := by
  rw [calN_at H_law_is_whole.at_law_is_whole, run_eq rfl]
  simp [f_law_is_whole, b_law_is_whole, isiR_of (isi_int hd), isiR_of (isi_bool hd)]
  cases d <;> simp [D.isInt, D.isBl, wholeD]
theorem in_sign (c : Nat) (z : Str) : inStr ⟨#[c]⟩ z = decide (c ∈ z.cps.toList) := PySem.StrLaws.found_one z c
theorem blsOf_map {α : Type} (f : α → Bool) : ∀ xs : List α, blsOf (xs.map fun x => D.bl (f x)) = some (xs.map f)
  | [] => rfl
  | x :: xs => by simp [blsOf, blsOf_map f xs]
theorem mem_signs {x : Str} {d : D} (h : d ∈ signs x) : ∃ c, c ∈ x.cps.toList ∧ d = .str ⟨#[c]⟩ := by
  unfold signs at h
  rw [List.mem_map] at h
  obtain ⟨c, hc, e⟩ := h
  exact ⟨c, hc, e.symm⟩
def sgD (d : D) : Bool := match d with
  | .str y => inStr y SG
  | _ => false
theorem all_signs (x : Str) : ((signs x).map sgD).all id = x.cps.toList.all signOk := by
  unfold signs
  rw [List.map_map, List.all_map]
  congr 1
  funext c
  simp [sgD, in_sign, signOk]
theorem fits_word_spec [H_fits_word P] {d : D} (hd : d.isDat = true) : calN P (k + 1) "fits_word" [d] st = .ok (.bl (wordD d)) st := by
  obtain ⟨cL, eA, eL⟩ := H_fits_word.at_fits_word (P := P)
  rw [calN_at eA, run_eq rfl]
  simp [f_fits_word, b_fits_word, isiR_of (isi_str hd), e_glbP eL]
  cases d <;> simp [D.isStr, wordD]
  rename_i x
  rw [lc_map (fun d => .bl (sgD d)) fun d hd => by
      obtain ⟨c, hc, rfl⟩ := mem_signs hd
      refine ⟨_, rfl, rfl, ?_⟩
      simp [e_glbP H_fits_word.con_fits_word_SIGNS, memD, sgD, wipeD, SG]]
  have e1 : decide ((1 : Int) ≤ (x.length : Int)) = decide (1 ≤ x.length) := decide_eq_decide.mpr (by omega)
  have e2 : decide ((x.length : Int) ≤ 12) = decide (x.length ≤ 12) := decide_eq_decide.mpr (by omega)
  have e3 : x.cps.all signOk = ((signs x).map sgD).all id := by rw [all_signs]; simp
  have e4 : (1 : Int) ≤ (x.length : Int) ↔ 1 ≤ x.length := by omega
  have e5 : (x.length : Int) ≤ 12 ↔ x.length ≤ 12 := by omega
  simp only [bind_ok, all_lst _ _ (blsOf_map _ _), e1, e2, e3, and_bl, of_ok, seq_rt, res_rt, bth_ff]
theorem isDats_all : ∀ {xs : List D}, isDats xs = true ↔ ∀ d ∈ xs, d.isDat = true
  | [] => by simp [isDats]
  | x :: xs => by simp [isDats, isDats_all (xs := xs)]
theorem isDats_filter {xs : List D} (p : D → Bool) (h : isDats xs = true) : isDats (xs.filter p) = true := isDats_all.mpr fun d hd => isDats_all.mp h d (List.mem_filter.mp hd).1
theorem isDats_signs (x : Str) : isDats (signs x) = true := isDats_all.mpr fun d hd => by
  obtain ⟨c, _, rfl⟩ := mem_signs hd
  rfl
theorem mem_tup {x : D} {xs : List D} (hx : x.isDat = true) (hd : x.dep ≤ 64) (hs : isDats xs = true) (st : So) : memD x (.tup xs) st = .ok (inD x xs) st := by
  cases x <;> simp [memD, seqOf, hx, hs, hd]
theorem mem_str_lst (z : Str) {xs : List D} (hs : isDats xs = true) (st : So) : memD (.str z) (.lst xs) st = .ok (inD (.str z) xs) st := by
  simp [memD, seqOf, lstOf, hs, D.isDat, D.dep]
theorem eqD_nil {xs : List D} (h : isDats xs = true) (st : So) : eqD (.lst xs) (.lst []) st = .ok xs.isEmpty st := by
  unfold eqD
  simp [D.see, D.isDat, h, isDats, D.dep, deps, D.eqv]
  cases xs <;> simp [eqvs]
theorem str_one (a c : Nat) : ((⟨#[a]⟩ : Str) == ⟨#[c]⟩) = decide (a = c) := by
  rw [Bool.eq_iff_iff]
  simp
theorem in_signs (c : Nat) (x : Str) : inD (.str ⟨#[c]⟩) (signs x) = decide (c ∈ x.cps.toList) := by
  unfold inD signs
  rw [List.any_map]
  simp only [Function.comp_def, D.eqv, str_one]
  rw [Bool.eq_iff_iff, List.any_eq_true]
  constructor
  · intro ⟨y, hy, e⟩
    have e2 : y = c := by simpa using e
    rw [← e2]; simpa using hy
  · intro h
    exact ⟨c, by simpa using h, by simp⟩
theorem law_is_word_spec [H_law_is_word P] {d : D} (hd : d.isDat = true) : calN P (k + 1) "_law_is_word" [d] st = .ok (.bl (wordD d)) st := by
  rw [calN_at H_law_is_word.at_law_is_word, run_eq rfl]
  simp [f_law_is_word, b_law_is_word, isiR_of (isi_str hd)]
  cases d <;> simp [D.isStr, wordD]
  rename_i x
  rw [lc_pure (fun d => !sgD d) id fun d hd => by
      obtain ⟨c, hc, rfl⟩ := mem_signs hd
      refine ⟨_, rfl, ?_, fun _ => rfl⟩
      simp [mem_str_lst _ (isDats_signs _), in_signs, in_sign, sgD, wipeD, SG]]
  have e1 : decide ((0 : Int) < (x.length : Int)) = decide (1 ≤ x.length) := decide_eq_decide.mpr (by omega)
  have e2 : decide ((x.length : Int) < 13) = decide (x.length ≤ 12) := decide_eq_decide.mpr (by omega)
  have e3 : x.cps.all signOk = ((signs x).map sgD).all id := by rw [all_signs]; simp
  simp only [eqD_nil (isDats_filter _ (isDats_signs x)), bind_ok, and_bl, e1, e2, e3, of_ok, seq_rt, res_rt]
  have e4 : (List.filter (fun d => !sgD d) (signs x)).isEmpty = ((signs x).map sgD).all id := by
    rw [Bool.eq_iff_iff]
    simp
  have e1b : decide (0 < x.length) = decide (1 ≤ x.length) := rfl
  simp only [List.map_id, eqD_nil (isDats_filter _ (isDats_signs x)), bind_ok, e4, e1b, e1, e2, e3, and_bl, of_ok, seq_rt, res_rt, bth_ff, List.nil_append]
@[simp] theorem ix_t0 (a : D) (xs : List D) (st : So) : ixD (.tup (a :: xs)) (.int 0) st = .ok a st := by simp [ix_tup, atI, ixN]
@[simp] theorem ix_t1 (a b : D) (xs : List D) (st : So) : ixD (.tup (a :: b :: xs)) (.int 1) st = .ok b st := by
  have h : (1 : Int) < (xs.length : Int) + 1 + 1 := by omega
  simp [ix_tup, atI, ixN, h]
@[simp] theorem ix_t2 (a b c : D) (xs : List D) (st : So) : ixD (.tup (a :: b :: c :: xs)) (.int 2) st = .ok c st := by
  have h : (2 : Int) < (xs.length : Int) + 1 + 1 + 1 := by omega
  simp [ix_tup, atI, ixN, h]
theorem fits_words_spec [H_fits_words P] {d : D} (lo hi : Int) (hd : d.isDat = true) : calN P (k + 2) "fits_words" [d, .int lo, .int hi] st = .ok (.bl (wordsD d lo hi)) st := by
  rw [calN_at H_fits_words.at_fits_words, run_eq rfl]
  simp [f_fits_words, b_fits_words, is_tuple_of_spec _ _ _ _ hd]
  cases d <;> simp [tupD, wordsD]
  rename_i xs
  have hs : ∀ d ∈ xs, d.isDat = true := isDats_all.mp (by simpa [D.isDat] using hd)
  rw [lc_map (fun d => .bl (wordD d)) fun d h => by
      refine ⟨_, rfl, rfl, ?_⟩
      simp [wipeD, fits_word_spec _ _ (hs d h)]]
  simp [all_lst _ _ (blsOf_map _ _)]
theorem law_is_words_spec [H_law_is_words P] {d : D} (lo hi : Int) (hd : d.isDat = true) : calN P (k + 2) "_law_is_words" [d, .int lo, .int hi] st = .ok (.bl (wordsD d lo hi)) st := by
  rw [calN_at H_law_is_words.at_law_is_words, run_eq rfl]
  simp [f_law_is_words, b_law_is_words, isiR_of (isi_tuple hd)]
  cases d <;> simp [D.isTup, wordsD]
  rename_i xs
  have hs : ∀ d ∈ xs, d.isDat = true := isDats_all.mp (by simpa [D.isDat] using hd)
  rw [lc_pure (fun d => !wordD d) id fun d h => by
      refine ⟨_, rfl, ?_, fun _ => rfl⟩
      simp [wipeD, law_is_word_spec _ _ (hs d h)]]
  have e4 : (List.map id (List.filter (fun d => !wordD d) xs)).isEmpty = xs.all wordD := by
    rw [Bool.eq_iff_iff]
    simp
  have e5 : isDats (List.map id (List.filter (fun d => !wordD d) xs)) = true := by
    rw [List.map_id]
    exact isDats_filter _ (isDats_all.mpr hs)
  simp only [List.nil_append, bind_ok, eqD_nil e5, e4, and_bl, of_ok, seq_rt, res_rt, bth_ff]
theorem isDat_tup {xs : List D} (h : (D.tup xs).isDat = true) : ∀ d ∈ xs, d.isDat = true := isDats_all.mp (by simpa [D.isDat] using h)
@[simp] theorem eqD_str (x y : Str) (st : So) : eqD (.str x) (.str y) st = .ok (x == y) st := by
  simp [eqD, D.see, D.isDat, D.dep, D.eqv]
@[simp] theorem eqD_int (x y : Int) (st : So) : eqD (.int x) (.int y) st = .ok (x == y) st := by
  simp [eqD, D.see, D.isDat, D.dep, D.eqv]
@[simp] theorem eqD_bl (x y : Bool) (st : So) : eqD (.bl x) (.bl y) st = .ok (x == y) st := by
  simp [eqD, D.see, D.isDat, D.dep, D.eqv]
theorem len4 (t : List D) : ¬ ((t.length : Int) + 1 + 1 + 1 + 1 ≤ 3) := by omega
theorem len4b (t : List D) : ¬ ((t.length : Int) + 1 + 1 + 1 + 1 = 3) := by omega
theorem len4f (t : List D) : (((t.length : Int) + 1 + 1 + 1 + 1) == 3) = false := beq_false_of_ne (by omega)
theorem len4g (t : List D) : (((t.length : Int) + 1 + 1 + 1 + 1) == 2) = false := beq_false_of_ne (by omega)
theorem len4c (t : List D) : ¬ ((t.length : Int) + 1 + 1 + 1 + 1 = 2) := by omega
theorem len4e (t : List D) : ¬ (((t.length : Int) + 1 + 1 + 1 + 1) < 2) := by omega
theorem hou_num : (Str.ofString "house" == Str.ofString "number") = false := rfl
theorem hou_let : (Str.ofString "house" == Str.ofString "letter") = false := rfl
theorem hou_nam : (Str.ofString "house" == Str.ofString "name") = false := rfl
theorem let_num : (Str.ofString "letter" == Str.ofString "number") = false := rfl
theorem let_hou : (Str.ofString "letter" == Str.ofString "house") = false := rfl
theorem let_nam : (Str.ofString "letter" == Str.ofString "name") = false := rfl
theorem nam_num : (Str.ofString "name" == Str.ofString "number") = false := rfl
theorem nam_let : (Str.ofString "name" == Str.ofString "letter") = false := rfl
theorem nam_hou : (Str.ofString "name" == Str.ofString "house") = false := rfl
theorem num_hou : (Str.ofString "number" == Str.ofString "house") = false := rfl
theorem num_let : (Str.ofString "number" == Str.ofString "letter") = false := rfl
theorem num_nam : (Str.ofString "number" == Str.ofString "name") = false := rfl
theorem fits_other_spec [H_fits_other P] {d : D} (hd : d.isDat = true) : calN P (k + 3) "fits_other" [d] st = .ok (.bl (otherD d)) st := by
  obtain ⟨cD, cG, eA, eD, eG⟩ := H_fits_other.at_fits_other (P := P)
  rw [calN_at eA, run_eq rfl]
  simp [f_fits_other, b_fits_other, is_tuple_of_spec _ _ _ _ hd, e_glbP eD, e_glbP eG]
  cases d <;> try (simp [tupD, D.isTup, otherD]; done)
  rename_i xs
  have hs := isDat_tup hd
  rcases xs with _ | ⟨a, _ | ⟨b, _ | ⟨c, _ | ⟨e, t⟩⟩⟩⟩
  · simp [tupD, D.isTup, otherD]
  · cases a <;> simp [tupD, D.isTup, otherD]
  · have ha : a.isDat = true := hs a (by simp)
    have hb : b.isDat = true := hs b (by simp)
    cases a <;> try (simp [tupD, D.isTup, isiR_of (isi_str ha), otherD, D.isStr, len4, len4f, len4g, len4b, len4c, len4e, hou_num, hou_let, hou_nam, let_num, let_hou, let_nam, nam_num, nam_let, nam_hou, num_hou, num_let, num_nam, fits_words_spec _ _ _ _ hb, is_whole_spec _ _ _ _ hb]; done)
    rename_i x
    by_cases h1 : x = "house"
    · subst h1; simp [tupD, D.isTup, isiR_of (isi_str ha), otherD, D.isStr, len4, len4f, len4g, len4b, len4c, len4e, hou_num, hou_let, hou_nam, let_num, let_hou, let_nam, nam_num, nam_let, nam_hou, num_hou, num_let, num_nam, fits_words_spec _ _ _ _ hb, is_whole_spec _ _ _ _ hb]
    · by_cases h2 : x = "letter"
      · subst h2; simp [tupD, D.isTup, isiR_of (isi_str ha), otherD, D.isStr, len4, len4f, len4g, len4b, len4c, len4e, hou_num, hou_let, hou_nam, let_num, let_hou, let_nam, nam_num, nam_let, nam_hou, num_hou, num_let, num_nam, fits_words_spec _ _ _ _ hb, is_whole_spec _ _ _ _ hb]
      · simp [beq_false_of_ne h1, beq_false_of_ne h2, tupD, D.isTup, isiR_of (isi_str ha), otherD, D.isStr, len4, len4f, len4g, len4b, len4c, len4e, hou_num, hou_let, hou_nam, let_num, let_hou, let_nam, nam_num, nam_let, nam_hou, num_hou, num_let, num_nam, fits_words_spec _ _ _ _ hb, is_whole_spec _ _ _ _ hb]
  · have ha : a.isDat = true := hs a (by simp)
    have hb : b.isDat = true := hs b (by simp)
    have hc : c.isDat = true := hs c (by simp)
    cases a <;> try (simp [tupD, D.isTup, isiR_of (isi_str ha), otherD, D.isStr, len4, len4f, len4g, len4b, len4c, len4e, hou_num, hou_let, hou_nam, let_num, let_hou, let_nam, nam_num, nam_let, nam_hou, num_hou, num_let, num_nam, fits_words_spec _ _ _ _ hc, fits_word_spec _ _ hb]; done)
    rename_i x
    by_cases h1 : x = "house"
    · subst h1; simp [tupD, D.isTup, isiR_of (isi_str ha), otherD, D.isStr, len4, len4f, len4g, len4b, len4c, len4e, hou_num, hou_let, hou_nam, let_num, let_hou, let_nam, nam_num, nam_let, nam_hou, num_hou, num_let, num_nam, fits_words_spec _ _ _ _ hc, fits_word_spec _ _ hb]
    · by_cases h2 : x = "letter"
      · subst h2; simp [tupD, D.isTup, isiR_of (isi_str ha), otherD, D.isStr, len4, len4f, len4g, len4b, len4c, len4e, hou_num, hou_let, hou_nam, let_num, let_hou, let_nam, nam_num, nam_let, nam_hou, num_hou, num_let, num_nam, fits_words_spec _ _ _ _ hc, fits_word_spec _ _ hb]
      · simp [beq_false_of_ne h1, beq_false_of_ne h2, tupD, D.isTup, isiR_of (isi_str ha), otherD, D.isStr, len4, len4f, len4g, len4b, len4c, len4e, hou_num, hou_let, hou_nam, let_num, let_hou, let_nam, nam_num, nam_let, nam_hou, num_hou, num_let, num_nam, fits_words_spec _ _ _ _ hc, fits_word_spec _ _ hb]
  · have ha : a.isDat = true := hs a (by simp)
    have hb : b.isDat = true := hs b (by simp)
    cases a <;> simp [tupD, D.isTup, isiR_of (isi_str ha), otherD, D.isStr, len4, len4f, len4g, len4b, len4c, len4e, hou_num, hou_let, hou_nam, let_num, let_hou, let_nam, nam_num, nam_let, nam_hou, num_hou, num_let, num_nam]
theorem law_is_other_spec [H_law_is_other P] {d : D} (hd : d.isDat = true) : calN P (k + 3) "_law_is_other" [d] st = .ok (.bl (otherD d)) st := by
  rw [calN_at H_law_is_other.at_law_is_other, run_eq rfl]
  simp [f_law_is_other, b_law_is_other, isiR_of (isi_tuple hd)]
  cases d <;> try (simp [tupD, D.isTup, otherD]; done)
  rename_i xs
  have hs := isDat_tup hd
  rcases xs with _ | ⟨a, _ | ⟨b, _ | ⟨c, _ | ⟨e, t⟩⟩⟩⟩
  · simp [tupD, D.isTup, otherD]
  · cases a <;> simp [tupD, D.isTup, otherD]
  · have ha : a.isDat = true := hs a (by simp)
    have hb : b.isDat = true := hs b (by simp)
    cases a <;> try (simp [tupD, D.isTup, isiR_of (isi_str ha), otherD, D.isStr, len4, len4f, len4g, len4b, len4c, len4e, hou_num, hou_let, hou_nam, let_num, let_hou, let_nam, nam_num, nam_let, nam_hou, num_hou, num_let, num_nam, law_is_words_spec _ _ _ _ hb, law_is_whole_spec _ _ _ _ hb]; done)
    rename_i x
    by_cases h1 : x = "house"
    · subst h1; simp [tupD, D.isTup, isiR_of (isi_str ha), otherD, D.isStr, len4, len4f, len4g, len4b, len4c, len4e, hou_num, hou_let, hou_nam, let_num, let_hou, let_nam, nam_num, nam_let, nam_hou, num_hou, num_let, num_nam, law_is_words_spec _ _ _ _ hb, law_is_whole_spec _ _ _ _ hb]
    · by_cases h2 : x = "letter"
      · subst h2; simp [tupD, D.isTup, isiR_of (isi_str ha), otherD, D.isStr, len4, len4f, len4g, len4b, len4c, len4e, hou_num, hou_let, hou_nam, let_num, let_hou, let_nam, nam_num, nam_let, nam_hou, num_hou, num_let, num_nam, law_is_words_spec _ _ _ _ hb, law_is_whole_spec _ _ _ _ hb]
      · simp [beq_false_of_ne h1, beq_false_of_ne h2, tupD, D.isTup, isiR_of (isi_str ha), otherD, D.isStr, len4, len4f, len4g, len4b, len4c, len4e, hou_num, hou_let, hou_nam, let_num, let_hou, let_nam, nam_num, nam_let, nam_hou, num_hou, num_let, num_nam, law_is_words_spec _ _ _ _ hb, law_is_whole_spec _ _ _ _ hb]
  · have ha : a.isDat = true := hs a (by simp)
    have hb : b.isDat = true := hs b (by simp)
    have hc : c.isDat = true := hs c (by simp)
    cases a <;> try (simp [tupD, D.isTup, isiR_of (isi_str ha), otherD, D.isStr, len4, len4f, len4g, len4b, len4c, len4e, hou_num, hou_let, hou_nam, let_num, let_hou, let_nam, nam_num, nam_let, nam_hou, num_hou, num_let, num_nam, law_is_words_spec _ _ _ _ hc, law_is_word_spec _ _ hb]; done)
    rename_i x
    by_cases h1 : x = "house"
    · subst h1; simp [tupD, D.isTup, isiR_of (isi_str ha), otherD, D.isStr, len4, len4f, len4g, len4b, len4c, len4e, hou_num, hou_let, hou_nam, let_num, let_hou, let_nam, nam_num, nam_let, nam_hou, num_hou, num_let, num_nam, law_is_words_spec _ _ _ _ hc, law_is_word_spec _ _ hb]
    · by_cases h2 : x = "letter"
      · subst h2; simp [tupD, D.isTup, isiR_of (isi_str ha), otherD, D.isStr, len4, len4f, len4g, len4b, len4c, len4e, hou_num, hou_let, hou_nam, let_num, let_hou, let_nam, nam_num, nam_let, nam_hou, num_hou, num_let, num_nam, law_is_words_spec _ _ _ _ hc, law_is_word_spec _ _ hb]
      · simp [beq_false_of_ne h1, beq_false_of_ne h2, tupD, D.isTup, isiR_of (isi_str ha), otherD, D.isStr, len4, len4f, len4g, len4b, len4c, len4e, hou_num, hou_let, hou_nam, let_num, let_hou, let_nam, nam_num, nam_let, nam_hou, num_hou, num_let, num_nam, law_is_words_spec _ _ _ _ hc, law_is_word_spec _ _ hb]
  · have ha : a.isDat = true := hs a (by simp)
    have hb : b.isDat = true := hs b (by simp)
    cases a <;> simp [tupD, D.isTup, isiR_of (isi_str ha), otherD, D.isStr, len4, len4f, len4g, len4b, len4c, len4e, hou_num, hou_let, hou_nam, let_num, let_hou, let_nam, nam_num, nam_let, nam_hou, num_hou, num_let, num_nam]
end
end CP

set_option Elab.async false
set_option linter.all false
set_option maxRecDepth 100000
set_option autoImplicit false
/-! LibA2: subtrees; the exported checks. -/
namespace CP
open PySem L2
theorem see_dat {x : D} (h : x.isDat = true) (st : So) : x.see st = x := by cases x <;> first | rfl | (simp [D.isDat] at h)
theorem eqD_dat_str {x : D} (h : x.isDat = true) (z : Str) (st : So) : eqD x (.str z) st = .ok (x.eqv (.str z)) st := by
  unfold eqD
  rw [see_dat h, see_dat (x := .str z) rfl, h]
  simp [D.isDat, D.dep]
theorem str_comm (x y : Str) : (x == y) = (y == x) := by
  rw [Bool.eq_iff_iff, beq_iff_eq, beq_iff_eq]
  exact eq_comm
@[simp] theorem mem_hn (x : Str) (st : So) : memD (.str x) (.tup [.str "house", .str "name"]) st = .ok (x == "house" || x == "name") st := by
  rw [mem_tup rfl (by simp [D.dep]) rfl]
  simp only [inD, List.any_cons, List.any_nil, D.eqv, Bool.or_false]
  rw [str_comm x, str_comm x]
theorem whole_not {d : D} (h : ¬ ∃ i, d = .int i) (lo hi : Int) : wholeD d lo hi = false := by
  cases d <;> first | rfl | exact absurd ⟨_, rfl⟩ h
theorem nums_not {d e : D} (h : ¬ ∃ i, d = .int i) : numsD d e = false := by
  cases d <;> first | rfl | exact absurd ⟨_, rfl⟩ h
theorem nums_not2 {d e : D} (h : ¬ ∃ i, d = .int i) : numsD e d = false := by
  cases e <;> cases d <;> first | rfl | exact absurd ⟨_, rfl⟩ h
section
variable {P : Pg} (k : Nat) (st : So)
theorem fits_subtree_spec [H_fits_subtree P] {d : D} (hd : d.isDat = true) : calN P (k + 3) "fits_subtree" [d] st = .ok (.bl (subtreeD d)) st := by
  obtain ⟨cD, cG, eA, eD, eG⟩ := H_fits_subtree.at_fits_subtree (P := P)
  rw [calN_at eA, run_eq rfl]
  simp [f_fits_subtree, b_fits_subtree, is_tuple_of_spec _ _ _ _ hd, e_glbP eD, e_glbP eG]
  cases d <;> try (simp [tupD, D.isTup, subtreeD]; done)
  rename_i xs
  have hs := isDat_tup hd
  rcases xs with _ | ⟨a, _ | ⟨b, _ | ⟨c, _ | ⟨e, t⟩⟩⟩⟩
  · simp [tupD, D.isTup, subtreeD]
  · cases a <;> simp [tupD, D.isTup, subtreeD]
  · have ha : a.isDat = true := hs a (by simp)
    have hb : b.isDat = true := hs b (by simp)
    have hz : ∀ st, eqD b (.str (Str.ofString "")) st = .ok (b.eqv (.str (Str.ofString ""))) st := fun st => eqD_dat_str hb _ st
    cases a <;> simp [tupD, D.isTup, isiR_of (isi_str ha), subtreeD, D.isStr, len4, len4f, len4g, len4b, len4c, len4e, hou_num, hou_let, hou_nam, let_num, let_hou, let_nam, nam_num, nam_let, nam_hou, num_hou, num_let, num_nam, fits_words_spec _ _ _ _ hb, is_whole_spec _ _ _ _ hb]
  · have ha : a.isDat = true := hs a (by simp)
    have hb : b.isDat = true := hs b (by simp)
    have hz : ∀ st, eqD b (.str (Str.ofString "")) st = .ok (b.eqv (.str (Str.ofString ""))) st := fun st => eqD_dat_str hb _ st
    have hc : c.isDat = true := hs c (by simp)
    cases a <;> try (simp [tupD, D.isTup, isiR_of (isi_str ha), subtreeD, D.isStr, len4, len4f, len4g, len4b, len4c, len4e, hou_num, hou_let, hou_nam, let_num, let_hou, let_nam, nam_num, nam_let, nam_hou, num_hou, num_let, num_nam, isiR_of (isi_str hb), hz, fits_words_spec _ _ _ _ hc, fits_word_spec _ _ hb, is_whole_spec _ _ _ _ hb, is_whole_spec _ _ _ _ hc]; done)
    rename_i x
    by_cases h1 : x = "house"
    · subst h1; simp [tupD, D.isTup, isiR_of (isi_str ha), subtreeD, D.isStr, len4, len4f, len4g, len4b, len4c, len4e, hou_num, hou_let, hou_nam, let_num, let_hou, let_nam, nam_num, nam_let, nam_hou, num_hou, num_let, num_nam, isiR_of (isi_str hb), hz, fits_words_spec _ _ _ _ hc, fits_word_spec _ _ hb, is_whole_spec _ _ _ _ hb, is_whole_spec _ _ _ _ hc]
    · by_cases h2 : x = "letter"
      · subst h2
        cases b <;> simp [tupD, D.isTup, isiR_of (isi_str ha), subtreeD, D.isStr, len4, len4f, len4g, len4b, len4c, len4e, hou_num, hou_let, hou_nam, let_num, let_hou, let_nam, nam_num, nam_let, nam_hou, num_hou, num_let, num_nam, isiR_of (isi_str hb), hz, fits_words_spec _ _ _ _ hc, fits_word_spec _ _ hb, is_whole_spec _ _ _ _ hb, is_whole_spec _ _ _ _ hc, D.eqv, freeD] <;> simp [wordD]
      · by_cases h3 : x = "name"
        · subst h3; simp [tupD, D.isTup, isiR_of (isi_str ha), subtreeD, D.isStr, len4, len4f, len4g, len4b, len4c, len4e, hou_num, hou_let, hou_nam, let_num, let_hou, let_nam, nam_num, nam_let, nam_hou, num_hou, num_let, num_nam, isiR_of (isi_str hb), hz, fits_words_spec _ _ _ _ hc, fits_word_spec _ _ hb, is_whole_spec _ _ _ _ hb, is_whole_spec _ _ _ _ hc]
        · by_cases h4 : x = "number"
          · subst h4
            by_cases qb : ∃ i, b = .int i
            · obtain ⟨i, rfl⟩ := qb
              by_cases qc : ∃ i, c = .int i
              · obtain ⟨j, rfl⟩ := qc
                simp [tupD, D.isTup, isiR_of (isi_str ha), subtreeD, D.isStr, len4, len4f, len4g, len4b, len4c, len4e, hou_num, hou_let, hou_nam, let_num, let_hou, let_nam, nam_num, nam_let, nam_hou, num_hou, num_let, num_nam, isiR_of (isi_str hb), hz, fits_words_spec _ _ _ _ hc, fits_word_spec _ _ hb, is_whole_spec _ _ _ _ hb, is_whole_spec _ _ _ _ hc, wholeD, numsD]
                by_cases g1 : 0 ≤ i <;> by_cases g2 : i ≤ 65535 <;> by_cases g3 : 0 ≤ j <;> by_cases g4 : j ≤ 65535 <;> by_cases g5 : i ≤ j <;> simp [g1, g2, g3, g4, g5] <;> omega
              · simp [tupD, D.isTup, isiR_of (isi_str ha), subtreeD, D.isStr, len4, len4f, len4g, len4b, len4c, len4e, hou_num, hou_let, hou_nam, let_num, let_hou, let_nam, nam_num, nam_let, nam_hou, num_hou, num_let, num_nam, isiR_of (isi_str hb), hz, fits_words_spec _ _ _ _ hc, fits_word_spec _ _ hb, is_whole_spec _ _ _ _ hb, is_whole_spec _ _ _ _ hc, whole_not qc, nums_not2 qc]
            · simp [tupD, D.isTup, isiR_of (isi_str ha), subtreeD, D.isStr, len4, len4f, len4g, len4b, len4c, len4e, hou_num, hou_let, hou_nam, let_num, let_hou, let_nam, nam_num, nam_let, nam_hou, num_hou, num_let, num_nam, isiR_of (isi_str hb), hz, fits_words_spec _ _ _ _ hc, fits_word_spec _ _ hb, is_whole_spec _ _ _ _ hb, is_whole_spec _ _ _ _ hc, whole_not qb, nums_not qb]
          · simp [beq_false_of_ne h1, beq_false_of_ne h2, beq_false_of_ne h3, beq_false_of_ne h4, tupD, D.isTup, isiR_of (isi_str ha), subtreeD, D.isStr, len4, len4f, len4g, len4b, len4c, len4e, hou_num, hou_let, hou_nam, let_num, let_hou, let_nam, nam_num, nam_let, nam_hou, num_hou, num_let, num_nam, isiR_of (isi_str hb), hz, fits_words_spec _ _ _ _ hc, fits_word_spec _ _ hb, is_whole_spec _ _ _ _ hb, is_whole_spec _ _ _ _ hc]
  · have ha : a.isDat = true := hs a (by simp)
    have hb : b.isDat = true := hs b (by simp)
    have hz : ∀ st, eqD b (.str (Str.ofString "")) st = .ok (b.eqv (.str (Str.ofString ""))) st := fun st => eqD_dat_str hb _ st
    cases a <;> simp [tupD, D.isTup, isiR_of (isi_str ha), subtreeD, D.isStr, len4, len4f, len4g, len4b, len4c, len4e, hou_num, hou_let, hou_nam, let_num, let_hou, let_nam, nam_num, nam_let, nam_hou, num_hou, num_let, num_nam]
theorem law_is_subtree_spec [H_law_is_subtree P] {d : D} (hd : d.isDat = true) : calN P (k + 3) "_law_is_subtree" [d] st = .ok (.bl (subtreeD d)) st := by
  rw [calN_at H_law_is_subtree.at_law_is_subtree, run_eq rfl]
  simp [f_law_is_subtree, b_law_is_subtree, isiR_of (isi_tuple hd)]
  cases d <;> try (simp [tupD, D.isTup, subtreeD]; done)
  rename_i xs
  have hs := isDat_tup hd
  rcases xs with _ | ⟨a, _ | ⟨b, _ | ⟨c, _ | ⟨e, t⟩⟩⟩⟩
  · simp [tupD, D.isTup, subtreeD]
  · cases a <;> simp [tupD, D.isTup, subtreeD]
  · have ha : a.isDat = true := hs a (by simp)
    have hb : b.isDat = true := hs b (by simp)
    have hz : ∀ st, eqD b (.str (Str.ofString "")) st = .ok (b.eqv (.str (Str.ofString ""))) st := fun st => eqD_dat_str hb _ st
    cases a <;> try (simp [tupD, D.isTup, isiR_of (isi_str ha), subtreeD, D.isStr, len4, len4f, len4g, len4b, len4c, len4e, hou_num, hou_let, hou_nam, let_num, let_hou, let_nam, nam_num, nam_let, nam_hou, num_hou, num_let, num_nam, law_is_words_spec _ _ _ _ hb, law_is_whole_spec _ _ _ _ hb]; done)
    rename_i x
    by_cases h1 : x = "house"
    · subst h1; simp [tupD, D.isTup, isiR_of (isi_str ha), subtreeD, D.isStr, len4, len4f, len4g, len4b, len4c, len4e, hou_num, hou_let, hou_nam, let_num, let_hou, let_nam, nam_num, nam_let, nam_hou, num_hou, num_let, num_nam, law_is_words_spec _ _ _ _ hb, law_is_whole_spec _ _ _ _ hb]
    · by_cases h2 : x = "letter"
      · subst h2
        simp [tupD, D.isTup, isiR_of (isi_str ha), subtreeD, D.isStr, len4, len4f, len4g, len4b, len4c, len4e, hou_num, hou_let, hou_nam, let_num, let_hou, let_nam, nam_num, nam_let, nam_hou, num_hou, num_let, num_nam, law_is_words_spec _ _ _ _ hb, law_is_whole_spec _ _ _ _ hb]
      · by_cases h3 : x = "name"
        · subst h3; simp [tupD, D.isTup, isiR_of (isi_str ha), subtreeD, D.isStr, len4, len4f, len4g, len4b, len4c, len4e, hou_num, hou_let, hou_nam, let_num, let_hou, let_nam, nam_num, nam_let, nam_hou, num_hou, num_let, num_nam, law_is_words_spec _ _ _ _ hb, law_is_whole_spec _ _ _ _ hb]
        · by_cases h4 : x = "number"
          · subst h4
            simp [tupD, D.isTup, isiR_of (isi_str ha), subtreeD, D.isStr, len4, len4f, len4g, len4b, len4c, len4e, hou_num, hou_let, hou_nam, let_num, let_hou, let_nam, nam_num, nam_let, nam_hou, num_hou, num_let, num_nam, law_is_words_spec _ _ _ _ hb, law_is_whole_spec _ _ _ _ hb]
          · simp [beq_false_of_ne h1, beq_false_of_ne h2, beq_false_of_ne h3, beq_false_of_ne h4, tupD, D.isTup, isiR_of (isi_str ha), subtreeD, D.isStr, len4, len4f, len4g, len4b, len4c, len4e, hou_num, hou_let, hou_nam, let_num, let_hou, let_nam, nam_num, nam_let, nam_hou, num_hou, num_let, num_nam, law_is_words_spec _ _ _ _ hb, law_is_whole_spec _ _ _ _ hb]
  · have ha : a.isDat = true := hs a (by simp)
    have hb : b.isDat = true := hs b (by simp)
    have hz : ∀ st, eqD b (.str (Str.ofString "")) st = .ok (b.eqv (.str (Str.ofString ""))) st := fun st => eqD_dat_str hb _ st
    have hc : c.isDat = true := hs c (by simp)
    cases a <;> try (simp [tupD, D.isTup, isiR_of (isi_str ha), subtreeD, D.isStr, len4, len4f, len4g, len4b, len4c, len4e, hou_num, hou_let, hou_nam, let_num, let_hou, let_nam, nam_num, nam_let, nam_hou, num_hou, num_let, num_nam, isiR_of (isi_str hb), hz, law_is_words_spec _ _ _ _ hc, law_is_word_spec _ _ hb, law_is_whole_spec _ _ _ _ hb, law_is_whole_spec _ _ _ _ hc]; done)
    rename_i x
    by_cases h1 : x = "house"
    · subst h1; simp [tupD, D.isTup, isiR_of (isi_str ha), subtreeD, D.isStr, len4, len4f, len4g, len4b, len4c, len4e, hou_num, hou_let, hou_nam, let_num, let_hou, let_nam, nam_num, nam_let, nam_hou, num_hou, num_let, num_nam, isiR_of (isi_str hb), hz, law_is_words_spec _ _ _ _ hc, law_is_word_spec _ _ hb, law_is_whole_spec _ _ _ _ hb, law_is_whole_spec _ _ _ _ hc]
    · by_cases h2 : x = "letter"
      · subst h2
        cases b <;> simp [tupD, D.isTup, isiR_of (isi_str ha), subtreeD, D.isStr, len4, len4f, len4g, len4b, len4c, len4e, hou_num, hou_let, hou_nam, let_num, let_hou, let_nam, nam_num, nam_let, nam_hou, num_hou, num_let, num_nam, isiR_of (isi_str hb), hz, law_is_words_spec _ _ _ _ hc, law_is_word_spec _ _ hb, law_is_whole_spec _ _ _ _ hb, law_is_whole_spec _ _ _ _ hc, D.eqv, freeD] <;> simp [wordD]
      · by_cases h3 : x = "name"
        · subst h3; simp [tupD, D.isTup, isiR_of (isi_str ha), subtreeD, D.isStr, len4, len4f, len4g, len4b, len4c, len4e, hou_num, hou_let, hou_nam, let_num, let_hou, let_nam, nam_num, nam_let, nam_hou, num_hou, num_let, num_nam, isiR_of (isi_str hb), hz, law_is_words_spec _ _ _ _ hc, law_is_word_spec _ _ hb, law_is_whole_spec _ _ _ _ hb, law_is_whole_spec _ _ _ _ hc]
        · by_cases h4 : x = "number"
          · subst h4
            by_cases qb : ∃ i, b = .int i
            · obtain ⟨i, rfl⟩ := qb
              by_cases qc : ∃ i, c = .int i
              · obtain ⟨j, rfl⟩ := qc
                simp [tupD, D.isTup, isiR_of (isi_str ha), subtreeD, D.isStr, len4, len4f, len4g, len4b, len4c, len4e, hou_num, hou_let, hou_nam, let_num, let_hou, let_nam, nam_num, nam_let, nam_hou, num_hou, num_let, num_nam, isiR_of (isi_str hb), hz, law_is_words_spec _ _ _ _ hc, law_is_word_spec _ _ hb, law_is_whole_spec _ _ _ _ hb, law_is_whole_spec _ _ _ _ hc, wholeD, numsD]
                by_cases g1 : 0 ≤ i <;> by_cases g2 : i ≤ 65535 <;> by_cases g3 : 0 ≤ j <;> by_cases g4 : j ≤ 65535 <;> by_cases g5 : i ≤ j <;> simp [g1, g2, g3, g4, g5] <;> omega
              · simp [tupD, D.isTup, isiR_of (isi_str ha), subtreeD, D.isStr, len4, len4f, len4g, len4b, len4c, len4e, hou_num, hou_let, hou_nam, let_num, let_hou, let_nam, nam_num, nam_let, nam_hou, num_hou, num_let, num_nam, isiR_of (isi_str hb), hz, law_is_words_spec _ _ _ _ hc, law_is_word_spec _ _ hb, law_is_whole_spec _ _ _ _ hb, law_is_whole_spec _ _ _ _ hc, whole_not qc, nums_not2 qc]
            · simp [tupD, D.isTup, isiR_of (isi_str ha), subtreeD, D.isStr, len4, len4f, len4g, len4b, len4c, len4e, hou_num, hou_let, hou_nam, let_num, let_hou, let_nam, nam_num, nam_let, nam_hou, num_hou, num_let, num_nam, isiR_of (isi_str hb), hz, law_is_words_spec _ _ _ _ hc, law_is_word_spec _ _ hb, law_is_whole_spec _ _ _ _ hb, law_is_whole_spec _ _ _ _ hc, whole_not qb, nums_not qb]
          · simp [beq_false_of_ne h1, beq_false_of_ne h2, beq_false_of_ne h3, beq_false_of_ne h4, tupD, D.isTup, isiR_of (isi_str ha), subtreeD, D.isStr, len4, len4f, len4g, len4b, len4c, len4e, hou_num, hou_let, hou_nam, let_num, let_hou, let_nam, nam_num, nam_let, nam_hou, num_hou, num_let, num_nam, isiR_of (isi_str hb), hz, law_is_words_spec _ _ _ _ hc, law_is_word_spec _ _ hb, law_is_whole_spec _ _ _ _ hb, law_is_whole_spec _ _ _ _ hc]
  · have ha : a.isDat = true := hs a (by simp)
    have hb : b.isDat = true := hs b (by simp)
    have hz : ∀ st, eqD b (.str (Str.ofString "")) st = .ok (b.eqv (.str (Str.ofString ""))) st := fun st => eqD_dat_str hb _ st
    cases a <;> simp [tupD, D.isTup, isiR_of (isi_str ha), subtreeD, D.isStr, len4, len4f, len4g, len4b, len4c, len4e, hou_num, hou_let, hou_nam, let_num, let_hou, let_nam, nam_num, nam_let, nam_hou, num_hou, num_let, num_nam]
theorem fits_name_spec [H_fits_name P] {d : D} (hd : d.isDat = true) : calN P (k + 3) "fits_name" [d] st = .ok (.bl (wordsD d 1 4)) st := by
  obtain ⟨cD, eA, eD⟩ := H_fits_name.at_fits_name (P := P)
  rw [calN_at eA, run_eq rfl]
  simp [f_fits_name, b_fits_name, e_glbP eD, fits_words_spec _ _ _ _ hd]
theorem is_name_spec [H_is_name P] {d : D} (hd : d.isDat = true) : calN P (k + 4) "is_name" [d] st = .ok (.bl (wordsD d 1 4)) st := by
  rw [calN_at H_is_name.at_is_name, run_eq rfl]
  simp [f_is_name, b_is_name, fits_name_spec _ _ hd]
theorem is_other_name_spec [H_is_other_name P] {d : D} (hd : d.isDat = true) : calN P (k + 4) "is_other_name" [d] st = .ok (.bl (otherD d)) st := by
  rw [calN_at H_is_other_name.at_is_other_name, run_eq rfl]
  simp [f_is_other_name, b_is_other_name, fits_other_spec _ _ hd]
theorem is_subtree_spec [H_is_subtree P] {d : D} (hd : d.isDat = true) : calN P (k + 4) "is_subtree" [d] st = .ok (.bl (subtreeD d)) st := by
  rw [calN_at H_is_subtree.at_is_subtree, run_eq rfl]
  simp [f_is_subtree, b_is_subtree, fits_subtree_spec _ _ hd]
end
end CP

set_option Elab.async false
set_option linter.all false
set_option maxRecDepth 100000
set_option autoImplicit false
/-! LibC: the cup, what is drawn, what is spoilt. -/
namespace CP
open PySem L2
mutual
def D.wid : D → Nat
  | .tup xs | .lst xs => max xs.length (wids xs)
  | _ => 0
def wids : List D → Nat
  | [] => 0
  | x :: xs => max x.wid (wids xs)
end
theorem deps_le {n : Nat} : ∀ {xs : List D}, deps xs ≤ n ↔ ∀ x ∈ xs, x.dep ≤ n
  | [] => by simp [deps]
  | x :: xs => by simp [deps, deps_le (xs := xs), Nat.max_le]
theorem wids_le {n : Nat} : ∀ {xs : List D}, wids xs ≤ n ↔ ∀ x ∈ xs, x.wid ≤ n
  | [] => by simp [wids]
  | x :: xs => by simp [wids, wids_le (xs := xs), Nat.max_le]
/-- plain data, not too deep nor too wide -/
def Good (d : D) (n w : Nat) : Prop := d.isDat = true ∧ d.dep ≤ n ∧ d.wid ≤ w
theorem Good_tup {xs : List D} {n w : Nat} : Good (.tup xs) (n + 1) w ↔ xs.length ≤ w ∧ ∀ x ∈ xs, Good x n w := by
  unfold Good
  simp only [D.isDat, isDats_all, D.dep, D.wid, Nat.max_le, wids_le, Nat.add_le_add_iff_right, deps_le]
  exact ⟨fun ⟨a, b, c, d⟩ => ⟨c, fun x h => ⟨a x h, b x h, d x h⟩⟩, fun ⟨c, h⟩ => ⟨fun x q => (h x q).1, fun x q => (h x q).2.1, c, fun x q => (h x q).2.2⟩⟩
theorem Good_lst {xs : List D} {n w : Nat} : Good (.lst xs) (n + 1) w ↔ xs.length ≤ w ∧ ∀ x ∈ xs, Good x n w := by
  unfold Good
  simp only [D.isDat, isDats_all, D.dep, D.wid, Nat.max_le, wids_le, Nat.add_le_add_iff_right, deps_le]
  exact ⟨fun ⟨a, b, c, d⟩ => ⟨c, fun x h => ⟨a x h, b x h, d x h⟩⟩, fun ⟨c, h⟩ => ⟨fun x q => (h x q).1, fun x q => (h x q).2.1, c, fun x q => (h x q).2.2⟩⟩
theorem Good_up {d : D} {n w n1 w1 : Nat} (h : Good d n w) (a : n ≤ n1) (b : w ≤ w1) : Good d n1 w1 := ⟨h.1, Nat.le_trans h.2.1 a, Nat.le_trans h.2.2 b⟩
/-- the cup stands first; the rest is rest -/
def Cup (rest st : So) : Prop := ∃ a b, st = cup a b :: rest
section
variable {P : Pg} {k : Nat} {rest st : So} {K : D → So → Prop}
theorem ix_cup0 (a b : Int) (rest : So) : ixD (.ref 0) (.int 0) (cup a b :: rest) = .ok (.int a) (cup a b :: rest) := rfl
theorem ix_cup1 (a b : Int) (rest : So) : ixD (.ref 0) (.int 1) (cup a b :: rest) = .ok (.int b) (cup a b :: rest) := rfl
theorem sub_cup0 (a b c : Int) (rest : So) : putOb 0 (.int 0) (.int c) (cup a b :: rest) = some (cup c b :: rest) := rfl
theorem sub_cup1 (a b c : Int) (rest : So) : putOb 0 (.int 1) (.int c) (cup a b :: rest) = some (cup a c :: rest) := rfl
theorem mulOk_l {i j : Int} (h1 : -(2 ^ 64) < i) (h2 : i < 2 ^ 64) : mulOk i j = true := by
  unfold mulOk; simp only [h1, h2, decide_true, Bool.and_self, Bool.true_or]
theorem mulOk_r {i j : Int} (h1 : -(2 ^ 64) < j) (h2 : j < 2 ^ 64) : mulOk i j = true := by
  unfold mulOk; simp only [h1, h2, decide_true, Bool.and_self, Bool.or_true]
theorem roll_rule [H_law_roll P] (h : Cup rest st) {m : Int} (h1 : 0 < m) (h2 : m < 1073741824)
    (q : ∀ r st1, 0 ≤ r → r < m → Cup rest st1 → K (.int r) st1) : Ok (calN P (k + 1) "_law_roll" [.ref 0, .int m] st) K := by
  obtain ⟨a, b, rfl⟩ := h
  rw [calN_at H_law_roll.at_law_roll]
  apply Ok_body rfl
  simp [f_law_roll, b_law_roll, ix_cup0, ix_cup1, h1, h2, sub_cup0, mulOk_r]
  constructor
  · intro g
    exact q _ _ (Int.emod_nonneg _ (by omega)) (Int.emod_lt_of_pos _ h1) ⟨_, _, rfl⟩
  · intro g
    rw [sub_cup1]
    simp [ix_cup1]
    rw [if_pos]
    · simp [ix_cup1, h1]
      exact q _ _ (Int.emod_nonneg _ (by omega)) (Int.emod_lt_of_pos _ h1) ⟨_, _, rfl⟩
    · have g1 : 0 ≤ (b * 31051 + 7993) % 2147483543 := Int.emod_nonneg _ (by decide)
      have g2 : (b * 31051 + 7993) % 2147483543 < 2147483543 := Int.emod_lt_of_pos _ (by decide)
      exact mulOk_l (by omega) (by omega)
theorem atI_mem {xs : List D} {r : Int} (h0 : 0 ≤ r) (h1 : r < xs.length) : ∃ x ∈ xs, atI xs r = some x := by
  have g : r.toNat < xs.length := by omega
  refine ⟨xs[r.toNat], List.getElem_mem g, ?_⟩
  simp [atI, ixN, h0, h1]
theorem ix_lst_mem {xs : List D} {r : Int} (st : So) (h0 : 0 ≤ r) (h1 : r < xs.length) : ∃ x ∈ xs, ixD (.lst xs) (.int r) st = .ok x st := by
  obtain ⟨x, hx, e⟩ := atI_mem h0 h1
  exact ⟨x, hx, by rw [ix_lst, e]⟩
theorem ix_tup_mem {xs : List D} {r : Int} (st : So) (h0 : 0 ≤ r) (h1 : r < xs.length) : ∃ x ∈ xs, ixD (.tup xs) (.int r) st = .ok x st := by
  obtain ⟨x, hx, e⟩ := atI_mem h0 h1
  exact ⟨x, hx, by rw [ix_tup, e]⟩
theorem some_rule [H_law_some P] (h : Cup rest st) {xs : List D} (h1 : 0 < xs.length) (h2 : xs.length < 1073741824)
    (q : ∀ x ∈ xs, ∀ st1, Cup rest st1 → K x st1) : Ok (calN P (k + 2) "_law_some" [.ref 0, .lst xs] st) K := by
  rw [calN_at H_law_some.at_law_some]
  apply Ok_body rfl
  simp [f_law_some, b_law_some]
  refine roll_rule h (by omega) (by omega) fun r st1 r0 r1 c => ?_
  obtain ⟨x, hx, e⟩ := ix_lst_mem st1 r0 r1
  rw [e]
  exact q x hx st1 c
theorem pow18 (st : So) : opD .pow (.int 10) (.int 18) st = .ok (.int 1000000000000000000) st := by simp [opD]
theorem pow10 (st : So) : opD .pow (.int 10) (.int 10) st = .ok (.int 10000000000) st := by simp [opD]
theorem cup_rule [H_law_cup P] {ns : List Int} (hn : ns.length ≤ 63) (q : ∀ st1, Cup [] st1 → K (.ref 0) st1) : Ok (calN P (k + 1) "_law_cup" [.scr (ns.map D.int)] []) K := by
  rw [calN_at H_law_cup.at_law_cup]
  apply Ok_body rfl
  have hl : ns.length + 1 ≤ sizeLine := le_size (by omega)
  obtain ⟨i, xs, e⟩ : ∃ i xs, ns.map D.int ++ [.int 0] = .int i :: xs := by
    cases ns with
    | nil => exact ⟨0, [], rfl⟩
    | cons n ns => exact ⟨n, _, rfl⟩
  have e2 : ∀ st, ixD (.lst (D.int i :: xs)) (.int 0) st = .ok (.int i) st := fun st => by simp [ix_lst, atI, ixN]
  simp [f_law_cup, b_law_cup, hl, e, e2, pow18, mulOk_r]
  constructor
  · intro _
    exact q _ ⟨_, _, rfl⟩
  · intro _
    exact q _ ⟨_, _, rfl⟩
theorem Good_int (i : Int) (n w : Nat) : Good (.int i) n w := ⟨rfl, Nat.zero_le _, Nat.zero_le _⟩
theorem Good_str (i : Str) (n w : Nat) : Good (.str i) n w := ⟨rfl, Nat.zero_le _, Nat.zero_le _⟩
theorem Good_bl (i : Bool) (n w : Nat) : Good (.bl i) n w := ⟨rfl, Nat.zero_le _, Nat.zero_le _⟩
theorem Good_non (n w : Nat) : Good .non n w := ⟨rfl, Nat.zero_le _, Nat.zero_le _⟩
theorem name_rule [H_law_name P] (h : Cup rest st) (q : ∀ x st1, Good x 1 4 → Cup rest st1 → K x st1) : Ok (calN P (k + 3) "_law_name" [.ref 0] st) K := by
  rw [calN_at H_law_name.at_law_name]
  apply Ok_body rfl
  simp [f_law_name, b_law_name]
  refine some_rule h (by simp) (by simp) fun x hx st1 c => q x st1 ?_ c
  have g : ∀ x ∈ [D.tup [.str "r"], .tup [.str "r", .str "a"], .tup [.str "r", .str "b"], .tup [.str "r", .str "a", .str "c"], .tup [.str "s"], .tup [.str "s", .str "d"]], Good x 1 4 := by
    simp [Good_tup, Good_str]
  exact g x hx
theorem other_rule [H_law_other P] (h : Cup rest st) (q : ∀ x st1, Good x 2 4 → Cup rest st1 → K x st1) : Ok (calN P (k + 3) "_law_other" [.ref 0] st) K := by
  rw [calN_at H_law_other.at_law_other]
  apply Ok_body rfl
  simp [f_law_other, b_law_other]
  refine some_rule h (by simp) (by simp) fun x hx st1 c => ?_
  have gx : Good x 1 4 := by
    have g : ∀ x ∈ [D.tup [.str "x"], .tup [.str "x", .str "y"], .tup [.str "z"]], Good x 1 4 := by simp [Good_tup, Good_str]
    exact g x hx
  refine some_rule c (by simp) (by simp) fun y hy st2 c => ?_
  have gy : Good y 1 4 := by
    have g : ∀ x ∈ [D.str "me", .str "you"], Good x 1 4 := by simp [Good_tup, Good_str]
    exact g y hy
  refine roll_rule c (by simp) (by simp) fun r st3 r0 r1 c => ?_
  refine some_rule c (by simp) (by simp) fun z hz st4 c => q z st4 ?_ c
  have g : ∀ z ∈ [D.tup [.str "house", x], .tup [.str "letter", y, x], .tup [.str "number", .int r]], Good z 2 4 := by
    simp [Good_tup, Good_str, Good_int, gx, gy]
  exact g z hz
theorem subtree_rule [H_law_subtree P] (h : Cup rest st) (q : ∀ x st1, Good x 2 4 → Cup rest st1 → K x st1) : Ok (calN P (k + 3) "_law_subtree" [.ref 0] st) K := by
  rw [calN_at H_law_subtree.at_law_subtree]
  apply Ok_body rfl
  simp [f_law_subtree, b_law_subtree]
  refine some_rule h (by simp) (by simp) fun x hx st1 c => ?_
  have gx : Good x 1 4 := by
    have g : ∀ x ∈ [D.tup [], D.tup [.str "x"], .tup [.str "x", .str "y"], .tup [.str "z"]], Good x 1 4 := by simp [Good_tup, Good_str]
    exact g x hx
  refine roll_rule c (by simp) (by simp) fun r st3 r0 r1 c => ?_
  refine some_rule c (by simp) (by simp) fun y hy st2 c => ?_
  have gy : Good y 1 4 := by
    have g : ∀ x ∈ [D.tup [], D.tup [.str "r"], .tup [.str "r", .str "a"], .tup [.str "s"]], Good x 1 4 := by simp [Good_tup, Good_str]
    exact g y hy
  refine some_rule c (by simp) (by simp) fun w hw st2 c => ?_
  have gw : Good w 1 4 := by
    have g : ∀ x ∈ [D.str "", .str "me"], Good x 1 4 := by simp [Good_tup, Good_str]
    exact g w hw
  refine roll_rule c (by simp) (by simp) fun r2 st3 r20 r21 c => ?_
  simp
  refine some_rule c (by simp) (by simp) fun z hz st4 c => q z st4 ?_ c
  have g : ∀ z ∈ [D.tup [.str "name", y], .tup [.str "house", x], .tup [.str "letter", w, x], .tup [.str "number", .int r, .int (r + r2)]], Good z 2 4 := by
    simp [Good_tup, Good_str, Good_int, gx, gy, gw]
  exact g z hz
theorem cut_mem {α : Type} {xs : List α} {lo hi : Option Int} {x : α} (h : x ∈ cutD xs lo hi) : x ∈ xs := List.mem_of_mem_drop (List.mem_of_mem_take h)
theorem cut_len {α : Type} (xs : List α) (lo hi : Option Int) : (cutD xs lo hi).length ≤ xs.length := by
  unfold cutD
  simp
  omega
theorem isTup_not {d : D} (h : d.isTup = true → False) : d.isTup = false := by cases hd : d.isTup <;> simp_all
theorem eqD_tnil {xs : List D} (h : isDats xs = true) (st : So) : eqD (.tup xs) (.tup []) st = .ok xs.isEmpty st := by
  unfold eqD
  simp [D.see, D.isDat, h, isDats, D.dep, deps, D.eqv]
  cases xs <;> simp [eqvs]
theorem if_rule {c : Prop} [Decidable c] {p q : Prop} (h : c) (hp : p) : if c then p else q := by rw [if_pos h]; exact hp
def leafs : List D := [.non, .tup [], .int 0, .int 1, .int (-1), .int 7, .int 70000, .int 10000000000, .bl true, .str "", .str "a", .str "any", .str "A", .str "basic", .str "names", .tup [.str "r"], .tup [.str "a", .str "b"], .lst [.str "r"], .str "abcdefghijklm"]
theorem leafs_good : ∀ x ∈ leafs, Good x 1 2 := by
  simp [leafs, Good_tup, Good_lst, Good_str, Good_int, Good_bl, Good_non]
theorem spoilt_rule [H_law_spoilt P] (w : Nat) (hw : w ≤ 10000) : ∀ (n : Nat) {k : Nat} {st : So} {K : D → So → Prop} {d : D} (h : Cup rest st) (g : Good d n w)
    (q : ∀ x st1, Good x (n + 1) (3 * w + 2) → Cup rest st1 → K x st1), Ok (calN P (k + n + 3) "_law_spoilt" [.ref 0, d] st) K := by
  intro n
  induction n with
  | zero =>
    intro k st K d h g q
    rw [calN_at H_law_spoilt.at_law_spoilt]
    apply Ok_body rfl
    have hd : d.isTup = false := by
      cases d <;> first | rfl | (have e := g.2.1; simp [D.dep] at e)
    simp [f_law_spoilt, b_law_spoilt, isiR_of (isi_tuple g.1), pow10, hd]
    exact some_rule h (by simp) (by simp) fun x hx st1 c => q x st1 (Good_up (leafs_good x hx) (by omega) (by omega)) c
  | succ n ih =>
    intro k st K d h g q
    rw [calN_at H_law_spoilt.at_law_spoilt]
    apply Ok_body rfl
    by_cases hd : d.isTup = true
    · obtain ⟨xs, rfl⟩ := isTup_iff.mp hd
      simp [f_law_spoilt, b_law_spoilt, isiR_of (isi_tuple g.1), pow10, hd]
      obtain ⟨g1, g2⟩ := Good_tup.mp g
      have e : eqD (.tup xs) (.tup []) st = .ok xs.isEmpty st := eqD_tnil (isDats_all.mpr fun x hx => (g2 x hx).1) st
      rw [e]
      by_cases hx : xs = []
      · subst hx
        simp
        exact some_rule h (by simp) (by simp) fun x hx st1 c => q x st1 (Good_up (leafs_good x hx) (by omega) (by omega)) c
      · have hl : 0 < xs.length := List.length_pos_iff.mpr hx
        simp [List.isEmpty_iff, hx]
        refine roll_rule h (by simp) (by simp) fun r6 st1 _ _ c => ?_
        simp
        constructor
        · intro _
          exact some_rule c (by simp) (by simp) fun x hx st1 c => q x st1 (Good_up (leafs_good x hx) (by omega) (by omega)) c
        · intro _
          refine roll_rule c (by omega) (by omega) fun r st2 r0 r1 c => ?_
          refine roll_rule c (by omega) (by omega) fun u st3 u0 u1 c => ?_
          simp
          have l1 := cut_len xs none (some r)
          have l2 := cut_len xs (some (r + u)) none
          have l3 := cut_len xs (some r) (some (r + 1))
          have l4 := cut_len xs (some (r + 1)) none
          constructor
          · intro _
            refine if_rule (le_size (by omega)) ?_
            constructor
            · intro _
              refine if_rule (le_size (by omega)) ?_
              refine q _ _ (Good_tup.mpr ⟨by simp; omega, fun x hx => ?_⟩) c
              have hx : x ∈ xs := by
                simp only [List.mem_append] at hx
                rcases hx with hx | hx | hx <;> exact cut_mem hx
              exact Good_up (g2 x hx) (by omega) (by omega)
            · intro _
              refine if_rule (le_size (by omega)) ?_
              refine q _ _ (Good_tup.mpr ⟨by simp; omega, fun x hx => ?_⟩) c
              have hx : x ∈ xs := by
                simp only [List.mem_append] at hx
                rcases hx with hx | hx <;> exact cut_mem hx
              exact Good_up (g2 x hx) (by omega) (by omega)
          · intro _
            constructor
            · intro _
              exact q _ _ (Good_lst.mpr ⟨by omega, fun x hx => Good_up (g2 x hx) (by omega) (by omega)⟩) c
            · intro _
              obtain ⟨x, hx, e⟩ := ix_tup_mem st3 r0 r1
              rw [e]
              simp
              refine ih c (g2 x hx) fun y st4 gy c => ?_
              refine if_rule (le_size (by omega)) ?_
              refine if_rule (le_size (by omega)) ?_
              refine q _ _ (Good_tup.mpr ⟨by simp; omega, fun x hx => ?_⟩) c
              simp only [List.mem_append, List.mem_cons] at hx
              rcases hx with hx | rfl | hx
              · exact Good_up (g2 x (cut_mem hx)) (by omega) (by omega)
              · exact gy
              · exact Good_up (g2 x (cut_mem hx)) (by omega) (by omega)
    · simp only [Bool.not_eq_true] at hd
      simp [f_law_spoilt, b_law_spoilt, isiR_of (isi_tuple g.1), pow10, hd]
      exact some_rule h (by simp) (by simp) fun x hx st1 c => q x st1 (Good_up (leafs_good x hx) (by omega) (by omega)) c
end
mutual
theorem eqv_refl : ∀ {d : D}, d.isDat = true → d.eqv d = true
  | .non, _ => rfl
  | .bl b, _ => by simp [D.eqv]
  | .int b, _ => by simp [D.eqv]
  | .str b, _ => by simp [D.eqv]
  | .tup xs, h => by
    unfold D.eqv
    exact eqvs_refl (by simpa [D.isDat] using h)
  | .lst xs, h => by
    unfold D.eqv
    exact eqvs_refl (by simpa [D.isDat] using h)
theorem eqvs_refl : ∀ {ds : List D}, isDats ds = true → eqvs ds ds = true
  | [], _ => rfl
  | d :: ds, h => by
    unfold isDats at h
    rw [Bool.and_eq_true] at h
    unfold eqvs
    rw [eqv_refl h.1, eqvs_refl h.2]
    rfl
end
theorem eqD_same {d : D} (h : d.isDat = true) (hd : d.dep ≤ 64) (st : So) : eqD d d st = .ok true st := by
  unfold eqD
  rw [see_dat h]
  simp [h, hd, eqv_refl h]
end CP

set_option Elab.async false
set_option linter.all false
set_option maxRecDepth 100000
set_option autoImplicit false
/-! LibB: defs shared by laws. -/
namespace CP
open PySem L2
def b_is_truth : Ss :=
    (.cons (.ret (.isi (.var 0) "bool"))
    .nil)
def f_is_truth : Fn := ⟨"is_truth", 1, 1, b_is_truth⟩
class H_is_truth (P : Pg) : Prop where
  at_is_truth : P.fn? "is_truth" = some f_is_truth
def b_is_ascending : Ss :=
    (.cons (.ret (.bi .all (.cons (.lc (.cmp .lt (.var 1) (.var 2)) (.tu [1, 2]) (.zip (.var 0) (.sl (.var 0) (.some (.int 1)) .none)) .none [1, 2]) .nil)))
    .nil)
def f_is_ascending : Fn := ⟨"is_ascending", 1, 3, b_is_ascending⟩
class H_is_ascending (P : Pg) : Prop where
  at_is_ascending : P.fn? "is_ascending" = some f_is_ascending
def b_fits_lot : Ss :=
    (.cons (.ite (.or (.not (.cal "is_tuple_of" (.cons (.var 0) (.cons (.var 1) (.cons (.var 2) .nil))))) (.not (.bi .all (.cons (.lc (.and (.isi (.var 4) "str") (.cmp .mem (.var 4) (.var 3))) (.nm 4) (.seq (.var 0)) .none [4]) .nil)))) (.cons (.ret (.bl false))
    .nil) .nil)
    (.cons (.ret (.cal "is_ascending" (.cons (.var 0) .nil)))
    .nil))
def f_fits_lot : Fn := ⟨"fits_lot", 4, 5, b_fits_lot⟩
class H_fits_lot (P : Pg) : Prop extends H_is_ascending P, H_is_tuple_of P where
  at_fits_lot : P.fn? "fits_lot" = some f_fits_lot
def b_fits_others : Ss :=
    (.cons (.ret (.and (.cal "is_tuple_of" (.cons (.var 0) (.cons (.var 1) (.cons (.glb "MANY_names") .nil)))) (.and (.bi .all (.cons (.lc (.cal "fits_other" (.cons (.var 2) .nil)) (.nm 2) (.seq (.var 0)) .none [2]) .nil)) (.cal "is_ascending" (.cons (.var 0) .nil)))))
    .nil)
def f_fits_others : Fn := ⟨"fits_others", 2, 3, b_fits_others⟩
class H_fits_others (P : Pg) : Prop extends H_is_ascending P, H_fits_other P, H_is_tuple_of P where
  at_fits_others : P.fn? "fits_others" = some f_fits_others
  con_fits_others_MANY_names : P.con? "MANY_names" = some (.int 8)
def b_fits_subtrees : Ss :=
    (.cons (.ret (.and (.cal "is_tuple_of" (.cons (.var 0) (.cons (.var 1) (.cons (.glb "MANY_names") .nil)))) (.and (.bi .all (.cons (.lc (.cal "fits_subtree" (.cons (.var 2) .nil)) (.nm 2) (.seq (.var 0)) .none [2]) .nil)) (.cal "is_ascending" (.cons (.var 0) .nil)))))
    .nil)
def f_fits_subtrees : Fn := ⟨"fits_subtrees", 2, 3, b_fits_subtrees⟩
class H_fits_subtrees (P : Pg) : Prop extends H_is_ascending P, H_fits_subtree P, H_is_tuple_of P where
  at_fits_subtrees : P.fn? "fits_subtrees" = some f_fits_subtrees
  con_fits_subtrees_MANY_names : P.con? "MANY_names" = some (.int 8)
def b_fits_policies : Ss :=
    (.cons (.ret (.and (.cal "is_tuple_of" (.cons (.var 0) (.cons (.var 1) (.cons (.glb "MANY_certificates") .nil)))) (.and (.bi .all (.cons (.lc (.cal "fits_word" (.cons (.var 2) .nil)) (.nm 2) (.seq (.var 0)) .none [2]) .nil)) (.cal "is_ascending" (.cons (.var 0) .nil)))))
    .nil)
def f_fits_policies : Fn := ⟨"fits_policies", 2, 3, b_fits_policies⟩
class H_fits_policies (P : Pg) : Prop extends H_is_ascending P, H_fits_word P, H_is_tuple_of P where
  at_fits_policies : P.fn? "fits_policies" = some f_fits_policies
  con_fits_policies_MANY_certificates : P.con? "MANY_certificates" = some (.int 8)
def b_fits_mapping : Ss :=
    (.cons (.ret (.and (.cal "is_tuple_of" (.cons (.var 0) (.cons (.int 2) (.cons (.int 2) .nil)))) (.bi .all (.cons (.lc (.and (.cal "fits_word" (.cons (.var 1) .nil)) (.cmp .ne (.var 1) (.glb "ANY"))) (.nm 1) (.seq (.var 0)) .none [1]) .nil))))
    .nil)
def f_fits_mapping : Fn := ⟨"fits_mapping", 1, 2, b_fits_mapping⟩
class H_fits_mapping (P : Pg) : Prop extends H_fits_word P, H_is_tuple_of P where
  at_fits_mapping : P.fn? "fits_mapping" = some f_fits_mapping
  con_fits_mapping_ANY : P.con? "ANY" = some (.str "any")
def b_fits_limits : Ss :=
    (.cons (.ret (.and (.cal "is_tuple_of" (.cons (.var 0) (.cons (.int 2) (.cons (.int 2) .nil)))) (.and (.bi .all (.cons (.lc (.cal "is_whole" (.cons (.var 1) (.cons (.neg (.int 1)) (.cons (.glb "DEPTH") .nil)))) (.nm 1) (.seq (.var 0)) .none [1]) .nil)) (.cmp .ne (.var 0) (.tup (.cons (.neg (.int 1)) (.cons (.neg (.int 1)) .nil)))))))
    .nil)
def f_fits_limits : Fn := ⟨"fits_limits", 1, 2, b_fits_limits⟩
class H_fits_limits (P : Pg) : Prop extends H_is_whole P, H_is_tuple_of P where
  at_fits_limits : P.fn? "fits_limits" = some f_fits_limits
  con_fits_limits_DEPTH : P.con? "DEPTH" = some (.int 8)
def b_fits_value : Ss :=
    (.cons (.ite (.cmp .eq (.var 0) (.str "anylimit")) (.cons (.ret (.cal "is_whole" (.cons (.var 1) (.cons (.int 0) (.cons (.glb "DEPTH") .nil)))))
    .nil) .nil)
    (.cons (.ite (.cmp .eq (.var 0) (.str "basic")) (.cons (.ret (.and (.cal "is_tuple_of" (.cons (.var 1) (.cons (.int 2) (.cons (.int 2) .nil)))) (.and (.cal "is_truth" (.cons (.ix (.var 1) (.int 0)) .nil)) (.cal "is_whole" (.cons (.ix (.var 1) (.int 1)) (.cons (.neg (.int 1)) (.cons (.ite (.ix (.var 1) (.int 0)) (.glb "DEPTH") (.neg (.int 1))) .nil)))))))
    .nil) .nil)
    (.cons (.ite (.cmp .mem (.var 0) (.tup (.cons (.str "excluded") (.cons (.str "permitted") .nil)))) (.cons (.ret (.cal "fits_subtrees" (.cons (.var 1) (.cons (.int 1) .nil))))
    .nil) .nil)
    (.cons (.ite (.cmp .eq (.var 0) (.str "lists")) (.cons (.ret (.and (.cal "is_tuple_of" (.cons (.var 1) (.cons (.int 1) (.cons (.glb "HOUSES") .nil)))) (.and (.bi .all (.cons (.lc (.cal "fits_name" (.cons (.var 2) .nil)) (.nm 2) (.seq (.var 1)) .none [2]) .nil)) (.cal "is_ascending" (.cons (.var 1) .nil)))))
    .nil) .nil)
    (.cons (.ite (.cmp .eq (.var 0) (.str "mappings")) (.cons (.ret (.and (.cal "is_tuple_of" (.cons (.var 1) (.cons (.int 1) (.cons (.glb "MANY_certificates") .nil)))) (.and (.bi .all (.cons (.lc (.cal "fits_mapping" (.cons (.var 3) .nil)) (.nm 3) (.seq (.var 1)) .none [3]) .nil)) (.cal "is_ascending" (.cons (.var 1) .nil)))))
    .nil) .nil)
    (.cons (.ite (.cmp .eq (.var 0) (.str "names")) (.cons (.ret (.cal "fits_others" (.cons (.var 1) (.cons (.int 1) .nil))))
    .nil) .nil)
    (.cons (.ite (.cmp .eq (.var 0) (.str "odd")) (.cons (.ret (.and (.cal "is_tuple_of" (.cons (.var 1) (.cons (.int 2) (.cons (.int 2) .nil)))) (.and (.cal "is_truth" (.cons (.ix (.var 1) (.int 0)) .nil)) (.cal "fits_word" (.cons (.ix (.var 1) (.int 1)) .nil)))))
    .nil) .nil)
    (.cons (.ite (.cmp .eq (.var 0) (.str "policies")) (.cons (.ret (.cal "fits_policies" (.cons (.var 1) (.cons (.int 1) .nil))))
    .nil) .nil)
    (.cons (.ite (.cmp .eq (.var 0) (.str "policylimits")) (.cons (.ret (.cal "fits_limits" (.cons (.var 1) .nil)))
    .nil) .nil)
    (.cons (.ret (.cal "fits_lot" (.cons (.var 1) (.cons (.int 0) (.cons (.glb "MANY_certificates") (.cons (.ite (.cmp .eq (.var 0) (.str "purposes")) (.glb "PURPOSES") (.glb "USES")) .nil))))))
    .nil))))))))))
def f_fits_value : Fn := ⟨"fits_value", 2, 4, b_fits_value⟩
class H_fits_value (P : Pg) : Prop extends H_fits_lot P, H_fits_limits P, H_fits_policies P, H_fits_word P, H_is_truth P, H_is_tuple_of P, H_fits_others P, H_is_ascending P, H_fits_mapping P, H_fits_name P, H_fits_subtrees P, H_is_whole P where
  at_fits_value : P.fn? "fits_value" = some f_fits_value
  con_fits_value_PURPOSES : P.con? "PURPOSES" = some (.tup [(.str "any"), (.str "call"), (.str "serve"), (.str "sign"), (.str "stamp")])
  con_fits_value_USES : P.con? "USES" = some (.tup [(.str "agree"), (.str "certs"), (.str "lists"), (.str "sign")])
  con_fits_value_MANY_certificates : P.con? "MANY_certificates" = some (.int 8)
  con_fits_value_HOUSES : P.con? "HOUSES" = some (.int 4)
  con_fits_value_DEPTH : P.con? "DEPTH" = some (.int 8)
def b_fits_parts : Ss :=
    (.cons (.ite (.or (.not (.cal "is_tuple_of" (.cons (.var 0) (.cons (.int 0) (.cons (.bi .len (.cons (.glb "PARTS") .nil)) .nil))))) (.not (.bi .all (.cons (.lc (.cal "is_tuple_of" (.cons (.var 1) (.cons (.int 2) (.cons (.int 2) .nil)))) (.nm 1) (.seq (.var 0)) .none [1]) .nil)))) (.cons (.ret (.bl false))
    .nil) .nil)
    (.cons (.ite (.not (.bi .all (.cons (.lc (.and (.isi (.ix (.var 1) (.int 0)) "str") (.and (.cmp .mem (.ix (.var 1) (.int 0)) (.glb "PARTS")) (.cal "fits_value" (.cons (.ix (.var 1) (.int 0)) (.cons (.ix (.var 1) (.int 1)) .nil))))) (.nm 1) (.seq (.var 0)) .none [1]) .nil))) (.cons (.ret (.bl false))
    .nil) .nil)
    (.cons (.ret (.cal "is_ascending" (.cons (.bi .tuple (.cons (.lc (.ix (.var 1) (.int 0)) (.nm 1) (.seq (.var 0)) .none [1]) .nil)) .nil)))
    .nil)))
def f_fits_parts : Fn := ⟨"fits_parts", 1, 2, b_fits_parts⟩
class H_fits_parts (P : Pg) : Prop extends H_is_ascending P, H_fits_value P, H_is_tuple_of P where
  at_fits_parts : P.fn? "fits_parts" = some f_fits_parts
  con_fits_parts_PARTS : P.con? "PARTS" = some (.tup [(.str "anylimit"), (.str "basic"), (.str "excluded"), (.str "lists"), (.str "mappings"), (.str "names"), (.str "odd"), (.str "permitted"), (.str "policies"), (.str "policylimits"), (.str "purposes"), (.str "uses")])
def b_fits_certificate : Ss :=
    (.cons (.ite (.or (.not (.cal "is_tuple_of" (.cons (.var 0) (.cons (.int 9) (.cons (.int 9) .nil))))) (.not (.cal "is_whole" (.cons (.ix (.var 0) (.int 0)) (.cons (.int 0) (.cons (.glb "SERIALS") .nil)))))) (.cons (.ret (.bl false))
    .nil) .nil)
    (.cons (.ite (.or (.not (.cal "fits_name" (.cons (.ix (.var 0) (.int 1)) .nil))) (.not (.cal "fits_name" (.cons (.ix (.var 0) (.int 2)) .nil)))) (.cons (.ret (.bl false))
    .nil) .nil)
    (.cons (.ite (.not (.bi .all (.cons (.lc (.cal "is_whole" (.cons (.ix (.var 0) (.var 1)) (.cons (.int 0) (.cons (.glb "KEYS") .nil)))) (.nm 1) (.seq (.tup (.cons (.int 3) (.cons (.int 4) (.cons (.int 8) .nil))))) .none [1]) .nil))) (.cons (.ret (.bl false))
    .nil) .nil)
    (.cons (.ret (.and (.cal "is_whole" (.cons (.ix (.var 0) (.int 5)) (.cons (.int 0) (.cons (.glb "TIMES") .nil)))) (.and (.cal "is_whole" (.cons (.ix (.var 0) (.int 6)) (.cons (.ix (.var 0) (.int 5)) (.cons (.glb "TIMES") .nil)))) (.cal "fits_parts" (.cons (.ix (.var 0) (.int 7)) .nil)))))
    .nil))))
def f_fits_certificate : Fn := ⟨"fits_certificate", 1, 2, b_fits_certificate⟩
class H_fits_certificate (P : Pg) : Prop extends H_fits_parts P, H_is_whole P, H_fits_name P, H_is_tuple_of P where
  at_fits_certificate : P.fn? "fits_certificate" = some f_fits_certificate
  con_fits_certificate_TIMES : P.con? "TIMES" = some (.int 1000000000)
  con_fits_certificate_KEYS : P.con? "KEYS" = some (.int 4294967295)
  con_fits_certificate_SERIALS : P.con? "SERIALS" = some (.int 1000000)
def b_need_certificate : Ss :=
    (.cons (.ite (.not (.cal "fits_certificate" (.cons (.var 0) .nil))) (.cons (.raise "InvalidCertificate")
    .nil) .nil)
    .nil)
def f_need_certificate : Fn := ⟨"need_certificate", 1, 1, b_need_certificate⟩
class H_need_certificate (P : Pg) : Prop extends H_fits_certificate P where
  at_need_certificate : P.fn? "need_certificate" = some f_need_certificate
def b_part_in : Ss :=
    (.cons (.ret (.dgt (.ix (.var 0) (.int 7)) (.var 1) .non))
    .nil)
def f_part_in : Fn := ⟨"part_in", 2, 2, b_part_in⟩
class H_part_in (P : Pg) : Prop where
  at_part_in : P.fn? "part_in" = some f_part_in
def b_law_part : Ss :=
    (.cons (.ret (.dgt (.ix (.var 0) (.int 7)) (.var 1) .non))
    .nil)
def f_law_part : Fn := ⟨"_law_part", 2, 2, b_law_part⟩
class H_law_part (P : Pg) : Prop where
  at_law_part : P.fn? "_law_part" = some f_law_part
def b_law_parts : Ss :=
    (.cons (.ret (.bi .tuple (.cons (.lc (.tup (.cons (.var 1) (.cons (.ix (.var 0) (.var 1)) .nil))) (.nm 1) (.seq (.bi .sorted (.cons (.var 0) .nil))) .none [1]) .nil)))
    .nil)
def f_law_parts : Fn := ⟨"_law_parts", 1, 2, b_law_parts⟩
class H_law_parts (P : Pg) : Prop where
  at_law_parts : P.fn? "_law_parts" = some f_law_parts
end CP

set_option Elab.async false
set_option linter.all false
set_option maxRecDepth 100000
set_option autoImplicit false
/-! LibB1: what can be compared; ascending tuples; lots, parts, certificates: what they compute. -/
namespace CP
open PySem L2

/-! ### what can be compared -/
/-- the two can be compared by < -/
def Cm (x y : D) : Prop := ∃ o, cmpD x y = some o ∧ ∀ st, cmpB .lt x y st = .ok (o == .lt) st
theorem cm_int (i j : Int) : Cm (.int i) (.int j) := by
  refine ⟨_, rfl, fun st => ?_⟩
  have := cmp_lt st i j
  rw [this]
  by_cases h : i < j
  · simp [h]
  · by_cases h2 : i = j <;> simp [h, h2]
theorem cm_str (x y : Str) : Cm (.str x) (.str y) := by
  refine ⟨_, rfl, fun st => ?_⟩
  show R.ok (decide (x.cps.toList < y.cps.toList)) st = _
  by_cases h : x.cps.toList < y.cps.toList
  · rw [if_pos h]; simp only [h, decide_true]; rfl
  · by_cases h2 : x = y
    · rw [if_neg h, if_pos h2]; simp only [h, decide_false]; rfl
    · rw [if_neg h, if_neg h2]; simp only [h, decide_false]; rfl
/-- places that can be compared one by one, up to the first unlike one -/
inductive Cs2 : List D → List D → Prop
  | nl (ys : List D) : Cs2 [] ys
  | nr (xs : List D) : Cs2 xs []
  | cons {x y : D} {xs ys : List D} (o : Ordering) : cmpD x y = some o → (o = .eq → Cs2 xs ys) → Cs2 (x :: xs) (y :: ys)
theorem Cs2.some : ∀ {xs ys : List D}, Cs2 xs ys → ∃ o, cmpsD xs ys = some o
  | [], [], _ => ⟨_, rfl⟩
  | [], _ :: _, _ => ⟨_, rfl⟩
  | _ :: _, [], _ => ⟨_, rfl⟩
  | x :: xs, y :: ys, h => by
    cases h with
    | cons o e t =>
      unfold cmpsD
      rw [e]
      cases o with
      | eq => exact (t rfl).some
      | lt => exact ⟨_, rfl⟩
      | gt => exact ⟨_, rfl⟩
theorem cm_tup {xs ys : List D} (h : Cs2 xs ys) (hx : isDats xs = true) (hy : isDats ys = true) (hd : deps xs ≤ 60) : Cm (.tup xs) (.tup ys) := by
  obtain ⟨o, e⟩ := h.some
  refine ⟨o, by simp only [cmpD]; exact e, fun st => ?_⟩
  show (if isDats xs && isDats ys && decide (deps xs ≤ 60) then (match ltsD xs ys with
    | some k => R.ok k st
    | none => R.bad) else R.bad) = _
  rw [cmps_ltD e]
  simp [hx, hy, hd]
theorem cs_strs : ∀ {xs ys : List D}, (∀ d ∈ xs, d.isStr = true) → (∀ d ∈ ys, d.isStr = true) → Cs2 xs ys
  | [], _, _, _ => .nl _
  | _ :: _, [], _, _ => .nr _
  | x :: xs, y :: ys, h1, h2 => by
    obtain ⟨a, rfl⟩ := isStr_iff.mp (h1 x List.mem_cons_self)
    obtain ⟨b, rfl⟩ := isStr_iff.mp (h2 y List.mem_cons_self)
    obtain ⟨o, e, _⟩ := cm_str a b
    exact .cons o e fun _ => cs_strs (fun d hd => h1 d (List.mem_cons_of_mem _ hd)) fun d hd => h2 d (List.mem_cons_of_mem _ hd)
theorem word_str {d : D} (h : wordD d = true) : d.isStr = true := by cases d <;> first | rfl | (simp [wordD] at h)
theorem strs_dats {xs : List D} (h : ∀ d ∈ xs, d.isStr = true) : isDats xs = true ∧ deps xs = 0 := by
  refine ⟨isDats_all.mpr fun d hd => ?_, ?_⟩
  · obtain ⟨a, rfl⟩ := isStr_iff.mp (h d hd); rfl
  · refine Nat.le_zero.mp ((deps_le (n := 0)).mpr fun d hd => ?_)
    obtain ⟨a, rfl⟩ := isStr_iff.mp (h d hd)
    exact Nat.le_refl _
theorem words_tup {d : D} {lo hi : Int} (h : wordsD d lo hi = true) : ∃ xs, d = .tup xs ∧ lo ≤ xs.length ∧ (xs.length : Int) ≤ hi ∧ ∀ x ∈ xs, wordD x = true := by
  cases d <;> simp [wordsD] at h
  exact ⟨_, rfl, h.1.1, h.1.2, h.2⟩
theorem cmp_words {d e : D} {lo hi lo' hi' : Int} (h : wordsD d lo hi = true) (h' : wordsD e lo' hi' = true) : Cm d e := by
  obtain ⟨xs, rfl, _, _, a⟩ := words_tup h
  obtain ⟨ys, rfl, _, _, b⟩ := words_tup h'
  have s1 : ∀ d ∈ xs, d.isStr = true := fun d hd => word_str (a d hd)
  have s2 : ∀ d ∈ ys, d.isStr = true := fun d hd => word_str (b d hd)
  exact cm_tup (cs_strs s1 s2) (strs_dats s1).1 (strs_dats s2).1 (by rw [(strs_dats s1).2]; omega)
theorem words_good {d : D} {lo hi : Int} (h : wordsD d lo hi = true) : d.isDat = true ∧ d.dep ≤ 1 := by
  obtain ⟨xs, rfl, _, _, a⟩ := words_tup h
  have s1 : ∀ d ∈ xs, d.isStr = true := fun d hd => word_str (a d hd)
  exact ⟨by rw [D.isDat]; exact (strs_dats s1).1, by rw [D.dep, (strs_dats s1).2]; omega⟩
/-- the forms of a subtree -/
inductive Sub : D → Prop
  | ws (x : Str) {b : D} : x = "house" ∨ x = "name" → wordsD b 0 4 = true → Sub (.tup [.str x, b])
  | num {i j : Int} : 0 ≤ i → i ≤ j → j ≤ 65535 → Sub (.tup [.str "number", .int i, .int j])
  | let {y : Str} {c : D} : freeD (.str y) = true → wordsD c 0 4 = true → Sub (.tup [.str "letter", .str y, c])
theorem sub_of {d : D} (h : subtreeD d = true) : Sub d := by
  cases d with
  | tup xs =>
    rcases xs with _ | ⟨a, _ | ⟨b, _ | ⟨c, _ | ⟨e, t⟩⟩⟩⟩
    · simp [subtreeD] at h
    · cases a <;> simp [subtreeD] at h
    · cases a <;> simp [subtreeD] at h
      exact .ws _ h.1 h.2
    · cases a <;> simp [subtreeD] at h
      rename_i x
      rcases h with ⟨rfl, h⟩ | ⟨⟨rfl, h⟩, h2⟩
      · cases b <;> cases c <;> simp [numsD] at h
        exact .num h.1.1 h.1.2 h.2
      · cases b <;> simp [freeD] at h
        exact .let (by simpa [freeD] using h) h2
    · cases a <;> simp [subtreeD] at h
  | _ => simp [subtreeD] at h
theorem Sub.good {d : D} (h : Sub d) : d.isDat = true ∧ d.dep ≤ 2 ∧ noEmp d = true := by
  cases h with
  | ws x _ hb =>
    obtain ⟨h1, h2⟩ := words_good hb
    exact ⟨by simp [D.isDat, isDats, h1], by simp only [D.dep, deps]; omega, rfl⟩
  | num _ _ _ => exact ⟨rfl, by simp [D.dep, deps], rfl⟩
  | «let» _ hb =>
    obtain ⟨h1, h2⟩ := words_good hb
    exact ⟨by simp [D.isDat, isDats, h1], by simp only [D.dep, deps]; omega, rfl⟩
theorem str_ne_cmp {x y : Str} (h : x ≠ y) : ∃ o, cmpD (.str x) (.str y) = some o ∧ o ≠ .eq := by
  obtain ⟨o, e, _⟩ := cm_str x y
  refine ⟨o, e, fun z => ?_⟩
  subst z
  have := cmpD_eq e
  cases this
  exact h rfl
theorem cs_ne {x y : Str} {xs ys : List D} (h : x ≠ y) : Cs2 (.str x :: xs) (.str y :: ys) := by
  obtain ⟨o, e, n⟩ := str_ne_cmp h
  exact .cons o e fun z => absurd z n
theorem cs_same {x y : D} {xs ys : List D} (h : Cm x y) (t : Cs2 xs ys) : Cs2 (x :: xs) (y :: ys) := by
  obtain ⟨o, e, _⟩ := h
  exact .cons o e fun _ => t
theorem cs_pair {x y : D} (h : Cm x y) : Cs2 [x] [y] := cs_same h (.nl _)
theorem Sub.cs {d e : D} (h : Sub d) (h' : Sub e) : ∃ xs ys, d = .tup xs ∧ e = .tup ys ∧ Cs2 xs ys := by
  cases h with
  | ws x hx hb =>
    cases h' with
    | ws y hy hc => exact ⟨_, _, rfl, rfl, cs_same (cm_str _ _) (cs_pair (cmp_words hb hc))⟩
    | num _ _ _ => exact ⟨_, _, rfl, rfl, cs_ne (by rcases hx with rfl | rfl <;> decide)⟩
    | «let» _ _ => exact ⟨_, _, rfl, rfl, cs_ne (by rcases hx with rfl | rfl <;> decide)⟩
  | num _ _ _ =>
    cases h' with
    | ws y hy hc => exact ⟨_, _, rfl, rfl, cs_ne (by rcases hy with rfl | rfl <;> decide)⟩
    | num _ _ _ => exact ⟨_, _, rfl, rfl, cs_same (cm_str _ _) (cs_same (cm_int _ _) (cs_pair (cm_int _ _)))⟩
    | «let» _ _ => exact ⟨_, _, rfl, rfl, cs_ne (by decide)⟩
  | «let» _ hb =>
    cases h' with
    | ws y hy hc => exact ⟨_, _, rfl, rfl, cs_ne (by rcases hy with rfl | rfl <;> decide)⟩
    | num _ _ _ => exact ⟨_, _, rfl, rfl, cs_ne (by decide)⟩
    | «let» _ hc => exact ⟨_, _, rfl, rfl, cs_same (cm_str _ _) (cs_same (cm_str _ _) (cs_pair (cmp_words hb hc)))⟩
theorem cm_of_cs {xs ys : List D} (h : Cs2 xs ys) (hx : (D.tup xs).isDat = true) (hy : (D.tup ys).isDat = true) (hd : (D.tup xs).dep ≤ 60) : Cm (.tup xs) (.tup ys) :=
  cm_tup h (by simpa [D.isDat] using hx) (by simpa [D.isDat] using hy) (by simp only [D.dep] at hd; omega)
theorem cm_sub {d e : D} (h : subtreeD d = true) (h' : subtreeD e = true) : Cm d e := by
  obtain ⟨xs, ys, rfl, rfl, c⟩ := (sub_of h).cs (sub_of h')
  exact cm_of_cs c (sub_of h).good.1 (sub_of h').good.1 (Nat.le_trans (sub_of h).good.2.1 (by omega))
/-- the forms of an other name -/
inductive Oth : D → Prop
  | hou {b : D} : wordsD b 1 4 = true → Oth (.tup [.str "house", b])
  | num {i : Int} : 0 ≤ i → i ≤ 65535 → Oth (.tup [.str "number", .int i])
  | let {b c : D} : wordD b = true → wordsD c 1 4 = true → Oth (.tup [.str "letter", b, c])
theorem oth_of {d : D} (h : otherD d = true) : Oth d := by
  cases d with
  | tup xs =>
    rcases xs with _ | ⟨a, _ | ⟨b, _ | ⟨c, _ | ⟨e, t⟩⟩⟩⟩
    · simp [otherD] at h
    · cases a <;> simp [otherD] at h
    · cases a <;> simp [otherD] at h
      rcases h with ⟨rfl, h⟩ | ⟨rfl, h⟩
      · exact .hou h
      · cases b <;> simp [wholeD] at h
        exact .num h.1 h.2
    · cases a <;> simp [otherD] at h
      obtain ⟨⟨rfl, h⟩, h2⟩ := h
      exact .let h h2
    · cases a <;> simp [otherD] at h
  | _ => simp [otherD] at h
theorem word_good {d : D} (h : wordD d = true) : d.isDat = true ∧ d.dep = 0 := by
  obtain ⟨a, rfl⟩ := isStr_iff.mp (word_str h)
  exact ⟨rfl, rfl⟩
theorem Oth.good {d : D} (h : Oth d) : d.isDat = true ∧ d.dep ≤ 2 ∧ noEmp d = true := by
  cases h with
  | hou hb =>
    obtain ⟨h1, h2⟩ := words_good hb
    exact ⟨by simp [D.isDat, isDats, h1], by simp only [D.dep, deps]; omega, rfl⟩
  | num _ _ => exact ⟨rfl, by simp [D.dep, deps], rfl⟩
  | «let» hw hb =>
    obtain ⟨h1, h2⟩ := words_good hb
    obtain ⟨h3, h4⟩ := word_good hw
    exact ⟨by simp [D.isDat, isDats, h1, h3], by simp only [D.dep, deps]; omega, rfl⟩
theorem cm_word {d e : D} (h : wordD d = true) (h' : wordD e = true) : Cm d e := by
  obtain ⟨a, rfl⟩ := isStr_iff.mp (word_str h)
  obtain ⟨b, rfl⟩ := isStr_iff.mp (word_str h')
  exact cm_str a b
theorem Oth.cs {d e : D} (h : Oth d) (h' : Oth e) : ∃ xs ys, d = .tup xs ∧ e = .tup ys ∧ Cs2 xs ys := by
  cases h with
  | hou hb =>
    cases h' with
    | hou hc => exact ⟨_, _, rfl, rfl, cs_same (cm_str _ _) (cs_pair (cmp_words hb hc))⟩
    | num _ _ => exact ⟨_, _, rfl, rfl, cs_ne (by decide)⟩
    | «let» _ _ => exact ⟨_, _, rfl, rfl, cs_ne (by decide)⟩
  | num _ _ =>
    cases h' with
    | hou hc => exact ⟨_, _, rfl, rfl, cs_ne (by decide)⟩
    | num _ _ => exact ⟨_, _, rfl, rfl, cs_same (cm_str _ _) (cs_pair (cm_int _ _))⟩
    | «let» _ _ => exact ⟨_, _, rfl, rfl, cs_ne (by decide)⟩
  | «let» hw hb =>
    cases h' with
    | hou hc => exact ⟨_, _, rfl, rfl, cs_ne (by decide)⟩
    | num _ _ => exact ⟨_, _, rfl, rfl, cs_ne (by decide)⟩
    | «let» hw' hc => exact ⟨_, _, rfl, rfl, cs_same (cm_str _ _) (cs_same (cm_word hw hw') (cs_pair (cmp_words hb hc)))⟩
theorem cm_oth {d e : D} (h : otherD d = true) (h' : otherD e = true) : Cm d e := by
  obtain ⟨xs, ys, rfl, rfl, c⟩ := (oth_of h).cs (oth_of h')
  exact cm_of_cs c (oth_of h).good.1 (oth_of h').good.1 (Nat.le_trans (oth_of h).good.2.1 (by omega))

/-! ### ascending -/
def ascD : List D → Bool
  | x :: y :: r => (cmpD x y == some .lt) && ascD (y :: r)
  | _ => true
theorem cut_one {α : Type} (xs : List α) : cutD xs (some 1) none = xs.drop 1 := by
  unfold cutD
  have e : HT.sIx xs.length 0 (some 1) = min 1 xs.length := HT.sIx_nat xs.length 0 1
  rw [e, HT.sIx_none]
  cases xs with
  | nil => rfl
  | cons x xs => simp
def ltP (d : D) : Bool := match d with
  | .tup [x, y] => cmpD x y == some .lt
  | _ => false
theorem asc_pairs : ∀ xs : List D, (pairsD xs xs.tail).all ltP = ascD xs
  | [] => rfl
  | [x] => rfl
  | x :: y :: r => by
    have ih := asc_pairs (y :: r)
    unfold ascD
    rw [← ih]
    simp [pairsD, ltP]
section
variable {P : Pg} (k : Nat) (st : So)
theorem is_ascending_spec [H_is_ascending P] {xs : List D} (h : ∀ a ∈ xs, ∀ b ∈ xs, Cm a b) : calN P (k + 1) "is_ascending" [.tup xs] st = .ok (.bl (ascD xs)) st := by
  rw [calN_at H_is_ascending.at_is_ascending, run_eq rfl]
  simp [f_is_ascending, b_is_ascending, cut_one, zipD]
  rw [lc_map (fun d => .bl (ltP d)) fun d hd => by
    obtain ⟨i, hi⟩ := List.getElem?_of_mem hd
    have hp : ∃ x y, x ∈ xs ∧ y ∈ xs ∧ d = .tup [x, y] := by
      unfold pairsD at hd
      rw [List.mem_map] at hd
      obtain ⟨⟨x, y⟩, hz, rfl⟩ := hd
      have := List.of_mem_zip hz
      exact ⟨x, y, this.1, List.mem_of_mem_tail this.2, rfl⟩
    obtain ⟨x, y, hx, hy, rfl⟩ := hp
    obtain ⟨o, e1, e2⟩ := h x hx y hy
    refine ⟨_, rfl, rfl, ?_⟩
    simp [wipeD, e2, ltP, e1]]
  have e : (List.map ltP (pairsD xs xs.tail)).all id = ascD xs := by
    rw [← asc_pairs]; simp [List.all_map]
  simp only [bind_ok, all_lst _ _ (blsOf_map _ _), of_ok, seq_rt, res_rt, e]
theorem is_truth_spec [H_is_truth P] {d : D} (hd : d.isDat = true) : calN P (k + 1) "is_truth" [d] st = .ok (.bl d.isBl) st := by
  rw [calN_at H_is_truth.at_is_truth, run_eq rfl]
  simp [f_is_truth, b_is_truth, isiR_of (isi_bool hd)]
end
end CP

set_option Elab.async false
set_option linter.all false
set_option maxRecDepth 100000
set_option autoImplicit false
/-! LibB2: values of parts, parts, certificates. -/
namespace CP
open PySem L2
/-- so many good things, ascending -/
def manyD (p : D → Bool) (d : D) (lo hi : Int) : Bool := match d with
  | .tup xs => decide (lo ≤ (xs.length : Int)) && decide ((xs.length : Int) ≤ hi) && (xs.all p && ascD xs)
  | _ => false
def wIn (ws : List D) (d : D) : Bool := d.isStr && inD d ws
def mapD (d : D) : Bool := match d with
  | .tup xs => decide ((2 : Int) ≤ (xs.length : Int)) && decide ((xs.length : Int) ≤ 2) && xs.all fun x => wordD x && !(x.eqv (.str "any"))
  | _ => false
def limD (d : D) : Bool := match d with
  | .tup xs => decide ((2 : Int) ≤ (xs.length : Int)) && decide ((xs.length : Int) ≤ 2) && ((xs.all fun x => wholeD x (-1) 8) && !(eqvs xs [.int (-1), .int (-1)]))
  | _ => false
def basicD (d : D) : Bool := match d with
  | .tup [.bl b, x] => wholeD x (-1) (if b then 8 else -1)
  | _ => false
def oddD (d : D) : Bool := match d with
  | .tup [.bl _, x] => wordD x
  | _ => false
abbrev nameD (d : D) : Bool := wordsD d 1 4
def usesW : List D := [.str "agree", .str "certs", .str "lists", .str "sign"]
def purpW : List D := [.str "any", .str "call", .str "serve", .str "sign", .str "stamp"]
def partsW : List D := [.str "anylimit", .str "basic", .str "excluded", .str "lists", .str "mappings", .str "names", .str "odd", .str "permitted", .str "policies", .str "policylimits", .str "purposes", .str "uses"]
def valueD (w : Str) (d : D) : Bool :=
  bth (w == "anylimit") (wholeD d 0 8) <| bth (w == "basic") (basicD d) <| bth (w == "excluded" || w == "permitted") (manyD subtreeD d 1 8) <| bth (w == "lists") (manyD nameD d 1 4) <|
  bth (w == "mappings") (manyD mapD d 1 8) <| bth (w == "names") (manyD otherD d 1 8) <| bth (w == "odd") (oddD d) <| bth (w == "policies") (manyD wordD d 1 8) <| bth (w == "policylimits") (limD d) <|
  bth (w == "purposes") (manyD (wIn purpW) d 0 8) (manyD (wIn usesW) d 0 8)
theorem map_words {d : D} (h : mapD d = true) : wordsD d 2 2 = true := by
  cases d <;> simp [mapD] at h
  simp only [wordsD, Bool.and_eq_true, List.all_eq_true, decide_eq_true_eq]
  exact ⟨by omega, fun x hx => (h.2 x hx).1⟩
theorem str_cm {d e : D} (h : d.isStr = true) (h' : e.isStr = true) : Cm d e := by
  obtain ⟨a, rfl⟩ := isStr_iff.mp h
  obtain ⟨b, rfl⟩ := isStr_iff.mp h'
  exact cm_str a b
theorem wIn_str {ws : List D} {d : D} (h : wIn ws d = true) : d.isStr = true := by
  unfold wIn at h
  rw [Bool.and_eq_true] at h
  exact h.1
section
variable {P : Pg} (k : Nat) (st : So)
theorem lc_all {G : Gm} {l : Lo} {tg : Nat} {e : E} {xs : List D} (p : D → Bool) (h : ∀ x ∈ xs, evE G e ((wipeD l [tg]).set tg (some x)) st = .ok (.bl (p x)) st) :
    lcGo (fun d => bindTg (.nm tg) d (wipeD l [tg])) (evC G .none) (evE G e) xs [] st = .ok (.lst (xs.map fun x => .bl (p x))) st :=
  lc_map (fun x => .bl (p x)) fun x hx => ⟨_, rfl, rfl, h x hx⟩
theorem all_of (p : D → Bool) (xs : List D) : biD .all [.lst (xs.map fun x => .bl (p x))] st = .ok (.bl (xs.all p)) st := by
  rw [all_lst _ _ (blsOf_map _ _)]
  simp [List.all_map]
theorem mem_words {ws : List D} (hw : isDats ws = true) (x : Str) (st : So) : memD (.str x) (.tup ws) st = .ok (inD (.str x) ws) st := mem_tup rfl (by simp [D.dep]) hw st
theorem fits_lot_spec [H_fits_lot P] {d : D} (lo hi : Int) {ws : List D} (hw : isDats ws = true) (hd : d.isDat = true) : calN P (k + 2) "fits_lot" [d, .int lo, .int hi, .tup ws] st = .ok (.bl (manyD (wIn ws) d lo hi)) st := by
  rw [calN_at H_fits_lot.at_fits_lot, run_eq rfl]
  simp [f_fits_lot, b_fits_lot, is_tuple_of_spec _ _ _ _ hd]
  cases d <;> simp [tupD, manyD]
  rename_i xs
  have hs := isDat_tup hd
  rw [lc_all _ (wIn ws) fun x hx => by
    have hx := hs x hx
    simp [wipeD, isiR_of (isi_str hx)]
    cases x <;> simp [D.isStr, wIn, mem_words hw]]
  have bnd : ∀ {α : Type} (p q : α) (c : Bool), bth c (bth c p q) q = bth c p q := fun p q c => by cases c <;> rfl
  by_cases h1 : xs.all (wIn ws) = true
  · have ia : ∀ st, calN P (k + 1) "is_ascending" [.tup xs] st = .ok (.bl (ascD xs)) st := fun st => is_ascending_spec k st fun a ha b hb => str_cm (wIn_str (List.all_eq_true.mp h1 a ha)) (wIn_str (List.all_eq_true.mp h1 b hb))
    have h2 : (∀ x ∈ xs, wIn ws x = true) := List.all_eq_true.mp h1
    simp [all_of, ia, h1]
    by_cases g : (decide (lo ≤ (xs.length : Int)) && decide ((xs.length : Int) ≤ hi)) = true
    · rw [g]; simp
    · simp only [Bool.not_eq_true] at g
      rw [g]; simp
  · simp only [Bool.not_eq_true] at h1
    simp [all_of, h1]
    by_cases g : (decide (lo ≤ (xs.length : Int)) && decide ((xs.length : Int) ≤ hi)) = true
    · rw [g]; simp
    · simp only [Bool.not_eq_true] at g
      rw [g]; simp
theorem cm_fits_others {a b : D} (h : otherD a = true) (h' : otherD b = true) : Cm a b := cm_oth h h'
theorem cm_fits_subtrees {a b : D} (h : subtreeD a = true) (h' : subtreeD b = true) : Cm a b := cm_sub h h'
theorem cm_fits_policies {a b : D} (h : wordD a = true) (h' : wordD b = true) : Cm a b := cm_word h h'
theorem fits_others_spec [H_fits_others P] {d : D} (lo : Int) (hd : d.isDat = true) : calN P (k + 4) "fits_others" [d, .int lo] st = .ok (.bl (manyD otherD d lo 8)) st := by
  rw [calN_at H_fits_others.at_fits_others, run_eq rfl]
  simp [f_fits_others, b_fits_others, is_tuple_of_spec _ _ _ _ hd, e_glbP H_fits_others.con_fits_others_MANY_names]
  cases d <;> simp [tupD, manyD]
  rename_i xs
  have hs := isDat_tup hd
  rw [lc_all _ otherD fun x hx => by
    have hx := hs x hx
    simp [wipeD, fits_other_spec _ _ hx]]
  by_cases h1 : xs.all otherD = true
  · have ia : ∀ st, calN P (k + 3) "is_ascending" [.tup xs] st = .ok (.bl (ascD xs)) st := fun st => is_ascending_spec (k + 2) st fun a ha b hb => cm_fits_others (List.all_eq_true.mp h1 a ha) (List.all_eq_true.mp h1 b hb)
    simp [all_of, ia, h1]
  · simp only [Bool.not_eq_true] at h1
    simp [all_of, h1]
theorem fits_subtrees_spec [H_fits_subtrees P] {d : D} (lo : Int) (hd : d.isDat = true) : calN P (k + 4) "fits_subtrees" [d, .int lo] st = .ok (.bl (manyD subtreeD d lo 8)) st := by
  rw [calN_at H_fits_subtrees.at_fits_subtrees, run_eq rfl]
  simp [f_fits_subtrees, b_fits_subtrees, is_tuple_of_spec _ _ _ _ hd, e_glbP H_fits_subtrees.con_fits_subtrees_MANY_names]
  cases d <;> simp [tupD, manyD]
  rename_i xs
  have hs := isDat_tup hd
  rw [lc_all _ subtreeD fun x hx => by
    have hx := hs x hx
    simp [wipeD, fits_subtree_spec _ _ hx]]
  by_cases h1 : xs.all subtreeD = true
  · have ia : ∀ st, calN P (k + 3) "is_ascending" [.tup xs] st = .ok (.bl (ascD xs)) st := fun st => is_ascending_spec (k + 2) st fun a ha b hb => cm_fits_subtrees (List.all_eq_true.mp h1 a ha) (List.all_eq_true.mp h1 b hb)
    simp [all_of, ia, h1]
  · simp only [Bool.not_eq_true] at h1
    simp [all_of, h1]
theorem fits_policies_spec [H_fits_policies P] {d : D} (lo : Int) (hd : d.isDat = true) : calN P (k + 2) "fits_policies" [d, .int lo] st = .ok (.bl (manyD wordD d lo 8)) st := by
  rw [calN_at H_fits_policies.at_fits_policies, run_eq rfl]
  simp [f_fits_policies, b_fits_policies, is_tuple_of_spec _ _ _ _ hd, e_glbP H_fits_policies.con_fits_policies_MANY_certificates]
  cases d <;> simp [tupD, manyD]
  rename_i xs
  have hs := isDat_tup hd
  rw [lc_all _ wordD fun x hx => by
    have hx := hs x hx
    simp [wipeD, fits_word_spec _ _ hx]]
  by_cases h1 : xs.all wordD = true
  · have ia : ∀ st, calN P (k + 1) "is_ascending" [.tup xs] st = .ok (.bl (ascD xs)) st := fun st => is_ascending_spec (k + 0) st fun a ha b hb => cm_fits_policies (List.all_eq_true.mp h1 a ha) (List.all_eq_true.mp h1 b hb)
    simp [all_of, ia, h1]
  · simp only [Bool.not_eq_true] at h1
    simp [all_of, h1]
theorem fits_mapping_spec [H_fits_mapping P] {d : D} (hd : d.isDat = true) : calN P (k + 2) "fits_mapping" [d] st = .ok (.bl (mapD d)) st := by
  rw [calN_at H_fits_mapping.at_fits_mapping, run_eq rfl]
  simp [f_fits_mapping, b_fits_mapping, is_tuple_of_spec _ _ _ _ hd, e_glbP H_fits_mapping.con_fits_mapping_ANY]
  cases d <;> simp [tupD, mapD]
  rename_i xs
  have hs := isDat_tup hd
  rw [lc_all _ (fun x => wordD x && !(x.eqv (.str "any"))) fun x hx => by
    have hx := hs x hx
    simp [wipeD, fits_word_spec _ _ hx, e_glbP H_fits_mapping.con_fits_mapping_ANY, eqD_dat_str hx]]
  simp [all_of]
theorem fits_limits_spec [H_fits_limits P] {d : D} (hd : d.isDat = true) : calN P (k + 2) "fits_limits" [d] st = .ok (.bl (limD d)) st := by
  rw [calN_at H_fits_limits.at_fits_limits, run_eq rfl]
  simp [f_fits_limits, b_fits_limits, is_tuple_of_spec _ _ _ _ hd, e_glbP H_fits_limits.con_fits_limits_DEPTH]
  cases d <;> simp [tupD, limD]
  rename_i xs
  have hs := isDat_tup hd
  rw [lc_all _ (fun x => wholeD x (-1) 8) fun x hx => by
    have hx := hs x hx
    simp [wipeD, is_whole_spec _ _ _ _ hx, e_glbP H_fits_limits.con_fits_limits_DEPTH]]
  have hx : isDats xs = true := by simpa [D.isDat] using hd
  have e : ∀ st, eqD (.tup xs) (.tup [.int (-1), .int (-1)]) st = .ok (eqvs xs [.int (-1), .int (-1)]) st := fun st => by
    unfold eqD
    simp [D.see, D.isDat, hx, isDats, D.dep, deps, D.eqv]
  simp [all_of, e]
theorem eqD_ss (x y : Str) (st : So) : eqD (.str x) (.str y) st = .ok (x == y) st := eqD_str x y st
theorem mem_ep (x : Str) (st : So) : memD (.str x) (.tup [.str "excluded", .str "permitted"]) st = .ok (x == "excluded" || x == "permitted") st := by
  rw [mem_words rfl]
  simp only [inD, List.any_cons, List.any_nil, D.eqv, Bool.or_false]
  rw [str_comm x, str_comm x]
/-- a branch that returns -/
theorem ret_ite {G : Gm} {c : E} {e : E} {ss : Ss} {l : Lo} {st : So} {b v : Bool} (hc : evB G c l st = .ok b st) (he : evE G e l st = .ok (.bl v) st) {r : Bool} (hr : (evSs G ss l st).res = .ok (.bl r) st) :
    (evSs G (.cons (.ite c (.cons (.ret e) .nil) .nil) ss) l st).res = .ok (.bl (bth b v r)) st := by
  simp only [ss_cons, s_ite, hc, of_ok, ss_nil, s_ret, he]
  cases b
  · simpa using hr
  · rfl
theorem asc_many {G : Gm} {l : Lo} {p : D → Bool} {d : D} {lo hi : Int} {e1 e2 e3 : E} (h1 : evE G e1 l st = .ok (.bl (tupD d lo hi)) st) (h2 : ∀ xs, d = .tup xs → evE G e2 l st = .ok (.bl (xs.all p)) st) (h3 : ∀ xs, d = .tup xs → xs.all p = true → evE G e3 l st = .ok (.bl (ascD xs)) st) :
    evE G (.and e1 (.and e2 e3)) l st = .ok (.bl (manyD p d lo hi)) st := by
  simp only [e_and, h1, bind_ok, tru_bl]
  cases d <;> simp only [tupD, manyD, bth_false]
  rename_i xs
  rw [h2 xs rfl]
  simp only [bind_ok, tru_bl]
  by_cases h : xs.all p = true
  · rw [h3 xs rfl h, h]; simp
  · simp only [Bool.not_eq_true] at h
    rw [h]; simp
theorem two_of {d : D} (h : tupD d 2 2 = true) (hd : d.isDat = true) : ∃ a b, d = .tup [a, b] ∧ a.isDat = true ∧ b.isDat = true := by
  cases d <;> simp [tupD] at h
  rename_i xs
  have hs := isDat_tup hd
  rcases xs with _ | ⟨a, _ | ⟨b, _ | ⟨c, t⟩⟩⟩
  · simp at h
  · simp at h
  · exact ⟨a, b, rfl, hs a (by simp), hs b (by simp)⟩
  · simp at h; omega
theorem fits_value_spec [H_fits_value P] {d : D} (w : Str) (hd : d.isDat = true) : calN P (k + 5) "fits_value" [.str w, d] st = .ok (.bl (valueD w d)) st := by
  rw [calN_at H_fits_value.at_fits_value, run_eq rfl]
  have c1 := fun l st => e_glbP (k := k + 4) (H_fits_value.con_fits_value_DEPTH (P := P)) l st
  have c2 := fun l st => e_glbP (k := k + 4) (H_fits_value.con_fits_value_HOUSES (P := P)) l st
  have c3 := fun l st => e_glbP (k := k + 4) (H_fits_value.con_fits_value_MANY_certificates (P := P)) l st
  have c4 := fun l st => e_glbP (k := k + 4) (H_fits_value.con_fits_value_USES (P := P)) l st
  have c5 := fun l st => e_glbP (k := k + 4) (H_fits_value.con_fits_value_PURPOSES (P := P)) l st
  show (evSs (gmN P (k + 4)) b_fits_value [some (.str w), some d, none, none] st).res = _
  unfold b_fits_value
  refine ret_ite (by simp) (v := wholeD d 0 8) ?_ <| ret_ite (by simp) (v := basicD d) ?_ <| ret_ite (by simp [mem_ep]) (v := manyD subtreeD d 1 8) ?_ <| ret_ite (by simp) (v := manyD nameD d 1 4) ?_ <|
    ret_ite (by simp) (v := manyD mapD d 1 8) ?_ <| ret_ite (by simp) (v := manyD otherD d 1 8) ?_ <| ret_ite (by simp) (v := oddD d) ?_ <| ret_ite (by simp) (v := manyD wordD d 1 8) ?_ <| ret_ite (by simp) (v := limD d) ?_ ?_
  · simp [c1, is_whole_spec _ _ _ _ hd]
  · simp only [e_and, e_cal, es_cons, es_nil, e_var, lget_succ, lget_zero, e_int, bind_ok, gm_cal, is_tuple_of_spec _ _ _ _ hd, tru_bl]
    by_cases h : tupD d 2 2 = true
    · obtain ⟨a, b, rfl, ha, hb⟩ := two_of h hd
      simp only [h, bth_true]
      cases a <;> simp [is_truth_spec _ _ ha, D.isBl, basicD, c1, is_whole_spec _ _ _ _ hb]
      rename_i t
      cases t <;> simp [c1, is_whole_spec _ _ _ _ hb]
    · have e : basicD d = false := by
        cases d <;> try rfl
        rename_i xs
        rcases xs with _ | ⟨a, _ | ⟨b, _ | ⟨c, t⟩⟩⟩ <;> first | rfl | skip
        · cases a <;> rfl
        · exact absurd rfl h
        · cases a <;> rfl
      simp only [Bool.not_eq_true] at h
      rw [h, e]; rfl
  · simp [fits_subtrees_spec _ _ _ hd]
  · refine asc_many st (by simp [c2, is_tuple_of_spec _ _ _ _ hd]) (fun xs e => ?_) fun xs e h => ?_
    · subst e
      have hs := isDat_tup hd
      simp only [e_bi, es_cons, es_nil, e_lc, ew_seq, e_var, lget_succ, lget_zero, bind_ok, walkD_tup]
      rw [lc_all _ nameD fun x hx => by simp [wipeD, fits_name_spec _ _ (hs x hx)]]
      simp [all_of]
    · subst e
      simp [is_ascending_spec _ _ fun a ha b hb => cmp_words (List.all_eq_true.mp h a ha) (List.all_eq_true.mp h b hb)]
  · refine asc_many st (by simp [c3, is_tuple_of_spec _ _ _ _ hd]) (fun xs e => ?_) fun xs e h => ?_
    · subst e
      have hs := isDat_tup hd
      simp only [e_bi, es_cons, es_nil, e_lc, ew_seq, e_var, lget_succ, lget_zero, bind_ok, walkD_tup]
      rw [lc_all _ mapD fun x hx => by simp [wipeD, fits_mapping_spec _ _ (hs x hx)]]
      simp [all_of]
    · subst e
      simp [is_ascending_spec _ _ fun a ha b hb => cmp_words (map_words (List.all_eq_true.mp h a ha)) (map_words (List.all_eq_true.mp h b hb))]
  · simp [fits_others_spec _ _ _ hd]
  · simp only [e_and, e_cal, es_cons, es_nil, e_var, lget_succ, lget_zero, e_int, bind_ok, gm_cal, is_tuple_of_spec _ _ _ _ hd, tru_bl]
    by_cases h : tupD d 2 2 = true
    · obtain ⟨a, b, rfl, ha, hb⟩ := two_of h hd
      simp only [h, bth_true]
      cases a <;> simp [is_truth_spec _ _ ha, D.isBl, oddD, fits_word_spec _ _ hb]
    · have e : oddD d = false := by
        cases d <;> try rfl
        rename_i xs
        rcases xs with _ | ⟨a, _ | ⟨b, _ | ⟨c, t⟩⟩⟩ <;> first | rfl | skip
        · cases a <;> rfl
        · exact absurd rfl h
        · cases a <;> rfl
      simp only [Bool.not_eq_true] at h
      rw [h, e]; rfl
  · simp [fits_policies_spec _ _ _ hd]
  · simp [fits_limits_spec _ _ hd]
  · have l1 := fits_lot_spec (P := P) (k + 2) st (d := d) 0 8 (ws := purpW) rfl hd
    have l2 := fits_lot_spec (P := P) (k + 2) st (d := d) 0 8 (ws := usesW) rfl hd
    simp only [purpW, usesW] at l1 l2
    simp [c3, c4, c5]
    cases (w == "purposes") <;> simp [l1, l2, purpW, usesW]
/-- the pairs of a word and its value -/
def pairD (d : D) : Bool := match d with
  | .tup [.str w, v] => inD (.str w) partsW && valueD w v
  | _ => false
def keyP (d : D) : D := match d with
  | .tup [a, _] => a
  | _ => .non
def partsD (d : D) : Bool := match d with
  | .tup xs => decide ((xs.length : Int) ≤ 12) && (xs.all pairD && ascD (xs.map keyP))
  | _ => false
theorem pair_ok {d : D} (h : pairD d = true) : ∃ w v, d = .tup [.str w, v] := by
  cases d <;> try (simp [pairD] at h; done)
  rename_i xs
  rcases xs with _ | ⟨a, _ | ⟨b, _ | ⟨c, t⟩⟩⟩ <;> try (simp [pairD] at h; done)
  cases a <;> first | exact ⟨_, _, rfl⟩ | (simp [pairD] at h)
theorem fits_parts_spec [H_fits_parts P] {d : D} (hd : d.isDat = true) : calN P (k + 6) "fits_parts" [d] st = .ok (.bl (partsD d)) st := by
  rw [calN_at H_fits_parts.at_fits_parts, run_eq rfl]
  have c1 := fun l st => e_glbP (k := k + 5) (H_fits_parts.con_fits_parts_PARTS (P := P)) l st
  show (evSs (gmN P (k + 5)) b_fits_parts [some d, none] st).res = _
  unfold b_fits_parts
  by_cases ht : ∃ xs, d = .tup xs
  · obtain ⟨xs, rfl⟩ := ht
    have hs := isDat_tup hd
    have t0 : tupD (.tup xs) 0 12 = decide ((xs.length : Int) ≤ 12) := by simp [tupD]
    have l1 : ∀ st, lcGo (fun d => bindTg (.nm 1) d (wipeD [some (.tup xs), none] [1])) (evC (gmN P (k + 5)) .none) (evE (gmN P (k + 5)) (.cal "is_tuple_of" (.cons (.var 1) (.cons (.int 2) (.cons (.int 2) .nil))))) xs [] st = .ok (.lst (xs.map fun x => .bl (tupD x 2 2))) st := fun st =>
      lc_all st (fun x => tupD x 2 2) fun x hx => by simp [wipeD, is_tuple_of_spec _ _ _ _ (hs x hx)]
    by_cases h2 : (xs.all fun x => tupD x 2 2) = true
    · have l2 : ∀ st, lcGo (fun d => bindTg (.nm 1) d (wipeD [some (.tup xs), none] [1])) (evC (gmN P (k + 5)) .none) (evE (gmN P (k + 5)) (.and (.isi (.ix (.var 1) (.int 0)) "str") (.and (.cmp .mem (.ix (.var 1) (.int 0)) (.glb "PARTS")) (.cal "fits_value" (.cons (.ix (.var 1) (.int 0)) (.cons (.ix (.var 1) (.int 1)) .nil)))))) xs [] st = .ok (.lst (xs.map fun x => .bl (pairD x))) st := fun st =>
        lc_all st pairD fun x hx => by
          obtain ⟨a, b, rfl, ha, hb⟩ := two_of (List.all_eq_true.mp h2 x hx) (hs x hx)
          simp [wipeD, c1, isiR_of (isi_str ha)]
          cases a <;> simp [D.isStr, pairD]
          rename_i w
          have e : ∀ st, memD (.str w) (.tup partsW) st = .ok (inD (.str w) partsW) st := fun st => mem_words rfl w st
          simp only [partsW] at e
          simp [e, fits_value_spec _ _ _ hb, partsW]
      by_cases h3 : xs.all pairD = true
      · have l3 : ∀ st, lcGo (fun d => bindTg (.nm 1) d (wipeD [some (.tup xs), none] [1])) (evC (gmN P (k + 5)) .none) (evE (gmN P (k + 5)) (.ix (.var 1) (.int 0))) xs [] st = .ok (.lst (xs.map keyP)) st := fun st => lc_map keyP fun x hx => by
          obtain ⟨w, v, rfl⟩ := pair_ok (List.all_eq_true.mp h3 x hx)
          refine ⟨_, rfl, rfl, ?_⟩
          simp [wipeD, keyP]
        have ia : ∀ st, calN P (k + 5) "is_ascending" [.tup (xs.map keyP)] st = .ok (.bl (ascD (xs.map keyP))) st := fun st => is_ascending_spec (k + 4) st fun a ha b hb => by
          obtain ⟨x, hx, rfl⟩ := List.mem_map.mp ha
          obtain ⟨y, hy, rfl⟩ := List.mem_map.mp hb
          obtain ⟨w, v, rfl⟩ := pair_ok (List.all_eq_true.mp h3 x hx)
          obtain ⟨w', v', rfl⟩ := pair_ok (List.all_eq_true.mp h3 y hy)
          exact cm_str w w'
        simp [c1, is_tuple_of_spec _ _ _ _ hd, t0, l1, l2, l3, all_of, h2, h3, ia, partsD]
      · simp only [Bool.not_eq_true] at h3
        simp [c1, is_tuple_of_spec _ _ _ _ hd, t0, l1, l2, all_of, h2, h3, partsD]
    · have h3 : xs.all pairD = false := by
        cases e : xs.all pairD with
        | false => rfl
        | true =>
          exfalso
          refine h2 (List.all_eq_true.mpr fun x hx => ?_)
          obtain ⟨w, v, rfl⟩ := pair_ok (List.all_eq_true.mp e x hx)
          rfl
      simp only [Bool.not_eq_true] at h2
      simp [c1, is_tuple_of_spec _ _ _ _ hd, t0, l1, all_of, h2, h3, partsD]
  · have e : partsD d = false ∧ tupD d 0 12 = false := by cases d <;> first | exact ⟨rfl, rfl⟩ | exact absurd ⟨_, rfl⟩ ht
    simp [c1, is_tuple_of_spec _ _ _ _ hd, e.1, e.2]
def certD (d : D) : Bool := match d with
  | .tup [a, b, c, e, f, g, h, i, j] => wholeD a 0 1000000 && (wordsD b 1 4 && (wordsD c 1 4 && ((wholeD e 0 4294967295 && (wholeD f 0 4294967295 && wholeD j 0 4294967295)) && (match g with
    | .int s => wholeD g 0 1000000000 && (wholeD h s 1000000000 && partsD i)
    | _ => false))))
  | _ => false
@[simp] theorem ix_t3 (a0 a1 a2 a3 : D) (xs : List D) (st : So) : ixD (.tup (a0 :: a1 :: a2 :: a3 :: xs)) (.int 3) st = .ok a3 st := by
  have h : (3 : Int) < (xs.length : Int) + 1 + 1 + 1 + 1 := by omega
  simp [ix_tup, atI, ixN, h]
@[simp] theorem ix_t4 (a0 a1 a2 a3 a4 : D) (xs : List D) (st : So) : ixD (.tup (a0 :: a1 :: a2 :: a3 :: a4 :: xs)) (.int 4) st = .ok a4 st := by
  have h : (4 : Int) < (xs.length : Int) + 1 + 1 + 1 + 1 + 1 := by omega
  simp [ix_tup, atI, ixN, h]
@[simp] theorem ix_t5 (a0 a1 a2 a3 a4 a5 : D) (xs : List D) (st : So) : ixD (.tup (a0 :: a1 :: a2 :: a3 :: a4 :: a5 :: xs)) (.int 5) st = .ok a5 st := by
  have h : (5 : Int) < (xs.length : Int) + 1 + 1 + 1 + 1 + 1 + 1 := by omega
  simp [ix_tup, atI, ixN, h]
@[simp] theorem ix_t6 (a0 a1 a2 a3 a4 a5 a6 : D) (xs : List D) (st : So) : ixD (.tup (a0 :: a1 :: a2 :: a3 :: a4 :: a5 :: a6 :: xs)) (.int 6) st = .ok a6 st := by
  have h : (6 : Int) < (xs.length : Int) + 1 + 1 + 1 + 1 + 1 + 1 + 1 := by omega
  simp [ix_tup, atI, ixN, h]
@[simp] theorem ix_t7 (a0 a1 a2 a3 a4 a5 a6 a7 : D) (xs : List D) (st : So) : ixD (.tup (a0 :: a1 :: a2 :: a3 :: a4 :: a5 :: a6 :: a7 :: xs)) (.int 7) st = .ok a7 st := by
  have h : (7 : Int) < (xs.length : Int) + 1 + 1 + 1 + 1 + 1 + 1 + 1 + 1 := by omega
  simp [ix_tup, atI, ixN, h]
@[simp] theorem ix_t8 (a0 a1 a2 a3 a4 a5 a6 a7 a8 : D) (xs : List D) (st : So) : ixD (.tup (a0 :: a1 :: a2 :: a3 :: a4 :: a5 :: a6 :: a7 :: a8 :: xs)) (.int 8) st = .ok a8 st := by
  have h : (8 : Int) < (xs.length : Int) + 1 + 1 + 1 + 1 + 1 + 1 + 1 + 1 + 1 := by omega
  simp [ix_tup, atI, ixN, h]
theorem nine_of {d : D} (h : tupD d 9 9 = true) : ∃ a b c e f g h i j, d = .tup [a, b, c, e, f, g, h, i, j] := by
  cases d <;> simp [tupD] at h
  rename_i xs
  rcases xs with _ | ⟨a, _ | ⟨b, _ | ⟨c, _ | ⟨e, _ | ⟨f, _ | ⟨g, _ | ⟨h', _ | ⟨i, _ | ⟨j, _ | ⟨z, t⟩⟩⟩⟩⟩⟩⟩⟩⟩⟩ <;> simp at h <;> first | exact ⟨_, _, _, _, _, _, _, _, _, rfl⟩ | omega
theorem cert_nine {d : D} (h : tupD d 9 9 = false) : certD d = false := by
  cases hc : certD d with
  | false => rfl
  | true =>
    exfalso
    unfold certD at hc
    split at hc
    · simp [tupD] at h
    · cases hc
theorem fits_certificate_spec [H_fits_certificate P] {d : D} (hd : d.isDat = true) : calN P (k + 7) "fits_certificate" [d] st = .ok (.bl (certD d)) st := by
  rw [calN_at H_fits_certificate.at_fits_certificate, run_eq rfl]
  have c1 := fun l st => e_glbP (k := k + 6) (H_fits_certificate.con_fits_certificate_SERIALS (P := P)) l st
  have c2 := fun l st => e_glbP (k := k + 6) (H_fits_certificate.con_fits_certificate_KEYS (P := P)) l st
  have c3 := fun l st => e_glbP (k := k + 6) (H_fits_certificate.con_fits_certificate_TIMES (P := P)) l st
  show (evSs (gmN P (k + 6)) b_fits_certificate [some d, none] st).res = _
  unfold b_fits_certificate
  by_cases h9 : tupD d 9 9 = true
  · obtain ⟨a, b, c, e, f, g, h, i, j, rfl⟩ := nine_of h9
    have hs := isDat_tup hd
    have ha := hs a (by simp)
    have hb := hs b (by simp)
    have hc := hs c (by simp)
    have he := hs e (by simp)
    have hf := hs f (by simp)
    have hg := hs g (by simp)
    have hh := hs h (by simp)
    have hi := hs i (by simp)
    have hj := hs j (by simp)
    have l1 : ∀ st, lcGo (fun x => bindTg (.nm 1) x (wipeD [some (.tup [a, b, c, e, f, g, h, i, j]), none] [1])) (evC (gmN P (k + 6)) .none) (evE (gmN P (k + 6)) (.cal "is_whole" (.cons (.ix (.var 0) (.var 1)) (.cons (.int 0) (.cons (.glb "KEYS") .nil))))) [.int 3, .int 4, .int 8] [] st = .ok (.lst ([D.int 3, .int 4, .int 8].map fun x => .bl (match x with | .int 3 => wholeD e 0 4294967295 | .int 4 => wholeD f 0 4294967295 | _ => wholeD j 0 4294967295))) st := fun st =>
      lc_all st _ fun x hx => by
        simp only [List.mem_cons, List.not_mem_nil, or_false] at hx
        rcases hx with rfl | rfl | rfl <;> simp [wipeD, c2, is_whole_spec _ _ _ _ he, is_whole_spec _ _ _ _ hf, is_whole_spec _ _ _ _ hj]
    have l2 : ∀ p q r st, biD .all [.lst [.bl p, .bl q, .bl r]] st = .ok (.bl (p && (q && r))) st := fun p q r st => by
      rw [all_lst _ _ (show blsOf [.bl p, .bl q, .bl r] = some [p, q, r] from rfl)]; simp
    cases g with
    | int s =>
      simp only [certD]
      simp [c1, c2, c3, is_tuple_of_spec _ _ _ _ hd, h9, is_whole_spec _ _ _ _ ha, fits_name_spec _ _ hb, fits_name_spec _ _ hc, l1, l2, is_whole_spec _ _ _ _ hg, is_whole_spec _ _ _ _ hh, fits_parts_spec _ _ hi]
      cases wholeD a 0 1000000 <;> cases wordsD b 1 4 <;> cases wordsD c 1 4 <;> cases wholeD e 0 4294967295 <;> cases wholeD f 0 4294967295 <;> cases wholeD j 0 4294967295 <;> simp
    | _ =>
      simp only [certD]
      simp [c1, c2, c3, is_tuple_of_spec _ _ _ _ hd, h9, is_whole_spec _ _ _ _ ha, fits_name_spec _ _ hb, fits_name_spec _ _ hc, l1, l2, is_whole_spec _ _ _ _ hg]
      cases wholeD a 0 1000000 <;> cases wordsD b 1 4 <;> cases wordsD c 1 4 <;> cases wholeD e 0 4294967295 <;> cases wholeD f 0 4294967295 <;> cases wholeD j 0 4294967295 <;> simp [wholeD]
  · simp only [Bool.not_eq_true] at h9
    simp [c1, is_tuple_of_spec _ _ _ _ hd, h9, cert_nine h9]
theorem need_certificate_spec [H_need_certificate P] {d : D} (hd : d.isDat = true) : calN P (k + 8) "need_certificate" [d] st = if certD d then .ok .non st else .exc "InvalidCertificate" .non st := by
  rw [calN_at H_need_certificate.at_need_certificate, run_eq rfl]
  simp [f_need_certificate, b_need_certificate, fits_certificate_spec _ _ hd]
  cases certD d <;> simp
/-- what stands at a word among parts -/
def partOf (i : D) (w : Str) : D := match (pseq i).bind pairsK with
  | some (ks, ds) => (dlastD ks ds (.inr w)).getD .non
  | none => .non
theorem part_in_spec [H_part_in P] {a b c e f g h i j : D} {xs : List D} {q : List Key × List D} (w : Str) (h1 : i = .tup xs) (h2 : pairsK xs = some q) : calN P (k + 1) "part_in" [.tup [a, b, c, e, f, g, h, i, j], .str w] st = .ok (partOf i w) st := by
  subst h1
  rw [calN_at H_part_in.at_part_in, run_eq rfl]
  have e1 : pseq (.tup xs) = some xs := rfl
  simp [f_part_in, b_part_in, dgtL_of e1 h2, dgtR, keyD, partOf, e1, h2]
theorem law_part_spec [H_law_part P] {a b c e f g h i j : D} {xs : List D} {q : List Key × List D} (w : Str) (h1 : i = .tup xs) (h2 : pairsK xs = some q) : calN P (k + 1) "_law_part" [.tup [a, b, c, e, f, g, h, i, j], .str w] st = .ok (partOf i w) st := by
  subst h1
  rw [calN_at H_law_part.at_law_part, run_eq rfl]
  have e1 : pseq (.tup xs) = some xs := rfl
  simp [f_law_part, b_law_part, dgtL_of e1 h2, dgtR, keyD, partOf, e1, h2]
theorem pairs_some {xs : List D} (h : xs.all pairD = true) : ∃ q, pairsK xs = some q := by
  induction xs with
  | nil => exact ⟨_, rfl⟩
  | cons x xs ih =>
    simp only [List.all_cons, Bool.and_eq_true] at h
    obtain ⟨q, hq⟩ := ih h.2
    obtain ⟨w, v, rfl⟩ := pair_ok h.1
    exact ⟨_, by simp [pairsK, keyD, hq]; rfl⟩
end
end CP

set_option Elab.async false
set_option linter.all false
set_option maxRecDepth 100000
set_option autoImplicit false
/-! LibS: sorted lists. -/
namespace CP
open PySem L2
theorem sortR_of {xs : List D} (h : sortOk xs = true) (st : So) : sortR xs st = .ok (.lst (isortD xs)) st := by
  unfold sortR
  rw [if_pos h]
/-! ### a dict of texts in the store, behind the cup -/
def keysS (ks : List Str) : List Key := ks.map Sum.inr
structure DCup (rest : So) (ks : List Str) (ds : List D) (st : So) : Prop where
  ex : Cup (rest ++ [.dct (keysS ks) ds]) st
section
variable {P : Pg} {k : Nat} {rest st : So} {ks : List Str} {ds : List D}
theorem cup_get (h : Cup rest st) (i : Nat) : st[i + 1]? = rest[i]? := by
  obtain ⟨a, b, rfl⟩ := h
  rfl
theorem cup_len (h : Cup rest st) : st.length = rest.length + 1 := by
  obtain ⟨a, b, rfl⟩ := h
  rfl
theorem cup_app (h : Cup rest st) (o : Ob) : Cup (rest ++ [o]) (st ++ [o]) := by
  obtain ⟨a, b, rfl⟩ := h
  exact ⟨a, b, rfl⟩
theorem cup_set (h : Cup rest st) (i : Nat) (o : Ob) : Cup (rest.set i o) (st.set (i + 1) o) := by
  obtain ⟨a, b, rfl⟩ := h
  exact ⟨a, b, rfl⟩
theorem DCup.at (h : DCup rest ks ds st) : st[rest.length + 1]? = some (.dct (keysS ks) ds) := by
  rw [cup_get h.ex, List.getElem?_append_right (Nat.le_refl _), Nat.sub_self]; rfl
theorem DCup.new (h : Cup rest st) : DCup rest [] [] (st ++ [.dct [] []]) := ⟨cup_app h _⟩
theorem DCup.set (h : DCup rest ks ds st) (o : Ob) : Cup (rest ++ [o]) (st.set (rest.length + 1) o) := by
  have := cup_set h.ex rest.length o
  rwa [List.set_append_right _ _ (Nat.le_refl _), Nat.sub_self] at this
/-- d[w] = v -/
theorem DCup.put (h : DCup rest ks ds st) (hz : ks.length < sizeLine) (w : Str) (v : D) : ∃ st1, putOb (rest.length + 1) (.str w) v st = some st1 ∧
    (dgetD (keysS ks) ds (.inr w) = none → DCup rest (ks ++ [w]) (ds ++ [v]) st1) ∧ ((dgetD (keysS ks) ds (.inr w)).isSome = true → DCup rest ks (dsetD (keysS ks) ds (.inr w) v) st1) := by
  refine ⟨st.set (rest.length + 1) (dputD (keysS ks) ds (.inr w) v), ?_, fun hn => ?_, fun hs => ?_⟩
  · unfold putOb
    rw [h.at]
    simp [keyD, keysS, hz]
  · have : dputD (keysS ks) ds (.inr w) v = .dct (keysS (ks ++ [w])) (ds ++ [v]) := by
      unfold dputD
      rw [hn]
      simp [keysS]
    rw [this]
    exact ⟨h.set _⟩
  · obtain ⟨d, hd⟩ := Option.isSome_iff_exists.mp hs
    have : dputD (keysS ks) ds (.inr w) v = .dct (keysS ks) (dsetD (keysS ks) ds (.inr w) v) := by
      unfold dputD
      rw [hd]
    rw [this]
    exact ⟨h.set _⟩
/-- the pairs of a dict, by their words -/
def pairsOf (ks : List Str) (ds : List D) : List D := (isortD (ks.map D.str)).map fun k => match k with
  | .str w => .tup [.str w, (dgetD (keysS ks) ds (.inr w)).getD .non]
  | _ => .non
theorem law_parts_spec [H_law_parts P] (h : DCup rest ks ds st) (hl : ks.length < 64) (hs : sortOk (ks.map D.str) = true) (hd : ks.length = ds.length) : calN P (k + 1) "_law_parts" [.ref (rest.length + 1)] st = .ok (.tup (pairsOf ks ds)) st := by
  rw [calN_at H_law_parts.at_law_parts, run_eq rfl]
  have e1 : keysOf (.ref (rest.length + 1)) st = some (keysS ks) := by
    unfold keysOf
    simp only [h.at]
  have e2 : (keysS ks).map keyVal = ks.map D.str := by simp [keysS, keyVal, Function.comp_def]
  have e3 : biD .sorted [.ref (rest.length + 1)] st = .ok (.lst (isortD (ks.map D.str))) st := by
    show (match keysOf (.ref (rest.length + 1)) st with
      | some ks => if ks.length < 64 then sortR (ks.map keyVal) st else .bad
      | none => match seqOf (.ref (rest.length + 1)) st with
        | some xs => sortR xs st
        | none => .bad) = _
    rw [e1]
    simp only
    rw [if_pos (by simpa [keysS] using hl), e2, sortR_of hs]
  simp [f_law_parts, b_law_parts, e3]
  rw [lc_map (fun k => match k with
    | .str w => .tup [.str w, (dgetD (keysS ks) ds (.inr w)).getD .non]
    | _ => .non) fun x hx => ?_]
  · simp [pairsOf]
  · have hx : x ∈ ks.map D.str := (isortD_perm _).mem_iff.mp hx
    obtain ⟨w, hw, rfl⟩ := List.mem_map.mp hx
    refine ⟨_, rfl, rfl, ?_⟩
    have there : ∀ {ks : List Str} {ds : List D}, ks.length = ds.length → w ∈ ks → ∃ d, dgetD (keysS ks) ds (.inr w) = some d := by
      intro ks
      induction ks with
      | nil => intro ds _ hw; cases hw
      | cons y ks ih =>
        intro ds hl hw
        cases ds with
        | nil => cases hl
        | cons d ds =>
          show ∃ d', (if (Sum.inr y : Key) = Sum.inr w then some d else dgetD (keysS ks) ds (.inr w)) = some d'
          by_cases e : y = w
          · exact ⟨d, by rw [if_pos (by rw [e])]⟩
          · rw [if_neg (fun z => e (Sum.inr.inj z))]
            rcases List.mem_cons.mp hw with z | z
            · exact absurd z.symm e
            · exact ih (by simpa using hl) z
    obtain ⟨d, hd'⟩ := there hd hw
    have e4 : ixD (.ref (rest.length + 1)) (.str w) st = .ok d st := by
      show ixO (rest.length + 1) (.str w) st = _
      unfold ixO
      rw [h.at]
      simp [keyD, hd']
    simp [wipeD, e4, hd']
end
end CP

set_option Elab.async false
set_option linter.all false
set_option maxRecDepth 100000
set_option autoImplicit false
/-! LibS1: certificates are plain data; parts out of a dict. -/
namespace CP
open PySem L2
theorem dep_tup {xs : List D} {n : Nat} (h : ∀ x ∈ xs, x.dep ≤ n) : (D.tup xs).dep ≤ n + 1 := by
  simp only [D.dep, Nat.add_le_add_iff_right]
  exact deps_le.mpr h
theorem dat_tup {xs : List D} (h : ∀ x ∈ xs, x.isDat = true) : (D.tup xs).isDat = true := by
  simp only [D.isDat]
  exact isDats_all.mpr h
theorem many_good {p : D → Bool} {n : Nat} {d : D} {lo hi : Int} (hp : ∀ x, p x = true → x.isDat = true ∧ x.dep ≤ n) (h : manyD p d lo hi = true) : d.isDat = true ∧ d.dep ≤ n + 1 := by
  cases d <;> simp [manyD] at h
  exact ⟨dat_tup fun x hx => (hp x (h.2.1 x hx)).1, dep_tup fun x hx => (hp x (h.2.1 x hx)).2⟩
theorem whole_good {d : D} {lo hi : Int} (h : wholeD d lo hi = true) : d.isDat = true ∧ d.dep = 0 := by
  cases d <;> first | exact ⟨rfl, rfl⟩ | (simp [wholeD] at h)
theorem wIn_good {ws : List D} {x : D} (h : wIn ws x = true) : x.isDat = true ∧ x.dep ≤ 0 := by
  obtain ⟨a, rfl⟩ := isStr_iff.mp (wIn_str h)
  exact ⟨rfl, Nat.le_refl _⟩
theorem bth_or {c p q : Bool} (h : bth c p q = true) : p = true ∨ q = true := by cases c <;> simp_all
theorem value_good {w : Str} {v : D} (h : valueD w v = true) : v.isDat = true ∧ v.dep ≤ 3 := by
  unfold valueD at h
  have up : ∀ {n : Nat}, (v.isDat = true ∧ v.dep ≤ n) → n ≤ 3 → v.isDat = true ∧ v.dep ≤ 3 := fun h l => ⟨h.1, Nat.le_trans h.2 l⟩
  rcases bth_or h with h | h
  · exact up ⟨(whole_good h).1, Nat.le_of_eq (whole_good h).2⟩ (by omega)
  rcases bth_or h with h | h
  · unfold basicD at h
    split at h
    · obtain ⟨h1, h2⟩ := whole_good h
      refine up (n := 1) ⟨by simp [D.isDat, isDats, h1], by simp [D.dep, deps, h2]⟩ (by omega)
    · cases h
  rcases bth_or h with h | h
  · exact up (many_good (n := 2) (fun x hx => ⟨(sub_of hx).good.1, (sub_of hx).good.2.1⟩) h) (by omega)
  rcases bth_or h with h | h
  · exact up (many_good (n := 1) (fun x hx => words_good hx) h) (by omega)
  rcases bth_or h with h | h
  · exact up (many_good (n := 1) (fun x hx => words_good (map_words hx)) h) (by omega)
  rcases bth_or h with h | h
  · exact up (many_good (n := 2) (fun x hx => ⟨(oth_of hx).good.1, (oth_of hx).good.2.1⟩) h) (by omega)
  rcases bth_or h with h | h
  · unfold oddD at h
    split at h
    · obtain ⟨h1, h2⟩ := word_good h
      refine up (n := 1) ⟨by simp [D.isDat, isDats, h1], by simp [D.dep, deps, h2]⟩ (by omega)
    · cases h
  rcases bth_or h with h | h
  · exact up (many_good (n := 0) (fun x hx => ⟨(word_good hx).1, Nat.le_of_eq (word_good hx).2⟩) h) (by omega)
  rcases bth_or h with h | h
  · cases v <;> simp [limD] at h
    exact up (n := 1) ⟨dat_tup fun x hx => (whole_good (h.2.1 x hx)).1, dep_tup fun x hx => Nat.le_of_eq (whole_good (h.2.1 x hx)).2⟩ (by omega)
  rcases bth_or h with h | h
  · exact up (many_good (n := 0) (fun x hx => wIn_good hx) h) (by omega)
  · exact up (many_good (n := 0) (fun x hx => wIn_good hx) h) (by omega)
theorem pair_good {d : D} (h : pairD d = true) : d.isDat = true ∧ d.dep ≤ 4 := by
  obtain ⟨w, v, rfl⟩ := pair_ok h
  simp only [pairD, Bool.and_eq_true] at h
  obtain ⟨h1, h2⟩ := value_good h.2
  exact ⟨by simp [D.isDat, isDats, h1], by simp [D.dep, deps]; omega⟩
theorem parts_good {d : D} (h : partsD d = true) : d.isDat = true ∧ d.dep ≤ 5 := by
  cases d <;> simp [partsD] at h
  exact ⟨dat_tup fun x hx => (pair_good (h.2.1 x hx)).1, dep_tup fun x hx => (pair_good (h.2.1 x hx)).2⟩
/-- the form of a certificate -/
structure CertF (a b c e f g h i j : D) (xs : List D) (ks : List Key) (ds : List D) : Prop where
  wa : wholeD a 0 1000000 = true
  wb : wordsD b 1 4 = true
  wc : wordsD c 1 4 = true
  we : wholeD e 0 4294967295 = true
  wf : wholeD f 0 4294967295 = true
  wj : wholeD j 0 4294967295 = true
  wg : wholeD g 0 1000000000 = true
  wh : ∃ s u, g = .int s ∧ h = .int u ∧ s ≤ u ∧ u ≤ 1000000000
  wi : partsD i = true
  ei : i = .tup xs
  pr : pairsK xs = some (ks, ds)
theorem cert_of {d : D} (h : certD d = true) : ∃ a b c e f g h i j xs ks ds, d = .tup [a, b, c, e, f, g, h, i, j] ∧ CertF a b c e f g h i j xs ks ds := by
  unfold certD at h
  split at h
  · rename_i a b c e f g h' i j
    simp only [Bool.and_eq_true] at h
    obtain ⟨h1, h2, h3, ⟨h4, h5, h6⟩, h7⟩ := h
    split at h7
    · rename_i s
      simp only [Bool.and_eq_true] at h7
      obtain ⟨h8, h9, h10⟩ := h7
      have hi := h10
      unfold partsD at hi
      split at hi
      · rename_i xs
        simp only [Bool.and_eq_true] at hi
        obtain ⟨⟨ks, ds⟩, hq⟩ := pairs_some hi.2.1
        cases h' <;> simp [wholeD] at h9
        exact ⟨_, _, _, _, _, _, _, _, _, xs, ks, ds, rfl, h1, h2, h3, h4, h5, h6, h8, ⟨_, _, rfl, rfl, h9.1, h9.2⟩, h10, rfl, hq⟩
      · cases hi
    · cases h7
  · cases h
theorem cert_good {d : D} (h : certD d = true) : d.isDat = true ∧ d.dep ≤ 6 := by
  obtain ⟨a, b, c, e, f, g, h, i, j, xs, ks, ds, rfl, F⟩ := cert_of h
  obtain ⟨s, u, rfl, rfl, _⟩ := F.wh
  have g1 := whole_good F.wa
  have g2 := words_good F.wb
  have g3 := words_good F.wc
  have g4 := whole_good F.we
  have g5 := whole_good F.wf
  have g6 := whole_good F.wj
  have g7 := parts_good F.wi
  refine ⟨by simp [D.isDat, isDats, g1.1, g2.1, g3.1, g4.1, g5.1, g6.1, g7.1], ?_⟩
  simp only [D.dep, deps]
  omega
/-! ### parts out of a dict -/
theorem strs_cmp {ks : List Str} : ∀ a ∈ ks.map D.str, ∀ b ∈ ks.map D.str, ∃ o, cmpD a b = some o := fun a ha b hb => by
  obtain ⟨x, _, rfl⟩ := List.mem_map.mp ha
  obtain ⟨y, _, rfl⟩ := List.mem_map.mp hb
  obtain ⟨o, e, _⟩ := cm_str x y
  exact ⟨o, e⟩
theorem strs_sortOk (ks : List Str) : sortOk (ks.map D.str) = true := sortOk_iff.mpr ⟨strs_cmp, fun a ha => by
  obtain ⟨x, _, rfl⟩ := List.mem_map.mp ha; rfl, by
    refine Nat.le_trans ((deps_le (n := 0)).mpr fun a ha => ?_) (by omega)
    obtain ⟨x, _, rfl⟩ := List.mem_map.mp ha; exact Nat.le_refl _⟩
/-- put in order, without doubles: ascending -/
theorem asc_of_le : ∀ {xs : List D}, (∀ a ∈ xs, ∀ b ∈ xs, ∃ o, cmpD a b = some o) → xs.Nodup → xs.Pairwise (fun a b => leT a b = true) → ascD xs = true
  | [], _, _, _ => rfl
  | [_], _, _, _ => rfl
  | x :: y :: r, hc, nd, h => by
    obtain ⟨n1, n2⟩ := List.nodup_cons.mp nd
    obtain ⟨h1, h2⟩ := List.pairwise_cons.mp h
    obtain ⟨o, e⟩ := hc x List.mem_cons_self y (List.mem_cons_of_mem _ List.mem_cons_self)
    have l := h1 y List.mem_cons_self
    rw [leT_cmp e] at l
    have ne : o ≠ .eq := fun z => by
      subst z
      exact n1 (by rw [cmpD_eq e]; exact List.mem_cons_self)
    have ol : o = .lt := by cases o <;> first | rfl | exact absurd rfl ne | (simp at l)
    unfold ascD
    rw [e, ol, asc_of_le (fun a ha b hb => hc a (List.mem_cons_of_mem _ ha) b (List.mem_cons_of_mem _ hb)) n2 h2]
    rfl
theorem asc_isort {xs : List D} (hc : ∀ a ∈ xs, ∀ b ∈ xs, ∃ o, cmpD a b = some o) (nd : xs.Nodup) : ascD (isortD xs) = true :=
  asc_of_le (fun a ha b hb => hc a ((isortD_perm xs).mem_iff.mp ha) b ((isortD_perm xs).mem_iff.mp hb)) ((isortD_perm xs).nodup_iff.mpr nd) (isortD_le hc)
theorem dget_zip : ∀ {ks : List Str} {ds : List D} {w : Str}, ks.length = ds.length → w ∈ ks → ∃ d, dgetD (keysS ks) ds (.inr w) = some d ∧ (w, d) ∈ ks.zip ds
  | [], _, _, _, h => by cases h
  | y :: ks, [], _, hl, _ => by cases hl
  | y :: ks, d :: ds, w, hl, hw => by
    show ∃ d', (if (Sum.inr y : Key) = Sum.inr w then some d else dgetD (keysS ks) ds (.inr w)) = some d' ∧ _
    by_cases e : y = w
    · exact ⟨d, by rw [if_pos (by rw [e])], by rw [e]; exact List.mem_cons_self⟩
    · rw [if_neg (fun z => e (Sum.inr.inj z))]
      rcases List.mem_cons.mp hw with z | z
      · exact absurd z.symm e
      · obtain ⟨d', h1, h2⟩ := dget_zip (ks := ks) (ds := ds) (w := w) (by simpa using hl) z
        exact ⟨d', h1, List.mem_cons_of_mem _ h2⟩
theorem dget_no : ∀ {ks : List Str} {ds : List D} {w : Str}, w ∉ ks → dgetD (keysS ks) ds (.inr w) = none
  | [], _, _, _ => rfl
  | y :: ks, [], _, _ => rfl
  | y :: ks, d :: ds, w, hw => by
    show (if (Sum.inr y : Key) = Sum.inr w then some d else dgetD (keysS ks) ds (.inr w)) = none
    rw [if_neg (fun z => hw (by rw [Sum.inr.inj z]; exact List.mem_cons_self))]
    exact dget_no fun h => hw (List.mem_cons_of_mem _ h)
/-- words and values that make parts -/
structure PartsOk (ks : List Str) (ds : List D) : Prop where
  nd : ks.Nodup
  len : ks.length = ds.length
  few : ks.length ≤ 12
  ok : ∀ w d, (w, d) ∈ ks.zip ds → inD (.str w) partsW = true ∧ valueD w d = true
theorem PartsOk.parts {ks : List Str} {ds : List D} (h : PartsOk ks ds) : partsD (.tup (pairsOf ks ds)) = true := by
  have mem : ∀ k ∈ isortD (ks.map D.str), ∃ w ∈ ks, k = .str w := fun k hk => by
    obtain ⟨w, hw, e⟩ := List.mem_map.mp ((isortD_perm _).mem_iff.mp hk)
    exact ⟨w, hw, e.symm⟩
  simp only [partsD, Bool.and_eq_true, decide_eq_true_eq, List.all_eq_true]
  refine ⟨?_, fun x hx => ?_, ?_⟩
  · unfold pairsOf
    rw [List.length_map, (isortD_perm _).length_eq, List.length_map]
    have := h.few
    omega
  · unfold pairsOf at hx
    obtain ⟨k, hk, rfl⟩ := List.mem_map.mp hx
    obtain ⟨w, hw, rfl⟩ := mem k hk
    obtain ⟨d, e, hz⟩ := dget_zip h.len hw
    obtain ⟨q1, q2⟩ := h.ok w d hz
    simp [pairD, e, q1, q2]
  · have e : (pairsOf ks ds).map keyP = isortD (ks.map D.str) := by
      unfold pairsOf
      rw [List.map_map]
      conv => rhs; rw [← List.map_id (isortD (ks.map D.str))]
      refine List.map_congr_left fun k hk => ?_
      obtain ⟨w, hw, rfl⟩ := mem k hk
      rfl
    rw [e]
    refine asc_isort strs_cmp ?_
    exact List.Pairwise.map _ (fun a b n z => n (by injection z)) h.nd
theorem PartsOk.nil : PartsOk [] [] := ⟨List.nodup_nil, rfl, by simp, fun w d h => by simp at h⟩
theorem PartsOk.snoc {ks : List Str} {ds : List D} (h : PartsOk ks ds) {w : Str} {v : D} (hn : w ∉ ks) (hl : ks.length < 12) (hw : inD (.str w) partsW = true) (hv : valueD w v = true) : PartsOk (ks ++ [w]) (ds ++ [v]) := by
  refine ⟨?_, by simp [h.len], by simp; omega, fun w' d' hz => ?_⟩
  · rw [List.nodup_append]
    exact ⟨h.nd, by simp, fun a ha b hb z => hn (by rw [← List.mem_singleton.mp hb, ← z]; exact ha)⟩
  · rw [List.zip_append h.len] at hz
    rcases List.mem_append.mp hz with hz | hz
    · exact h.ok w' d' hz
    · simp at hz
      obtain ⟨rfl, rfl⟩ := hz
      exact ⟨hw, hv⟩
end CP

set_option Elab.async false
set_option linter.all false
set_option maxRecDepth 100000
set_option autoImplicit false
/-! LibV: defs shared by laws. -/
namespace CP
open PySem L2
def b_number_row : Ss :=
    (.cons (.set 1 (.tup .nil))
    (.cons (.whl (.cmp .gt (.var 0) (.int 127)) (.cons (.par 1 0 (.bin .add (.var 1) (.tup (.cons (.bin .add (.int 128) (.bin .mod (.var 0) (.int 128))) .nil))) (.bin .fdiv (.var 0) (.int 128)))
    .nil))
    (.cons (.ret (.bin .add (.var 1) (.tup (.cons (.var 0) .nil))))
    .nil)))
def f_number_row : Fn := ⟨"number_row", 1, 2, b_number_row⟩
class H_number_row (P : Pg) : Prop where
  at_number_row : P.fn? "number_row" = some f_number_row
def b_value_row : Ss :=
    (.cons (.ite (.isi (.var 0) "bool") (.cons (.ret (.tup (.cons (.int 4) (.cons (.ite (.var 0) (.int 1) (.int 0)) .nil))))
    .nil) .nil)
    (.cons (.ite (.isi (.var 0) "int") (.cons (.ret (.bin .add (.tup (.cons (.int 1) .nil)) (.cal "number_row" (.cons (.bin .add (.var 0) (.int 1)) .nil))))
    .nil) .nil)
    (.cons (.ite (.isi (.var 0) "str") (.cons (.ret (.bin .add (.bin .add (.tup (.cons (.int 2) .nil)) (.cal "number_row" (.cons (.bi .len (.cons (.var 0) .nil)) .nil))) (.bi .tuple (.cons (.lc (.bi .ord (.cons (.var 3) .nil)) (.nm 3) (.seq (.var 0)) .none [3]) .nil))))
    .nil) .nil)
    (.cons (.set 1 (.bin .add (.tup (.cons (.int 3) .nil)) (.cal "number_row" (.cons (.bi .len (.cons (.var 0) .nil)) .nil))))
    (.cons (.for (.nm 2) (.seq (.var 0)) (.cons (.set 1 (.bin .add (.var 1) (.cal "value_row" (.cons (.var 2) .nil))))
    .nil))
    (.cons (.ret (.var 1))
    .nil))))))
def f_value_row : Fn := ⟨"value_row", 1, 4, b_value_row⟩
class H_value_row (P : Pg) : Prop extends H_number_row P where
  at_value_row : P.fn? "value_row" = some f_value_row
def b_seal_by : Ss :=
    (.cons (.set 2 (.bin .mod (.var 0) (.glb "PRIME")))
    (.cons (.for (.nm 3) (.seq (.var 1)) (.cons (.set 2 (.bin .mod (.bin .add (.bin .add (.bin .mul (.var 2) (.glb "TURN")) (.var 3)) (.int 1)) (.glb "PRIME")))
    .nil))
    (.cons (.ret (.bin .mod (.bin .add (.bin .mul (.var 2) (.var 2)) (.var 0)) (.glb "PRIME")))
    .nil)))
def f_seal_by : Fn := ⟨"seal_by", 2, 4, b_seal_by⟩
class H_seal_by (P : Pg) : Prop where
  at_seal_by : P.fn? "seal_by" = some f_seal_by
  con_seal_by_PRIME : P.con? "PRIME" = some (.int 4294967291)
  con_seal_by_TURN : P.con? "TURN" = some (.int 257)
def b_own_seal : Ss :=
    (.cons (.ret (.cal "seal_by" (.cons (.ix (.var 0) (.var 1)) (.cons (.cal "value_row" (.cons (.sl (.var 0) .none (.some (.glb "LAST"))) .nil)) .nil))))
    .nil)
def f_own_seal : Fn := ⟨"own_seal", 2, 2, b_own_seal⟩
class H_own_seal (P : Pg) : Prop extends H_seal_by P, H_value_row P where
  at_own_seal : P.fn? "own_seal" = some f_own_seal
  con_own_seal_LAST : P.con? "LAST" = some (.int 8)
def b_fits_seal : Ss :=
    (.cons (.ret (.cmp .eq (.ix (.var 0) (.glb "LAST")) (.cal "own_seal" (.cons (.var 0) (.cons (.var 1) .nil)))))
    .nil)
def f_fits_seal : Fn := ⟨"fits_seal", 2, 2, b_fits_seal⟩
class H_fits_seal (P : Pg) : Prop extends H_own_seal P where
  at_fits_seal : P.fn? "fits_seal" = some f_fits_seal
  con_fits_seal_LAST : P.con? "LAST" = some (.int 8)
def b_law_groups : Ss :=
    (.cons (.set 1 (.mls .nil))
    (.cons (.whl (.cmp .gt (.var 0) (.int 127)) (.cons (.expr (.app (.var 1) (.bin .add (.int 128) (.bin .mod (.bi .int (.cons (.var 0) .nil)) (.int 128)))))
    (.cons (.set 0 (.bin .fdiv (.var 0) (.int 128)))
    .nil)))
    (.cons (.ret (.bin .add (.var 1) (.lst (.cons (.var 0) .nil))))
    .nil)))
def f_law_groups : Fn := ⟨"_law_groups", 1, 2, b_law_groups⟩
class H_law_groups (P : Pg) : Prop where
  at_law_groups : P.fn? "_law_groups" = some f_law_groups
def b_law_row : Ss :=
    (.cons (.ite (.isi (.var 0) "bool") (.cons (.ret (.lst (.cons (.int 4) (.cons (.ite (.var 0) (.int 1) (.int 0)) .nil))))
    .nil) .nil)
    (.cons (.ite (.isi (.var 0) "int") (.cons (.ret (.bin .add (.lst (.cons (.int 1) .nil)) (.cal "_law_groups" (.cons (.bin .add (.var 0) (.int 1)) .nil))))
    .nil) .nil)
    (.cons (.ite (.isi (.var 0) "str") (.cons (.ret (.bin .add (.bin .add (.lst (.cons (.int 2) .nil)) (.cal "_law_groups" (.cons (.bi .len (.cons (.var 0) .nil)) .nil))) (.lc (.bi .ord (.cons (.var 3) .nil)) (.nm 3) (.seq (.var 0)) .none [3])))
    .nil) .nil)
    (.cons (.set 1 (.bin .add (.lst (.cons (.int 3) .nil)) (.cal "_law_groups" (.cons (.bi .len (.cons (.var 0) .nil)) .nil))))
    (.cons (.for (.nm 2) (.seq (.var 0)) (.cons (.set 1 (.bin .add (.var 1) (.cal "_law_row" (.cons (.var 2) .nil))))
    .nil))
    (.cons (.ret (.var 1))
    .nil))))))
def f_law_row : Fn := ⟨"_law_row", 1, 4, b_law_row⟩
class H_law_row (P : Pg) : Prop extends H_law_groups P where
  at_law_row : P.fn? "_law_row" = some f_law_row
def b_law_seal : Ss :=
    (.cons (.set 2 (.bin .mod (.bi .int (.cons (.var 0) .nil)) (.int 4294967291)))
    (.cons (.for (.nm 3) (.seq (.var 1)) (.cons (.set 2 (.bin .mod (.bi .int (.cons (.bin .add (.bin .add (.bin .mul (.var 2) (.int 257)) (.var 3)) (.int 1)) .nil)) (.int 4294967291)))
    .nil))
    (.cons (.ret (.bin .mod (.bi .int (.cons (.bin .add (.bin .mul (.var 2) (.var 2)) (.var 0)) .nil)) (.int 4294967291)))
    .nil)))
def f_law_seal : Fn := ⟨"_law_seal", 2, 4, b_law_seal⟩
class H_law_seal (P : Pg) : Prop where
  at_law_seal : P.fn? "_law_seal" = some f_law_seal
def b_law_sealed_list : Ss :=
    (.cons (.ret (.bin .add (.sl (.var 0) .none (.some (.int 8))) (.tup (.cons (.cal "_law_seal" (.cons (.ix (.var 0) (.int 1)) (.cons (.cal "_law_row" (.cons (.sl (.var 0) .none (.some (.int 8))) .nil)) .nil))) .nil))))
    .nil)
def f_law_sealed_list : Fn := ⟨"_law_sealed_list", 1, 1, b_law_sealed_list⟩
class H_law_sealed_list (P : Pg) : Prop extends H_law_seal P, H_law_row P where
  at_law_sealed_list : P.fn? "_law_sealed_list" = some f_law_sealed_list
end CP

set_option Elab.async false
set_option linter.all false
set_option maxRecDepth 100000
set_option autoImplicit false
/-! LibV1: rows and seals. -/
namespace CP
open PySem L2
def groupsN : Nat → Int → List Int
  | 0, n => [n]
  | f + 1, n => if 127 < n then (128 + n % 128) :: groupsN f (n / 128) else [n]
abbrev groups (n : Int) : List Int := groupsN 6 n
theorem groupsN_len : ∀ (f : Nat) (n : Int), 1 ≤ (groupsN f n).length ∧ (groupsN f n).length ≤ f + 1
  | 0, n => ⟨Nat.le_refl _, Nat.le_refl _⟩
  | f + 1, n => by
    unfold groupsN
    split
    · have := groupsN_len f (n / 128)
      simp; omega
    · simp
mutual
def rowOf : D → List Int
  | .bl b => [4, if b then 1 else 0]
  | .int i => 1 :: groups (i + 1)
  | .str x => 2 :: (groups x.length ++ x.cps.toList.map Int.ofNat)
  | .tup xs => 3 :: (groups xs.length ++ rowsOf xs)
  | _ => []
def rowsOf : List D → List Int
  | [] => []
  | x :: xs => rowOf x ++ rowsOf xs
end
mutual
def rowOk : D → Bool
  | .bl _ => true
  | .int i => decide (-1 ≤ i) && decide (i < 1000000000000)
  | .str x => decide (x.length < 1000000)
  | .tup xs => decide (xs.length < 1000000) && rowsOk xs
  | _ => false
def rowsOk : List D → Bool
  | [] => true
  | x :: xs => rowOk x && rowsOk xs
end
abbrev iD (ns : List Int) : List D := ns.map D.int
theorem rowsOk_all : ∀ {xs : List D}, rowsOk xs = true ↔ ∀ d ∈ xs, rowOk d = true
  | [] => by simp [rowsOk]
  | x :: xs => by simp [rowsOk, rowsOk_all (xs := xs)]
mutual
theorem rowOk_dat : ∀ {d : D}, rowOk d = true → d.isDat = true
  | .bl _, _ => rfl
  | .int _, _ => rfl
  | .str _, _ => rfl
  | .tup xs, h => by
    simp only [rowOk, Bool.and_eq_true] at h
    rw [D.isDat]
    exact rowsOk_dat h.2
  | .non, h => by simp [rowOk] at h
  | .lst _, h => by simp [rowOk] at h
  | .scr _, h => by simp [rowOk] at h
  | .ref _, h => by simp [rowOk] at h
theorem rowsOk_dat : ∀ {xs : List D}, rowsOk xs = true → isDats xs = true
  | [], _ => rfl
  | x :: xs, h => by
    simp only [rowsOk, Bool.and_eq_true] at h
    rw [isDats, rowOk_dat h.1, rowsOk_dat h.2]
    rfl
end
section
variable {P : Pg} (k : Nat)
theorem nr_loop {G : Gm} (st : So) : ∀ (f : Nat) (n : Int) (acc : List Int) (t : Nat), 0 ≤ n → n < 128 ^ (f + 1) → f < t → acc.length + f + 1 ≤ 1000 → ∃ m ns, ns ++ [m] = acc ++ groupsN f n ∧
    whileGo (evB G (.cmp .gt (.var 0) (.int 127))) (evSs G (.cons (.par 1 0 (.bin .add (.var 1) (.tup (.cons (.bin .add (.int 128) (.bin .mod (.var 0) (.int 128))) .nil))) (.bin .fdiv (.var 0) (.int 128)))
    .nil)) t [some (.int n), some (.tup (iD acc))] st = .nx [some (.int m), some (.tup (iD ns))] st
  | f, n, acc, 0, _, _, h, _ => absurd h (Nat.not_lt_zero _)
  | 0, n, acc, t + 1, h0, h1, _, _ => by
    refine ⟨n, acc, rfl, ?_⟩
    unfold whileGo
    have : ¬ (127 < n) := by simp at h1; omega
    simp [this]
  | f + 1, n, acc, t + 1, h0, h1, ht, hl => by
    unfold whileGo groupsN
    by_cases g : 127 < n
    · have q := nr_loop (G := G) st f (n / 128) (acc ++ [128 + n % 128]) t (by omega) (by rw [Int.pow_succ] at h1; exact Int.ediv_lt_of_lt_mul (by omega) h1) (by omega) (by simp; omega)
      obtain ⟨m, ns, e1, e2⟩ := q
      refine ⟨m, ns, by rw [e1, if_pos g]; simp, ?_⟩
      have z : acc.length + 1 ≤ sizeLine := le_size (by omega)
      simp only [iD, List.map_append, List.map_cons, List.map_nil] at e2
      simp [g, z, e2]
    · refine ⟨n, acc, by rw [if_neg g], ?_⟩
      simp [g]
theorem number_row_spec [H_number_row P] (st : So) {n : Int} (h0 : 0 ≤ n) (h1 : n < 10000000000000) : calN P (k + 1) "number_row" [.int n] st = .ok (.tup (iD (groups n))) st := by
  rw [calN_at H_number_row.at_number_row, run_eq rfl]
  simp [f_number_row, b_number_row]
  obtain ⟨m, ns, e1, e2⟩ := nr_loop (G := gmN P k) st 6 n [] turns h0 (by omega) (by decide) (by simp)
  simp only [iD, List.map_nil] at e2
  rw [e2]
  have e3 : iD (groups n) = iD ns ++ [.int m] := by
    rw [show groups n = ns ++ [m] by rw [e1]; rfl]
    simp [iD]
  have hz : ns.length + 1 ≤ sizeLine := by
    have := groupsN_len 6 n
    have e : (ns ++ [m]).length = (groupsN 6 n).length := by rw [e1]; rfl
    simp at e
    exact le_size (by omega)
  simp [hz, e3]
theorem app_end (st : So) (o : Ob) : (st ++ [o])[st.length]? = some o := by simp
theorem set_end (st : So) (o o' : Ob) : (st ++ [o]).set st.length o' = st ++ [o'] := by simp
theorem lg_loop {G : Gm} (st : So) : ∀ (f : Nat) (n : Int) (acc : List Int) (t : Nat), 0 ≤ n → n < 128 ^ (f + 1) → f < t → acc.length + f + 1 ≤ 1000 → ∃ m ns, ns ++ [m] = acc ++ groupsN f n ∧
    whileGo (evB G (.cmp .gt (.var 0) (.int 127))) (evSs G (.cons (.expr (.app (.var 1) (.bin .add (.int 128) (.bin .mod (.bi .int (.cons (.var 0) .nil)) (.int 128)))))
    (.cons (.set 0 (.bin .fdiv (.var 0) (.int 128)))
    .nil))) t [some (.int n), some (.ref st.length)] (st ++ [.lst (iD acc)]) = .nx [some (.int m), some (.ref st.length)] (st ++ [.lst (iD ns)])
  | f, n, acc, 0, _, _, h, _ => absurd h (Nat.not_lt_zero _)
  | 0, n, acc, t + 1, h0, h1, _, _ => by
    refine ⟨n, acc, rfl, ?_⟩
    unfold whileGo
    have : ¬ (127 < n) := by simp at h1; omega
    simp [this]
  | f + 1, n, acc, t + 1, h0, h1, ht, hl => by
    unfold whileGo groupsN
    by_cases g : 127 < n
    · have q := lg_loop (G := G) st f (n / 128) (acc ++ [128 + n % 128]) t (by omega) (by rw [Int.pow_succ] at h1; exact Int.ediv_lt_of_lt_mul (by omega) h1) (by omega) (by simp; omega)
      obtain ⟨m, ns, e1, e2⟩ := q
      refine ⟨m, ns, by rw [e1, if_pos g]; simp, ?_⟩
      have z : acc.length < sizeLine := Nat.lt_of_lt_of_le (by omega : acc.length < 100000) (le_size (Nat.le_refl _))
      simp only [iD, List.map_append, List.map_cons, List.map_nil] at e2
      simp [g, z, e2, isLstD, appD, app_end, set_end, List.length_map]
    · refine ⟨n, acc, by rw [if_neg g], ?_⟩
      simp [g]
theorem law_groups_spec [H_law_groups P] (st : So) {n : Int} (h0 : 0 ≤ n) (h1 : n < 10000000000000) : ∃ o, calN P (k + 1) "_law_groups" [.int n] st = .ok (.lst (iD (groups n))) (st ++ [o]) := by
  rw [calN_at H_law_groups.at_law_groups, run_eq rfl]
  obtain ⟨m, ns, e1, e2⟩ := lg_loop (G := gmN P k) st 6 n [] turns h0 (by omega) (by decide) (by simp)
  refine ⟨.lst (iD ns), ?_⟩
  simp [f_law_groups, b_law_groups]
  simp only [iD, List.map_nil] at e2
  rw [e2]
  have e3 : iD (groups n) = iD ns ++ [.int m] := by
    rw [show groups n = ns ++ [m] by rw [e1]; rfl]
    simp [iD]
  have hz : ns.length + 1 ≤ sizeLine := by
    have := groupsN_len 6 n
    have e : (ns ++ [m]).length = (groupsN 6 n).length := by rw [e1]; rfl
    simp at e
    exact le_size (by omega)
  simp [opD, lstOf, hz, e3]
theorem ord_signs {G : Gm} (st : So) (l : Lo) (x : Str) (h : 3 < l.length) : lcGo (fun d => bindTg (.nm 3) d (wipeD l [3])) (evC G .none) (evE G (.bi .ord (.cons (.var 3) .nil))) (signs x) [] st = .ok (.lst (iD (x.cps.toList.map Int.ofNat))) st := by
  rw [lc_map (fun d => match d with | .str y => .int ((y.cps.getD 0 0 : Nat) : Int) | _ => .non) fun d hd => by
    obtain ⟨c, hc, rfl⟩ := mem_signs hd
    have h2 : (wipeD l [3]).length = l.length := by simp [wipeD]
    refine ⟨_, rfl, rfl, ?_⟩
    have h3 : ((wipeD l [3]).set 3 (some (D.str ⟨#[c]⟩)))[3]? = some (some (D.str ⟨#[c]⟩)) := by
      rw [List.getElem?_set_self (by rw [h2]; exact h)]
    simp [lget, h3, biD]
    rfl]
  simp [signs, iD, Function.comp_def]
theorem rowOf_pos (d : D) (h : rowOk d = true) : 1 ≤ (rowOf d).length := by
  cases d <;> simp [rowOk] at h <;> simp [rowOf]
theorem rows_app : ∀ (xs ys : List D), rowsOf (xs ++ ys) = rowsOf xs ++ rowsOf ys
  | [], ys => rfl
  | x :: xs, ys => by simp [rowsOf, rows_app xs ys]
theorem vr_loop {G : Gm} (st : So) (d : D) : ∀ (xs : List D) (acc : List Int) (o : Option D), (∀ x ∈ xs, ∀ st, G.cal "value_row" [x] st = .ok (.tup (iD (rowOf x))) st) → acc.length + (rowsOf xs).length ≤ sizeLine → ∃ o',
    forGo (bindTg (.nm 2)) (evSs G (.cons (.set 1 (.bin .add (.var 1) (.cal "value_row" (.cons (.var 2) .nil)))) .nil)) xs [some d, some (.tup (iD acc)), o, none] st = .nx [some d, some (.tup (iD (acc ++ rowsOf xs))), o', none] st
  | [], acc, o, _, _ => ⟨o, by simp [rowsOf, forGo]⟩
  | x :: xs, acc, o, h, hl => by
    have hx := h x List.mem_cons_self
    simp only [rowsOf, List.length_append] at hl
    obtain ⟨o', e⟩ := vr_loop st d xs (acc ++ rowOf x) (some x) (fun y hy => h y (List.mem_cons_of_mem _ hy)) (by simp; omega)
    refine ⟨o', ?_⟩
    have z : acc.length + (rowOf x).length ≤ sizeLine := by omega
    simp only [iD, List.map_append] at e
    unfold forGo
    simp [bindTg, hx, z, iD]
    rw [e]
    simp [rowsOf]
theorem value_row_spec [H_value_row P] : ∀ (n k : Nat) {d : D}, d.dep ≤ n → rowOk d = true → (rowOf d).length ≤ sizeLine → ∀ st, calN P (k + n + 2) "value_row" [d] st = .ok (.tup (iD (rowOf d))) st := by
  intro n
  induction n with
  | zero =>
    intro k d hd hr hl st
    rw [calN_at H_value_row.at_value_row, run_eq rfl]
    have dd := rowOk_dat hr
    simp [f_value_row, b_value_row, isiR_of (isi_bool dd), isiR_of (isi_int dd), isiR_of (isi_str dd)]
    cases d with
    | bl b => cases b <;> simp [D.isBl, rowOf, iD]
    | int i =>
      simp only [rowOk, Bool.and_eq_true, decide_eq_true_eq] at hr
      have z : 1 + (groups (i + 1)).length ≤ sizeLine := le_size (by have := groupsN_len 6 (i + 1); unfold groups; omega)
      simp [D.isBl, D.isInt, number_row_spec _ _ (show 0 ≤ i + 1 by omega) (show i + 1 < 10000000000000 by omega), iD, z, rowOf]
    | str x =>
      simp only [rowOk, decide_eq_true_eq] at hr
      simp only [rowOf, List.length_cons, List.length_append] at hl
      have z : 1 + (groups (x.length : Int)).length ≤ sizeLine := by omega
      have z2 : (groups (x.length : Int)).length + 1 + x.cps.size ≤ sizeLine := by simp at hl; omega
      simp [D.isBl, D.isInt, D.isStr, number_row_spec _ _ (show (0 : Int) ≤ x.length by omega) (show (x.length : Int) < 10000000000000 by omega), iD, z, rowOf]
      rw [ord_signs _ _ _ (by simp)]
      simp [iD, z2]
    | tup xs => simp [D.dep] at hd
    | _ => simp [rowOk] at hr
  | succ n ih =>
    intro k d hd hr hl st
    rw [calN_at H_value_row.at_value_row, run_eq rfl]
    have dd := rowOk_dat hr
    simp [f_value_row, b_value_row, isiR_of (isi_bool dd), isiR_of (isi_int dd), isiR_of (isi_str dd)]
    cases d with
    | bl b => cases b <;> simp [D.isBl, rowOf, iD]
    | int i =>
      simp only [rowOk, Bool.and_eq_true, decide_eq_true_eq] at hr
      have z : 1 + (groups (i + 1)).length ≤ sizeLine := le_size (by have := groupsN_len 6 (i + 1); unfold groups; omega)
      simp [D.isBl, D.isInt, number_row_spec _ _ (show 0 ≤ i + 1 by omega) (show i + 1 < 10000000000000 by omega), iD, z, rowOf]
    | str x =>
      simp only [rowOk, decide_eq_true_eq] at hr
      simp only [rowOf, List.length_cons, List.length_append] at hl
      have z : 1 + (groups (x.length : Int)).length ≤ sizeLine := by omega
      have z2 : (groups (x.length : Int)).length + 1 + x.cps.size ≤ sizeLine := by simp at hl; omega
      simp [D.isBl, D.isInt, D.isStr, number_row_spec _ _ (show (0 : Int) ≤ x.length by omega) (show (x.length : Int) < 10000000000000 by omega), iD, z, rowOf]
      rw [ord_signs _ _ _ (by simp)]
      simp [iD, z2]
    | tup xs =>
      simp only [rowOk, Bool.and_eq_true, decide_eq_true_eq] at hr
      simp only [rowOf, List.length_cons, List.length_append] at hl
      simp only [D.dep] at hd
      have z : 1 + (groups (xs.length : Int)).length ≤ sizeLine := by omega
      have hs := rowsOk_all.mp hr.2
      have hdp := deps_le.mp (show deps xs ≤ n by omega)
      have len1 : ∀ {xs : List D} {x : D}, x ∈ xs → (rowOf x).length ≤ (rowsOf xs).length := by
        intro xs
        induction xs with
        | nil => intro x h; cases h
        | cons y ys ih2 =>
          intro x h
          rw [rowsOf, List.length_append]
          rcases List.mem_cons.mp h with rfl | h
          · omega
          · have := ih2 h; omega
      have lp := fun st => vr_loop (G := gmN P (k + n + 2)) st (.tup xs) xs (3 :: groups (xs.length : Int)) none (fun x hx st => ih k (hdp x hx) (hs x hx) (by have := len1 hx; omega) st) (by simp; omega)
      obtain ⟨o', e⟩ := lp st
      simp only [iD, List.map_cons] at e
      simp [D.isBl, D.isInt, D.isStr, number_row_spec _ _ (show (0 : Int) ≤ xs.length by omega) (show (xs.length : Int) < 10000000000000 by omega), iD, z]
      rw [show k + (n + 1) + 1 = k + n + 2 from by omega, e]
      simp [rowOf]
    | _ => simp [rowOk] at hr
theorem len_rows : ∀ {xs : List D} {x : D}, x ∈ xs → (rowOf x).length ≤ (rowsOf xs).length
  | y :: ys, x, h => by
    rw [rowsOf, List.length_append]
    rcases List.mem_cons.mp h with rfl | h
    · omega
    · have := len_rows h; omega
theorem lr_loop {G : Gm} (d : D) : ∀ (xs : List D) (acc : List Int) (o : Option D) (st : So), (∀ x ∈ xs, ∀ st, ∃ m, G.cal "_law_row" [x] st = .ok (.lst (iD (rowOf x))) (st ++ m)) → acc.length + (rowsOf xs).length ≤ sizeLine → ∃ o' m,
    forGo (bindTg (.nm 2)) (evSs G (.cons (.set 1 (.bin .add (.var 1) (.cal "_law_row" (.cons (.var 2) .nil)))) .nil)) xs [some d, some (.lst (iD acc)), o, none] st = .nx [some d, some (.lst (iD (acc ++ rowsOf xs))), o', none] (st ++ m)
  | [], acc, o, st, _, _ => ⟨o, [], by simp [rowsOf, forGo]⟩
  | x :: xs, acc, o, st, h, hl => by
    obtain ⟨m, hx⟩ := h x List.mem_cons_self st
    simp only [rowsOf, List.length_append] at hl
    obtain ⟨o', m', e⟩ := lr_loop d xs (acc ++ rowOf x) (some x) (st ++ m) (fun y hy => h y (List.mem_cons_of_mem _ hy)) (by simp; omega)
    refine ⟨o', m ++ m', ?_⟩
    have z : acc.length + (rowOf x).length ≤ sizeLine := by omega
    simp only [iD, List.map_append] at e hx
    unfold forGo
    simp [bindTg, hx, z, iD]
    rw [e]
    simp [rowsOf]
theorem law_row_leaf [H_law_row P] {d : D} (hd : ∀ xs, d ≠ .tup xs) (hr : rowOk d = true) (hl : (rowOf d).length ≤ sizeLine) (st : So) : ∃ m, calN P (k + 2) "_law_row" [d] st = .ok (.lst (iD (rowOf d))) (st ++ m) := by
  rw [calN_at H_law_row.at_law_row, run_eq rfl]
  have dd := rowOk_dat hr
  simp [f_law_row, b_law_row, isiR_of (isi_bool dd), isiR_of (isi_int dd), isiR_of (isi_str dd)]
  cases d with
  | bl b => refine ⟨[], ?_⟩; cases b <;> simp [D.isBl, rowOf, iD]
  | int i =>
    simp only [rowOk, Bool.and_eq_true, decide_eq_true_eq] at hr
    have z : 1 + (groups (i + 1)).length ≤ sizeLine := le_size (by have := groupsN_len 6 (i + 1); unfold groups; omega)
    obtain ⟨o, e⟩ := law_groups_spec (P := P) k st (show 0 ≤ i + 1 by omega) (show i + 1 < 10000000000000 by omega)
    simp only [iD] at e
    refine ⟨[o], ?_⟩
    simp [D.isBl, D.isInt, e, iD, z, rowOf]
  | str x =>
    simp only [rowOk, decide_eq_true_eq] at hr
    simp only [rowOf, List.length_cons, List.length_append] at hl
    have z : 1 + (groups (x.length : Int)).length ≤ sizeLine := by omega
    have z2 : (groups (x.length : Int)).length + 1 + x.cps.size ≤ sizeLine := by simp at hl; omega
    obtain ⟨o, e⟩ := law_groups_spec (P := P) k st (show (0 : Int) ≤ x.length by omega) (show (x.length : Int) < 10000000000000 by omega)
    simp only [iD] at e
    refine ⟨[o], ?_⟩
    simp [D.isBl, D.isInt, D.isStr, e, iD, z, rowOf]
    rw [ord_signs _ _ _ (by simp)]
    simp [iD, z2]
  | tup xs => exact absurd rfl (hd xs)
  | _ => simp [rowOk] at hr
theorem law_row_spec [H_law_row P] : ∀ (n k : Nat) {d : D}, d.dep ≤ n → rowOk d = true → (rowOf d).length ≤ sizeLine → ∀ st, ∃ m, calN P (k + n + 2) "_law_row" [d] st = .ok (.lst (iD (rowOf d))) (st ++ m) := by
  intro n
  induction n with
  | zero =>
    intro k d hd hr hl st
    exact law_row_leaf k (fun xs e => by subst e; simp [D.dep] at hd) hr hl st
  | succ n ih =>
    intro k d hd hr hl st
    by_cases ht : ∃ xs, d = .tup xs
    · obtain ⟨xs, rfl⟩ := ht
      rw [calN_at H_law_row.at_law_row, run_eq rfl]
      have dd := rowOk_dat hr
      simp [f_law_row, b_law_row, isiR_of (isi_bool dd), isiR_of (isi_int dd), isiR_of (isi_str dd)]
      simp only [rowOk, Bool.and_eq_true, decide_eq_true_eq] at hr
      simp only [rowOf, List.length_cons, List.length_append] at hl
      simp only [D.dep] at hd
      have z : 1 + (groups (xs.length : Int)).length ≤ sizeLine := by omega
      have hs := rowsOk_all.mp hr.2
      have hdp := deps_le.mp (show deps xs ≤ n by omega)
      obtain ⟨o, e⟩ := law_groups_spec (P := P) (k + n + 1) st (show (0 : Int) ≤ xs.length by omega) (show (xs.length : Int) < 10000000000000 by omega)
      obtain ⟨o', m, e2⟩ := lr_loop (G := gmN P (k + n + 2)) (.tup xs) xs (3 :: groups (xs.length : Int)) none (st ++ [o]) (fun x hx st => ih k (hdp x hx) (hs x hx) (by have := len_rows hx; omega) st) (by simp; omega)
      simp only [iD, List.map_cons] at e e2
      refine ⟨o :: m, ?_⟩
      simp [D.isBl, D.isInt, D.isStr]
      rw [show k + (n + 1) + 1 = k + n + 2 from by omega, e]
      simp [z]
      rw [e2]
      simp [rowOf, iD]
    · exact law_row_leaf (k + (n + 1)) (fun xs e => ht ⟨xs, e⟩) hr hl st
/-! ### seals -/
def sealF (f : Int) (ns : List Int) : Int := ns.foldl (fun f o => (f * 257 + o + 1) % 4294967291) f
def sealZ (key : Int) (ns : List Int) : Int := (sealF (key % 4294967291) ns * sealF (key % 4294967291) ns + key) % 4294967291
theorem sealF_lt {f : Int} (h0 : 0 ≤ f) (h1 : f < 4294967291) : ∀ ns : List Int, 0 ≤ sealF f ns ∧ sealF f ns < 4294967291
  | [] => ⟨h0, h1⟩
  | n :: ns => by
    unfold sealF
    rw [List.foldl_cons]
    exact sealF_lt (Int.emod_nonneg _ (by decide)) (Int.emod_lt_of_pos _ (by decide)) ns
theorem sealZ_lt (key : Int) (ns : List Int) : 0 ≤ sealZ key ns ∧ sealZ key ns < 4294967291 := ⟨Int.emod_nonneg _ (by decide), Int.emod_lt_of_pos _ (by decide)⟩
theorem seal_loop {G : Gm} {e1 e2 : E} (st : So) (key row : D) (h1 : ∀ l st, evE G e1 l st = .ok (.int 257) st) (h2 : ∀ l st, evE G e2 l st = .ok (.int 4294967291) st) : ∀ (ns : List Int) (f : Int) (o : Option D), ∃ o', forGo (bindTg (.nm 3)) (evSs G (.cons (.set 2 (.bin .mod (.bin .add (.bin .add (.bin .mul (.var 2) e1) (.var 3)) (.int 1)) e2))
    .nil)) (iD ns) [some key, some row, some (.int f), o] st = .nx [some key, some row, some (.int (sealF f ns)), o'] st
  | [], f, o => ⟨o, rfl⟩
  | n :: ns, f, o => by
    obtain ⟨o', h⟩ := seal_loop st key row h1 h2 ns ((f * 257 + n + 1) % 4294967291) (some (.int n))
    refine ⟨o', ?_⟩
    simp only [iD, List.map_cons] at h ⊢
    unfold forGo
    simp only [bindTg]
    simp [h1, h2, mulOk_r]
    exact h
theorem law_seal_loop {G : Gm} (st : So) (key row : D) : ∀ (ns : List Int) (f : Int) (o : Option D), ∃ o', forGo (bindTg (.nm 3)) (evSs G (.cons (.set 2 (.bin .mod (.bi .int (.cons (.bin .add (.bin .add (.bin .mul (.var 2) (.int 257)) (.var 3)) (.int 1)) .nil)) (.int 4294967291)))
    .nil)) (iD ns) [some key, some row, some (.int f), o] st = .nx [some key, some row, some (.int (sealF f ns)), o'] st
  | [], f, o => ⟨o, rfl⟩
  | n :: ns, f, o => by
    obtain ⟨o', h⟩ := law_seal_loop st key row ns ((f * 257 + n + 1) % 4294967291) (some (.int n))
    refine ⟨o', ?_⟩
    simp only [iD, List.map_cons] at h ⊢
    unfold forGo
    simp only [bindTg]
    simp [mulOk_r]
    exact h
theorem seal_by_spec [H_seal_by P] (st : So) (key : Int) (ns : List Int) : calN P (k + 1) "seal_by" [.int key, .tup (iD ns)] st = .ok (.int (sealZ key ns)) st := by
  rw [calN_at H_seal_by.at_seal_by, run_eq rfl]
  have eP : ∀ l st, evE (gmN P k) (.glb "PRIME") l st = .ok (.int 4294967291) st := fun l st => e_glbP H_seal_by.con_seal_by_PRIME l st
  have eT : ∀ l st, evE (gmN P k) (.glb "TURN") l st = .ok (.int 257) st := fun l st => e_glbP H_seal_by.con_seal_by_TURN l st
  simp [f_seal_by, b_seal_by, eP]
  obtain ⟨o', h⟩ := seal_loop st (.int key) (.tup (iD ns)) eT eP ns (key % 4294967291) none
  simp only [iD] at h
  rw [h]
  obtain ⟨g1, g2⟩ := sealF_lt (Int.emod_nonneg key (by decide : (4294967291 : Int) ≠ 0)) (Int.emod_lt_of_pos key (by decide)) ns
  simp [eP, mulOk_l (show -(2 ^ 64) < sealF (key % 4294967291) ns by omega) (by omega), sealZ]
theorem law_seal_spec [H_law_seal P] (st : So) (key : Int) (ns : List Int) : calN P (k + 1) "_law_seal" [.int key, .lst (iD ns)] st = .ok (.int (sealZ key ns)) st := by
  rw [calN_at H_law_seal.at_law_seal, run_eq rfl]
  simp [f_law_seal, b_law_seal]
  obtain ⟨o', h⟩ := law_seal_loop st (.int key) (.lst (iD ns)) ns (key % 4294967291) none
  simp only [iD] at h
  rw [h]
  obtain ⟨g1, g2⟩ := sealF_lt (Int.emod_nonneg key (by decide : (4294967291 : Int) ≠ 0)) (Int.emod_lt_of_pos key (by decide)) ns
  simp [mulOk_l (show -(2 ^ 64) < sealF (key % 4294967291) ns by omega) (by omega), sealZ]
/-- what can be sealed: nine things, the first eight of them as a row -/
structure SealOk (a b c e f g h i : D) : Prop where
  ok : rowOk (.tup [a, b, c, e, f, g, h, i]) = true
  dep : (D.tup [a, b, c, e, f, g, h, i]).dep ≤ 10
  few : (rowOf (.tup [a, b, c, e, f, g, h, i])).length ≤ 100000
theorem take8 (a b c e f g h i j : D) : cutD [a, b, c, e, f, g, h, i, j] none (some 8) = [a, b, c, e, f, g, h, i] := rfl
section
variable {a b c e f g h i : D}
theorem own_seal_spec [H_own_seal P] (S : SealOk a b c e f g h i) (j : D) {n key : Int} (hn : atI [a, b, c, e, f, g, h, i, j] n = some (.int key)) (st : So) : calN P (k + 13) "own_seal" [.tup [a, b, c, e, f, g, h, i, j], .int n] st = .ok (.int (sealZ key (rowOf (.tup [a, b, c, e, f, g, h, i])))) st := by
  rw [calN_at H_own_seal.at_own_seal, run_eq rfl]
  have eL : ∀ l st, evE (gmN P (k + 12)) (.glb "LAST") l st = .ok (.int 8) st := fun l st => e_glbP H_own_seal.con_own_seal_LAST l st
  have v := fun st => value_row_spec (P := P) 10 k S.dep S.ok (le_size S.few) st
  simp [f_own_seal, b_own_seal, eL, ix_tup, hn, take8, v, seal_by_spec]
theorem fits_seal_spec [H_fits_seal P] (S : SealOk a b c e f g h i) {z n key : Int} (hn : atI [a, b, c, e, f, g, h, i, .int z] n = some (.int key)) (st : So) : calN P (k + 14) "fits_seal" [.tup [a, b, c, e, f, g, h, i, .int z], .int n] st = .ok (.bl (z == sealZ key (rowOf (.tup [a, b, c, e, f, g, h, i])))) st := by
  rw [calN_at H_fits_seal.at_fits_seal, run_eq rfl]
  have eL : ∀ l st, evE (gmN P (k + 13)) (.glb "LAST") l st = .ok (.int 8) st := fun l st => e_glbP H_fits_seal.con_fits_seal_LAST l st
  simp [f_fits_seal, b_fits_seal, eL, ix_tup, own_seal_spec _ S (.int z) hn]
  simp [atI, ixN]
theorem law_sealed_list_spec [H_law_sealed_list P] (S : SealOk a b c e f g h i) {key : Int} (j : D) (hk : b = .int key) (st : So) : ∃ m, calN P (k + 13) "_law_sealed_list" [.tup [a, b, c, e, f, g, h, i, j]] st = .ok (.tup [a, b, c, e, f, g, h, i, .int (sealZ key (rowOf (.tup [a, b, c, e, f, g, h, i])))]) (st ++ m) := by
  rw [calN_at H_law_sealed_list.at_law_sealed_list, run_eq rfl]
  subst hk
  obtain ⟨m, v⟩ := law_row_spec (P := P) 10 k S.dep S.ok (le_size S.few) st
  simp only [iD] at v
  have w := law_seal_spec (P := P) (k + 11) (st ++ m) key (rowOf (.tup [a, .int key, c, e, f, g, h, i]))
  simp only [iD] at w
  refine ⟨m, ?_⟩
  simp [f_law_sealed_list, b_law_sealed_list, take8, v, w, ix_tup, atI, ixN]
end
end
end CP

set_option Elab.async false
set_option linter.all false
set_option maxRecDepth 100000
set_option autoImplicit false
/-! LibL: defs shared by laws. -/
namespace CP
open PySem L2
def b_fits_within : Ss :=
    (.cons (.par3 1 2 3 (.ix (.var 0) (.int 0)) (.ix (.var 0) (.int 3)) (.ix (.var 0) (.int 6)))
    (.cons (.for (.tu [4, 5, 6, 7]) (.seq (.ix (.var 0) (.int 7))) (.cons (.ite (.or (.and (.cmp .ne (.var 4) (.var 1)) (.not (.ix (.var 3) (.int 1)))) (.and (.cmp .eq (.var 7) (.glb "BACK")) (.cmp .lt (.var 2) (.int 0)))) (.cons (.ret (.bl false))
    .nil) .nil)
    (.cons (.ite (.and (.cmp .ne (.var 7) (.glb "BACK")) (.and (.cmp .ne (.ix (.var 3) (.int 2)) (.tup .nil)) (.cmp .nmem (.var 7) (.ix (.var 3) (.int 2))))) (.cons (.ret (.bl false))
    .nil) .nil)
    .nil)))
    (.cons (.ret (.bl true))
    .nil)))
def f_fits_within : Fn := ⟨"fits_within", 1, 8, b_fits_within⟩
class H_fits_within (P : Pg) : Prop where
  at_fits_within : P.fn? "fits_within" = some f_fits_within
  con_fits_within_BACK : P.con? "BACK" = some (.str "back")
def b_fits_entry (cREASONS : Str) : Ss :=
    (.cons (.ite (.or (.not (.cal "is_tuple_of" (.cons (.var 0) (.cons (.int 4) (.cons (.int 4) .nil))))) (.or (.not (.cal "fits_name" (.cons (.ix (.var 0) (.int 0)) .nil))) (.not (.cal "is_whole" (.cons (.ix (.var 0) (.int 1)) (.cons (.int 0) (.cons (.glb "SERIALS") .nil))))))) (.cons (.ret (.bl false))
    .nil) .nil)
    (.cons (.ret (.and (.cal "is_whole" (.cons (.ix (.var 0) (.int 2)) (.cons (.int 0) (.cons (.glb "TIMES") .nil)))) (.and (.isi (.ix (.var 0) (.int 3)) "str") (.cmp .mem (.ix (.var 0) (.int 3)) (.bin .add (.glb cREASONS) (.tup (.cons (.glb "BACK") .nil)))))))
    .nil))
def f_fits_entry (cREASONS : Str) : Fn := ⟨"fits_entry", 1, 1, b_fits_entry cREASONS⟩
class H_fits_entry (P : Pg) : Prop extends H_is_whole P, H_fits_name P, H_is_tuple_of P where
  at_fits_entry : ∃ cREASONS, P.fn? "fits_entry" = some (f_fits_entry cREASONS) ∧ P.con? cREASONS = some (.tup [(.str "ceased"), (.str "changed"), (.str "head"), (.str "hold"), (.str "key"), (.str "replaced"), (.str "rights")])
  con_fits_entry_BACK : P.con? "BACK" = some (.str "back")
  con_fits_entry_TIMES : P.con? "TIMES" = some (.int 1000000000)
  con_fits_entry_SERIALS : P.con? "SERIALS" = some (.int 1000000)
def b_fits_scope (cREASONS : Str) : Ss :=
    (.cons (.ite (.or (.not (.cal "is_tuple_of" (.cons (.var 0) (.cons (.int 3) (.cons (.int 3) .nil))))) (.or (.not (.isi (.ix (.var 0) (.int 0)) "str")) (.cmp .nmem (.ix (.var 0) (.int 0)) (.glb "SCOPES")))) (.cons (.ret (.bl false))
    .nil) .nil)
    (.cons (.ret (.and (.cal "is_truth" (.cons (.ix (.var 0) (.int 1)) .nil)) (.cal "fits_lot" (.cons (.ix (.var 0) (.int 2)) (.cons (.int 0) (.cons (.bin .sub (.bi .len (.cons (.glb cREASONS) .nil)) (.int 1)) (.cons (.glb cREASONS) .nil)))))))
    .nil))
def f_fits_scope (cREASONS : Str) : Fn := ⟨"fits_scope", 1, 1, b_fits_scope cREASONS⟩
class H_fits_scope (P : Pg) : Prop extends H_fits_lot P, H_is_truth P, H_is_tuple_of P where
  at_fits_scope : ∃ cREASONS, P.fn? "fits_scope" = some (f_fits_scope cREASONS) ∧ P.con? cREASONS = some (.tup [(.str "ceased"), (.str "changed"), (.str "head"), (.str "hold"), (.str "key"), (.str "replaced"), (.str "rights")])
  con_fits_scope_SCOPES : P.con? "SCOPES" = some (.tup [(.str "all"), (.str "heads"), (.str "users")])
def b_fits_list (cNUMBERS : Str) : Ss :=
    (.cons (.ite (.or (.not (.cal "is_tuple_of" (.cons (.var 0) (.cons (.int 9) (.cons (.int 9) .nil))))) (.or (.not (.cal "fits_name" (.cons (.ix (.var 0) (.int 0)) .nil))) (.not (.cal "is_whole" (.cons (.ix (.var 0) (.int 1)) (.cons (.int 0) (.cons (.glb "KEYS") .nil))))))) (.cons (.ret (.bl false))
    .nil) .nil)
    (.cons (.ite (.or (.not (.cal "is_whole" (.cons (.ix (.var 0) (.int 2)) (.cons (.int 0) (.cons (.glb cNUMBERS) .nil))))) (.not (.cal "is_whole" (.cons (.ix (.var 0) (.int 3)) (.cons (.neg (.int 1)) (.cons (.bin .sub (.ix (.var 0) (.int 2)) (.int 1)) .nil)))))) (.cons (.ret (.bl false))
    .nil) .nil)
    (.cons (.ite (.or (.not (.cal "is_whole" (.cons (.ix (.var 0) (.int 4)) (.cons (.int 0) (.cons (.glb "TIMES") .nil))))) (.not (.cal "is_whole" (.cons (.ix (.var 0) (.int 5)) (.cons (.ix (.var 0) (.int 4)) (.cons (.glb "TIMES") .nil)))))) (.cons (.ret (.bl false))
    .nil) .nil)
    (.cons (.ite (.or (.not (.cal "fits_scope" (.cons (.ix (.var 0) (.int 6)) .nil))) (.not (.cal "is_whole" (.cons (.ix (.var 0) (.int 8)) (.cons (.int 0) (.cons (.glb "KEYS") .nil)))))) (.cons (.ret (.bl false))
    .nil) .nil)
    (.cons (.ite (.or (.not (.cal "is_tuple_of" (.cons (.ix (.var 0) (.int 7)) (.cons (.int 0) (.cons (.glb "ENTRIES") .nil))))) (.not (.bi .all (.cons (.lc (.cal "fits_entry" (.cons (.var 1) .nil)) (.nm 1) (.seq (.ix (.var 0) (.int 7))) .none [1]) .nil)))) (.cons (.ret (.bl false))
    .nil) .nil)
    (.cons (.ret (.and (.cal "is_ascending" (.cons (.bi .tuple (.cons (.lc (.sl (.var 1) .none (.some (.int 2))) (.nm 1) (.seq (.ix (.var 0) (.int 7))) .none [1]) .nil)) .nil)) (.cal "fits_within" (.cons (.var 0) .nil))))
    .nil))))))
def f_fits_list (cNUMBERS : Str) : Fn := ⟨"fits_list", 1, 2, b_fits_list cNUMBERS⟩
class H_fits_list (P : Pg) : Prop extends H_fits_within P, H_is_ascending P, H_fits_entry P, H_is_tuple_of P, H_is_whole P, H_fits_scope P, H_fits_name P where
  at_fits_list : ∃ cNUMBERS, P.fn? "fits_list" = some (f_fits_list cNUMBERS) ∧ P.con? cNUMBERS = some (.int 1000000)
  con_fits_list_ENTRIES : P.con? "ENTRIES" = some (.int 30)
  con_fits_list_KEYS : P.con? "KEYS" = some (.int 4294967295)
  con_fits_list_TIMES : P.con? "TIMES" = some (.int 1000000000)
def b_need_list : Ss :=
    (.cons (.ite (.not (.cal "fits_list" (.cons (.var 0) .nil))) (.cons (.raise "InvalidList")
    .nil) .nil)
    .nil)
def f_need_list : Fn := ⟨"need_list", 1, 1, b_need_list⟩
class H_need_list (P : Pg) : Prop extends H_fits_list P where
  at_need_list : P.fn? "need_list" = some f_need_list
def b_is_list : Ss :=
    (.cons (.ret (.cal "fits_list" (.cons (.var 0) .nil)))
    .nil)
def f_is_list : Fn := ⟨"is_list", 1, 1, b_is_list⟩
class H_is_list (P : Pg) : Prop extends H_fits_list P where
  at_is_list : P.fn? "is_list" = some f_is_list
end CP

set_option Elab.async false
set_option linter.all false
set_option maxRecDepth 100000
set_option autoImplicit false
/-! LibL1: lists of withdrawal: what they compute. -/
namespace CP
open PySem L2
def reasonsW : List D := [.str "ceased", .str "changed", .str "head", .str "hold", .str "key", .str "replaced", .str "rights"]
def scopesW : List D := [.str "all", .str "heads", .str "users"]
def entryD (d : D) : Bool := match d with
  | .tup [a, b, c, .str r] => wordsD a 1 4 && (wholeD b 0 1000000 && (wholeD c 0 1000000000 && inD (.str r) (reasonsW ++ [.str "back"])))
  | _ => false
def scopeD (d : D) : Bool := match d with
  | .tup [.str s, .bl _, l] => inD (.str s) scopesW && manyD (wIn reasonsW) l 0 6
  | _ => false
def withinE (i : D) (b : Int) (q : Bool) (rs : List D) (e : D) : Bool := match e with
  | .tup [o, _, _, .str r] => ((o.eqv i || q) && !(r == "back" && decide (b < 0))) && ((r == "back") || (rs.isEmpty || inD (.str r) rs))
  | _ => false
def within (i b s es : D) : Bool := match b, s, es with
  | .int b, .tup [_, .bl q, .tup rs], .tup es => es.all (withinE i b q rs)
  | _, _, _ => false
def cut2 (d : D) : D := match d with
  | .tup xs => .tup (xs.take 2)
  | _ => .non
def entriesD (d : D) : Bool := match d with
  | .tup es => decide ((es.length : Int) ≤ 30) && (es.all entryD && ascD (es.map cut2))
  | _ => false
def numB (n c : D) : Bool := match n with
  | .int m => wholeD (.int m) 0 1000000 && wholeD c (-1) (m - 1)
  | _ => false
def timeB (s t : D) : Bool := match s with
  | .int m => wholeD (.int m) 0 1000000000 && wholeD t m 1000000000
  | _ => false
def listD (d : D) : Bool := match d with
  | .tup [a, b, n, c, s, t, w, es, i] => (wordsD a 1 4 && wholeD b 0 4294967295) && (numB n c && (timeB s t && ((scopeD w && wholeD i 0 4294967295) && (entriesD es && within a c w es))))
  | _ => false
theorem three_of {d : D} (h : tupD d 3 3 = true) (hd : d.isDat = true) : ∃ a b c, d = .tup [a, b, c] ∧ a.isDat = true ∧ b.isDat = true ∧ c.isDat = true := by
  cases d <;> simp [tupD] at h
  rename_i xs
  have hs := isDat_tup hd
  rcases xs with _ | ⟨a, _ | ⟨b, _ | ⟨c, _ | ⟨e, t⟩⟩⟩⟩ <;> simp at h <;> first | exact ⟨_, _, _, rfl, hs _ (by simp), hs _ (by simp), hs _ (by simp)⟩ | omega
theorem four_of {d : D} (h : tupD d 4 4 = true) (hd : d.isDat = true) : ∃ a b c e, d = .tup [a, b, c, e] ∧ a.isDat = true ∧ b.isDat = true ∧ c.isDat = true ∧ e.isDat = true := by
  cases d <;> simp [tupD] at h
  rename_i xs
  have hs := isDat_tup hd
  rcases xs with _ | ⟨a, _ | ⟨b, _ | ⟨c, _ | ⟨e, _ | ⟨f, t⟩⟩⟩⟩⟩ <;> simp at h <;> first | exact ⟨_, _, _, _, rfl, hs _ (by simp), hs _ (by simp), hs _ (by simp), hs _ (by simp)⟩ | omega
theorem scope_not {d : D} (h : tupD d 3 3 = false) : scopeD d = false := by
  cases e : scopeD d with
  | false => rfl
  | true =>
    unfold scopeD at e
    split at e
    · simp [tupD] at h
    · cases e
theorem entry_not {d : D} (h : tupD d 4 4 = false) : entryD d = false := by
  cases e : entryD d with
  | false => rfl
  | true =>
    unfold entryD at e
    split at e
    · simp [tupD] at h
    · cases e
theorem list_not {d : D} (h : tupD d 9 9 = false) : listD d = false := by
  cases e : listD d with
  | false => rfl
  | true =>
    unfold listD at e
    split at e
    · simp [tupD] at h
    · cases e
/-- a loop that ends with False at the first item that is not so -/
theorem for_all {bnd : D → Lo → Option Lo} {body : Lo → So → RS} {st : So} (p : D → Bool) (I : Lo → Prop) : ∀ {xs : List D} {l : Lo}, I l →
    (∀ x ∈ xs, ∀ l, I l → ∃ l1, bnd x l = some l1 ∧ if p x then ∃ l2, I l2 ∧ body l1 st = .nx l2 st else body l1 st = .rt (.bl false) st) →
    if xs.all p then ∃ l2, I l2 ∧ forGo bnd body xs l st = .nx l2 st else forGo bnd body xs l st = .rt (.bl false) st
  | [], l, h, _ => by
    simp only [List.all_nil, if_true]
    exact ⟨l, h, rfl⟩
  | x :: xs, l, h, q => by
    obtain ⟨l1, e, w⟩ := q x List.mem_cons_self l h
    have un : forGo bnd body (x :: xs) l st = (match body l1 st with
      | .nx l2 st2 => forGo bnd body xs l2 st2
      | .ct l2 st2 => forGo bnd body xs l2 st2
      | .bk l2 st2 => .nx l2 st2
      | r => r) := by
      conv => lhs; unfold forGo
      rw [e]
      try rfl
    rw [un, List.all_cons]
    cases hp : p x with
    | true =>
      rw [hp] at w
      simp only [if_true] at w
      obtain ⟨l2, h2, eb⟩ := w
      rw [eb, Bool.true_and]
      exact for_all p I h2 fun y hy => q y (List.mem_cons_of_mem _ hy)
    | false =>
      rw [hp] at w
      simp only [Bool.false_eq_true, if_false] at w
      rw [w]
      simp
section
variable {P : Pg} (k : Nat) (st : So)
theorem fits_scope_spec [H_fits_scope P] {d : D} (hd : d.isDat = true) : calN P (k + 3) "fits_scope" [d] st = .ok (.bl (scopeD d)) st := by
  obtain ⟨cR, eA, eR⟩ := H_fits_scope.at_fits_scope (P := P)
  rw [calN_at eA, run_eq rfl]
  have c1 := fun l st => e_glbP (k := k + 2) (H_fits_scope.con_fits_scope_SCOPES (P := P)) l st
  simp [f_fits_scope, b_fits_scope, is_tuple_of_spec _ _ _ _ hd]
  by_cases h3 : tupD d 3 3 = true
  · obtain ⟨a, b, c, rfl, ha, hb, hc⟩ := three_of h3 hd
    simp [h3, isiR_of (isi_str ha)]
    have m := fun x st => mem_words (ws := scopesW) rfl x st
    have fl := fits_lot_spec (P := P) k st (d := c) 0 6 (ws := reasonsW) rfl hc
    simp only [scopesW] at m
    simp only [reasonsW] at fl
    cases a <;> simp [D.isStr, scopeD]
    simp [c1, m, is_truth_spec _ _ hb, e_glbP eR, fl]
    rename_i x
    cases inD (.str x) scopesW <;> cases b <;> simp [D.isBl, scopesW, reasonsW]
  · simp only [Bool.not_eq_true] at h3
    simp [h3, scope_not h3]
theorem fits_entry_spec [H_fits_entry P] {d : D} (hd : d.isDat = true) : calN P (k + 4) "fits_entry" [d] st = .ok (.bl (entryD d)) st := by
  obtain ⟨cR, eA, eR⟩ := H_fits_entry.at_fits_entry (P := P)
  rw [calN_at eA, run_eq rfl]
  have c1 := fun l st => e_glbP (k := k + 3) (H_fits_entry.con_fits_entry_SERIALS (P := P)) l st
  have c2 := fun l st => e_glbP (k := k + 3) (H_fits_entry.con_fits_entry_TIMES (P := P)) l st
  have c3 := fun l st => e_glbP (k := k + 3) (H_fits_entry.con_fits_entry_BACK (P := P)) l st
  simp [f_fits_entry, b_fits_entry, is_tuple_of_spec _ _ _ _ hd]
  by_cases h4 : tupD d 4 4 = true
  · obtain ⟨a, b, c, e, rfl, ha, hb, hc, he⟩ := four_of h4 hd
    have m := fun x st => mem_words (ws := reasonsW ++ [.str "back"]) rfl x st
    simp only [reasonsW, List.cons_append, List.nil_append] at m
    have z : (8 : Nat) ≤ sizeLine := le_size (by omega)
    simp [h4, isiR_of (isi_str he), fits_name_spec _ _ ha, c1, is_whole_spec _ _ _ _ hb, c2, is_whole_spec _ _ _ _ hc, e_glbP eR, c3, z]
    cases e <;> simp [D.isStr, entryD]
    all_goals cases wordsD a 1 4 <;> cases wholeD b 0 1000000 <;> simp [m, reasonsW]
    all_goals cases wholeD c 0 1000000000 <;> simp
  · simp only [Bool.not_eq_true] at h4
    simp [h4, entry_not h4]
theorem entry_of {d : D} (h : entryD d = true) : ∃ a b c r, d = .tup [a, b, c, .str r] ∧ wordsD a 1 4 = true ∧ wholeD b 0 1000000 = true ∧ wholeD c 0 1000000000 = true ∧ inD (.str r) (reasonsW ++ [.str "back"]) = true := by
  unfold entryD at h
  split at h
  · simp only [Bool.and_eq_true] at h
    exact ⟨_, _, _, _, rfl, h.1, h.2.1, h.2.2.1, h.2.2.2⟩
  · cases h
theorem scope_of {d : D} (h : scopeD d = true) : ∃ w q rs, d = .tup [.str w, .bl q, .tup rs] ∧ inD (.str w) scopesW = true ∧ rs.length ≤ 6 ∧ ∀ x ∈ rs, wIn reasonsW x = true := by
  unfold scopeD at h
  split at h
  · rename_i s b l
    simp only [Bool.and_eq_true] at h
    cases l <;> simp [manyD] at h
    rename_i rs
    exact ⟨_, _, rs, rfl, h.1, by omega, h.2.2.1⟩
  · cases h
theorem eqD_dats {x y : D} (hx : x.isDat = true) (hy : y.isDat = true) (hd : x.dep ≤ 64) : eqD x y st = .ok (x.eqv y) st := by
  unfold eqD
  rw [see_dat hx, see_dat hy, hx, hy]
  have : min x.dep y.dep ≤ 64 := Nat.le_trans (Nat.min_le_left _ _) hd
  simp only [Bool.true_and, decide_eq_true_eq]
  rw [if_pos this]
theorem fits_within_spec [H_fits_within P] {a b n s t w i : D} {c : Int} {q : Bool} {rs es : List D} (ha : wordsD a 1 4 = true) (he : ∀ x ∈ es, entryD x = true) (hr : isDats rs = true) :
    calN P (k + 1) "fits_within" [.tup [a, b, n, .int c, s, t, .tup [w, .bl q, .tup rs], .tup es, i]] st = .ok (.bl (es.all (withinE a c q rs))) st := by
  rw [calN_at H_fits_within.at_fits_within, run_eq rfl]
  have c3 := fun l st => e_glbP (k := k) (H_fits_within.con_fits_within_BACK (P := P)) l st
  simp [f_fits_within, b_fits_within]
  have lp := for_all (bnd := bindTg (.tu [4, 5, 6, 7])) (body := evSs (gmN P k) (.cons (.ite (.or (.and (.cmp .ne (.var 4) (.var 1)) (.not (.ix (.var 3) (.int 1)))) (.and (.cmp .eq (.var 7) (.glb "BACK")) (.cmp .lt (.var 2) (.int 0)))) (.cons (.ret (.bl false))
    .nil) .nil)
    (.cons (.ite (.and (.cmp .ne (.var 7) (.glb "BACK")) (.and (.cmp .ne (.ix (.var 3) (.int 2)) (.tup .nil)) (.cmp .nmem (.var 7) (.ix (.var 3) (.int 2))))) (.cons (.ret (.bl false))
    .nil) .nil)
    .nil))) (st := st) (withinE a c q rs) (fun l => ∃ v x4 x5 x6 x7, l = [v, some a, some (.int c), some (.tup [w, .bl q, .tup rs]), x4, x5, x6, x7])
    (xs := es) (l := [some (.tup [a, b, n, .int c, s, t, .tup [w, .bl q, .tup rs], .tup es, i]), some a, some (.int c), some (.tup [w, .bl q, .tup rs]), none, none, none, none]) ⟨_, _, _, _, _, rfl⟩ (by
    rintro x hx l ⟨v, x4, x5, x6, x7, rfl⟩
    obtain ⟨o, u, z, r, rfl, ho, _, _, _⟩ := entry_of (he x hx)
    refine ⟨_, rfl, ?_⟩
    have e1 := fun st => eqD_dats (st := st) (words_good ho).1 (words_good ha).1 (Nat.le_trans (words_good ho).2 (by omega))
    have e2 := fun st => eqD_tnil hr st
    have e3 := fun st => mem_words hr r st
    by_cases h1 : r = "back"
    · subst h1
      by_cases h2 : c < 0 <;> cases h3 : rs.isEmpty <;> cases h5 : o.eqv a <;> cases q <;> simp [e1, e2, e3, c3, withinE, h2, h3, h5]
    · have h1' := beq_false_of_ne h1
      cases h3 : rs.isEmpty <;> cases h4 : inD (.str r) rs <;> cases h5 : o.eqv a <;> cases q <;> simp [e1, e2, e3, c3, withinE, h1, h1', h3, h4, h5])
  cases hall : es.all (withinE a c q rs) with
  | true =>
    rw [hall] at lp
    simp only [if_true] at lp
    obtain ⟨l2, ⟨v, x4, x5, x6, x7, rfl⟩, e⟩ := lp
    rw [e]
    simp
  | false =>
    rw [hall] at lp
    simp only [Bool.false_eq_true, if_false] at lp
    rw [lp]
    simp
theorem ret_no {G : Gm} {c : E} {ss : Ss} {l : Lo} (h : evB G c l st = .ok true st) : (evSs G (.cons (.ite c (.cons (.ret (.bl false)) .nil) .nil) ss) l st).res = .ok (.bl false) st := by
  simp only [ss_cons, s_ite, h, of_ok, ss_nil, s_ret]
  rfl
theorem ret_go {G : Gm} {c : E} {ss : Ss} {l : Lo} {X : R D} (h : evB G c l st = .ok false st) (q : (evSs G ss l st).res = X) : (evSs G (.cons (.ite c (.cons (.ret (.bl false)) .nil) .nil) ss) l st).res = X := by
  simp only [ss_cons, s_ite, h, of_ok, ss_nil]
  exact q
theorem cut2_entry {x : D} (h : entryD x = true) : ∃ a b, cut2 x = .tup [a, b] ∧ wordsD a 1 4 = true ∧ wholeD b 0 1000000 = true := by
  obtain ⟨a, b, c, r, rfl, h1, h2, _⟩ := entry_of h
  exact ⟨a, b, rfl, h1, h2⟩
theorem whole_int {d : D} {lo hi : Int} (h : wholeD d lo hi = true) : ∃ i, d = .int i ∧ lo ≤ i ∧ i ≤ hi := by
  cases d <;> simp [wholeD] at h
  exact ⟨_, rfl, h.1, h.2⟩
theorem cm_entry {x y : D} (hx : entryD x = true) (hy : entryD y = true) : Cm (cut2 x) (cut2 y) := by
  obtain ⟨a, b, e, h1, h2⟩ := cut2_entry hx
  obtain ⟨a', b', e', h1', h2'⟩ := cut2_entry hy
  obtain ⟨i, rfl, _⟩ := whole_int h2
  obtain ⟨i', rfl, _⟩ := whole_int h2'
  obtain ⟨g1, g2⟩ := words_good h1
  obtain ⟨g1', g2'⟩ := words_good h1'
  rw [e, e']
  exact cm_tup (cs_same (cmp_words h1 h1') (cs_pair (cm_int _ _))) (by simp [isDats, g1, D.isDat]) (by simp [isDats, g1', D.isDat]) (by simp only [deps, D.dep]; omega)
theorem fits_list_spec [H_fits_list P] {d : D} (hd : d.isDat = true) : calN P (k + 5) "fits_list" [d] st = .ok (.bl (listD d)) st := by
  obtain ⟨cN, eA, eN⟩ := H_fits_list.at_fits_list (P := P)
  rw [calN_at eA, run_eq rfl]
  have c1 := fun l st => e_glbP (k := k + 4) (H_fits_list.con_fits_list_KEYS (P := P)) l st
  have c2 := fun l st => e_glbP (k := k + 4) (H_fits_list.con_fits_list_TIMES (P := P)) l st
  have c3 := fun l st => e_glbP (k := k + 4) (H_fits_list.con_fits_list_ENTRIES (P := P)) l st
  have c4 := fun l st => e_glbP (k := k + 4) eN l st
  show (evSs (gmN P (k + 4)) (b_fits_list cN) [some d, none] st).res = _
  unfold b_fits_list
  by_cases h9 : tupD d 9 9 = true
  rotate_left
  · simp only [Bool.not_eq_true] at h9
    rw [ret_no st (by simp [is_tuple_of_spec _ _ _ _ hd, h9]), list_not h9]
  obtain ⟨a, b, n, c, s, t, w, es, i, rfl⟩ := nine_of h9
  have hs := isDat_tup hd
  have ha := hs a (by simp)
  have hb := hs b (by simp)
  have hn := hs n (by simp)
  have hc := hs c (by simp)
  have hss := hs s (by simp)
  have ht := hs t (by simp)
  have hw := hs w (by simp)
  have hes := hs es (by simp)
  have hi := hs i (by simp)
  show _ = R.ok (D.bl ((wordsD a 1 4 && wholeD b 0 4294967295) && (numB n c && (timeB s t && ((scopeD w && wholeD i 0 4294967295) && (entriesD es && within a c w es)))))) st
  by_cases h1 : (wordsD a 1 4 && wholeD b 0 4294967295) = true
  rotate_left
  · simp only [Bool.not_eq_true] at h1
    rw [h1, ret_no st ?_]
    · rfl
    · simp [is_tuple_of_spec _ _ _ _ hd, h9, fits_name_spec _ _ ha, c1, is_whole_spec _ _ _ _ hb]
      revert h1
      cases wordsD a 1 4 <;> cases wholeD b 0 4294967295 <;> simp
  have h1' := h1
  simp only [Bool.and_eq_true] at h1'
  refine ret_go st (by simp [is_tuple_of_spec _ _ _ _ hd, h9, fits_name_spec _ _ ha, c1, is_whole_spec _ _ _ _ hb, h1']) ?_
  rw [h1, Bool.true_and]
  have v2 : evB (gmN P (k + 4)) (.or (.not (.cal "is_whole" (.cons (.ix (.var 0) (.int 2)) (.cons (.int 0) (.cons (.glb cN) .nil))))) (.not (.cal "is_whole" (.cons (.ix (.var 0) (.int 3)) (.cons (.neg (.int 1)) (.cons (.bin .sub (.ix (.var 0) (.int 2)) (.int 1)) .nil)))))) [some (.tup [a, b, n, c, s, t, w, es, i]), none] st = .ok (!numB n c) st := by
    simp [c4, is_whole_spec _ _ _ _ hn]
    cases n <;> simp [wholeD, numB, is_whole_spec _ _ _ _ hc]
    rename_i m
    by_cases g : 0 ≤ m ∧ m ≤ 1000000
    · simp [g]
    · rw [show (decide (0 ≤ m) && decide (m ≤ 1000000)) = false from by rw [Bool.eq_false_iff]; simpa using g]
      simp
      intro _; omega
  have v3 : evB (gmN P (k + 4)) (.or (.not (.cal "is_whole" (.cons (.ix (.var 0) (.int 4)) (.cons (.int 0) (.cons (.glb "TIMES") .nil))))) (.not (.cal "is_whole" (.cons (.ix (.var 0) (.int 5)) (.cons (.ix (.var 0) (.int 4)) (.cons (.glb "TIMES") .nil)))))) [some (.tup [a, b, n, c, s, t, w, es, i]), none] st = .ok (!timeB s t) st := by
    simp [c2, is_whole_spec _ _ _ _ hss]
    cases s <;> simp [wholeD, timeB, is_whole_spec _ _ _ _ ht]
    rename_i m
    by_cases g : 0 ≤ m ∧ m ≤ 1000000000
    · simp [g]
    · rw [show (decide (0 ≤ m) && decide (m ≤ 1000000000)) = false from by rw [Bool.eq_false_iff]; simpa using g]
      simp
      intro _; omega
  by_cases h2 : numB n c = true
  rotate_left
  · simp only [Bool.not_eq_true] at h2
    rw [h2] at v2
    rw [ret_no st v2, h2]; rfl
  rw [h2] at v2
  refine ret_go st v2 ?_
  rw [h2, Bool.true_and]
  by_cases h3 : timeB s t = true
  rotate_left
  · simp only [Bool.not_eq_true] at h3
    rw [h3] at v3
    rw [ret_no st v3, h3]; rfl
  rw [h3] at v3
  refine ret_go st v3 ?_
  rw [h3, Bool.true_and]
  by_cases h4 : (scopeD w && wholeD i 0 4294967295) = true
  rotate_left
  · simp only [Bool.not_eq_true] at h4
    rw [h4, ret_no st ?_]
    · rfl
    · simp [fits_scope_spec _ _ hw, c1, is_whole_spec _ _ _ _ hi]
      revert h4
      cases scopeD w <;> cases wholeD i 0 4294967295 <;> simp
  have h4' := h4
  simp only [Bool.and_eq_true] at h4'
  refine ret_go st (by simp [fits_scope_spec _ _ hw, c1, is_whole_spec _ _ _ _ hi, h4']) ?_
  rw [h4, Bool.true_and]
  by_cases h5 : ∃ xs, es = .tup xs
  rotate_left
  · have e5 : tupD es 0 30 = false := by cases es <;> first | rfl | exact absurd ⟨_, rfl⟩ h5
    have e6 : entriesD es = false := by cases es <;> first | rfl | exact absurd ⟨_, rfl⟩ h5
    rw [e6, ret_no st (by simp [c3, is_tuple_of_spec _ _ _ _ hes, e5])]; rfl
  obtain ⟨xs, rfl⟩ := h5
  have hx := isDat_tup hes
  have l1 : ∀ st, lcGo (fun d => bindTg (.nm 1) d (wipeD [some (.tup [a, b, n, c, s, t, w, .tup xs, i]), none] [1])) (evC (gmN P (k + 4)) .none) (evE (gmN P (k + 4)) (.cal "fits_entry" (.cons (.var 1) .nil))) xs [] st = .ok (.lst (xs.map fun x => .bl (entryD x))) st := fun st =>
    lc_all st entryD fun x hx' => by simp [wipeD, fits_entry_spec _ _ (hx x hx')]
  have t5 : tupD (.tup xs) 0 30 = decide ((xs.length : Int) ≤ 30) := by simp [tupD]
  by_cases h6 : (decide ((xs.length : Int) ≤ 30) && xs.all entryD) = true
  rotate_left
  · have e6 : entriesD (.tup xs) = false := by
      simp only [Bool.not_eq_true] at h6
      rw [entriesD, ← Bool.and_assoc, h6]; rfl
    rw [e6, ret_no st ?_]
    · rfl
    · simp [c3, is_tuple_of_spec _ _ _ _ hes, t5, l1, all_of]
      revert h6
      cases decide ((xs.length : Int) ≤ 30) <;> cases xs.all entryD <;> simp
  have h6' := h6
  simp only [Bool.and_eq_true, decide_eq_true_eq] at h6'
  have he := List.all_eq_true.mp h6'.2
  refine ret_go st (by simp [c3, is_tuple_of_spec _ _ _ _ hes, t5, l1, all_of, h6']) ?_
  have l2 : ∀ st, lcGo (fun d => bindTg (.nm 1) d (wipeD [some (.tup [a, b, n, c, s, t, w, .tup xs, i]), none] [1])) (evC (gmN P (k + 4)) .none) (evE (gmN P (k + 4)) (.sl (.var 1) .none (.some (.int 2)))) xs [] st = .ok (.lst (xs.map cut2)) st := fun st =>
    lc_map cut2 fun x hx' => by
      obtain ⟨a', b', c', r', rfl, _⟩ := entry_of (he x hx')
      refine ⟨_, rfl, rfl, ?_⟩
      simp [wipeD, cut2]
      rfl
  have ia : ∀ st, calN P (k + 4) "is_ascending" [.tup (xs.map cut2)] st = .ok (.bl (ascD (xs.map cut2))) st := fun st => is_ascending_spec (k + 3) st fun p hp q hq => by
    obtain ⟨x, hx1, rfl⟩ := List.mem_map.mp hp
    obtain ⟨y, hy1, rfl⟩ := List.mem_map.mp hq
    exact cm_entry (he x hx1) (he y hy1)
  obtain ⟨w1, q, rs, rfl, _, _, hrs⟩ := scope_of h4'.1
  have hci : ∃ j, c = .int j := by
    unfold numB at h2
    split at h2
    · simp only [Bool.and_eq_true] at h2
      obtain ⟨j, e, _⟩ := whole_int h2.2
      exact ⟨j, e⟩
    · cases h2
  obtain ⟨j, rfl⟩ := hci
  have dr : isDats rs = true := isDats_all.mpr fun x hx => (wIn_good (hrs x hx)).1
  have fw := fun st => fits_within_spec (P := P) (k + 3) st (a := a) (b := b) (n := n) (s := s) (t := t) (w := .str w1) (i := i) (c := j) (q := q) (rs := rs) (es := xs) h1'.1 he dr
  simp [l2, ia, fw, within, entriesD, h6']
theorem need_list_spec [H_need_list P] {d : D} (hd : d.isDat = true) : calN P (k + 6) "need_list" [d] st = if listD d then .ok .non st else .exc "InvalidList" .non st := by
  rw [calN_at H_need_list.at_need_list, run_eq rfl]
  simp [f_need_list, b_need_list, fits_list_spec _ _ hd]
  cases listD d <;> simp
theorem is_list_spec [H_is_list P] {d : D} (hd : d.isDat = true) : calN P (k + 6) "is_list" [d] st = .ok (.bl (listD d)) st := by
  rw [calN_at H_is_list.at_is_list, run_eq rfl]
  simp [f_is_list, b_is_list, fits_list_spec _ _ hd]
end
/-! ### rows of a bounded length -/
structure RowB (d : D) (m : Nat) : Prop where
  ok : rowOk d = true
  few : (rowOf d).length ≤ m
structure RowsB (xs : List D) (m : Nat) : Prop where
  ok : rowsOk xs = true
  few : (rowsOf xs).length ≤ m
theorem RowB.up {d : D} {m n : Nat} (h : RowB d m) (g : m ≤ n) : RowB d n := ⟨h.ok, Nat.le_trans h.few g⟩
theorem rowB_bl (b : Bool) : RowB (.bl b) 2 := ⟨rfl, Nat.le_refl _⟩
theorem rowB_int {i : Int} (h0 : -1 ≤ i) (h1 : i < 1000000000000) : RowB (.int i) 8 := ⟨by simp [rowOk, h0, h1], by
  have := groupsN_len 6 (i + 1)
  simp only [rowOf, List.length_cons]
  unfold groups
  omega⟩
theorem rowB_str {x : Str} {n : Nat} (h : x.length ≤ n) (hn : n < 1000000) : RowB (.str x) (8 + n) := ⟨by simp only [rowOk, decide_eq_true_eq]; omega, by
  have := groupsN_len 6 (x.length : Int)
  simp only [rowOf, List.length_cons, List.length_append, List.length_map]
  unfold groups
  have e : x.cps.toList.length = x.length := by simp; rfl
  omega⟩
theorem rowsB_nil : RowsB [] 0 := ⟨rfl, Nat.le_refl _⟩
theorem rowsB_cons {x : D} {xs : List D} {m n : Nat} (h : RowB x m) (t : RowsB xs n) : RowsB (x :: xs) (m + n) := ⟨by simp [rowsOk, h.ok, t.ok], by
  have := h.few
  have := t.few
  simp only [rowsOf, List.length_append]
  omega⟩
theorem rowsB_all {xs : List D} {m : Nat} (h : ∀ x ∈ xs, RowB x m) : RowsB xs (xs.length * m) := by
  induction xs with
  | nil => exact ⟨rfl, by simp [rowsOf]⟩
  | cons x xs ih =>
    have := rowsB_cons (h x List.mem_cons_self) (ih fun y hy => h y (List.mem_cons_of_mem _ hy))
    refine ⟨this.ok, Nat.le_trans this.few ?_⟩
    rw [List.length_cons, Nat.add_mul]
    omega
theorem rowB_tup {xs : List D} {m : Nat} (h : RowsB xs m) (hn : xs.length < 1000000) : RowB (.tup xs) (8 + m) := ⟨by simp [rowOk, h.ok, hn], by
  have := groupsN_len 6 (xs.length : Int)
  have := h.few
  simp only [rowOf, List.length_cons, List.length_append]
  unfold groups
  omega⟩
theorem rowB_many {xs : List D} {m n : Nat} (h : ∀ x ∈ xs, RowB x m) (hl : xs.length ≤ n) (hn : n < 1000000) : RowB (.tup xs) (8 + n * m) :=
  (rowB_tup (rowsB_all h) (by omega)).up (Nat.add_le_add_left (Nat.mul_le_mul_right m hl) 8)
theorem rowB_word {d : D} (h : wordD d = true) : RowB d 20 := by
  obtain ⟨x, rfl⟩ := isStr_iff.mp (word_str h)
  simp only [wordD, Bool.and_eq_true, decide_eq_true_eq] at h
  exact rowB_str (n := 12) h.1.2 (by omega)
theorem rowB_words {d : D} {lo hi : Int} (h : wordsD d lo hi = true) (h4 : hi ≤ 4) : RowB d 88 := by
  obtain ⟨xs, rfl, _, h2, h3⟩ := words_tup h
  exact rowB_many (n := 4) (fun x hx => rowB_word (h3 x hx)) (by omega) (by omega)
theorem rowB_whole {d : D} {lo hi : Int} (h : wholeD d lo hi = true) (h1 : -1 ≤ lo) (h2 : hi < 1000000000000) : RowB d 8 := by
  obtain ⟨i, rfl, a, b⟩ := whole_int h
  exact rowB_int (by omega) (by omega)
theorem len_in {ws : List D} {x : Str} {n : Nat} (hw : ∀ d ∈ ws, ∃ y : Str, d = .str y ∧ y.length ≤ n) (h : inD (.str x) ws = true) : x.length ≤ n := by
  unfold inD at h
  obtain ⟨d, hd, e⟩ := List.any_eq_true.mp h
  obtain ⟨y, rfl, hl⟩ := hw d hd
  have : y = x := by simpa [D.eqv] using e
  rw [← this]; exact hl
theorem rowB_wIn {ws : List D} {d : D} {n : Nat} (hn : n < 1000000) (hw : ∀ d ∈ ws, ∃ y : Str, d = .str y ∧ y.length ≤ n) (h : wIn ws d = true) : RowB d (8 + n) := by
  obtain ⟨x, rfl⟩ := isStr_iff.mp (wIn_str h)
  unfold wIn at h
  rw [Bool.and_eq_true] at h
  exact rowB_str (len_in hw h.2) hn
theorem reasons_short : ∀ d ∈ reasonsW ++ [D.str "back"], ∃ y : Str, d = .str y ∧ y.length ≤ 12 := by
  intro d hd
  simp only [reasonsW, List.cons_append, List.nil_append, List.mem_cons, List.not_mem_nil, or_false] at hd
  rcases hd with rfl | rfl | rfl | rfl | rfl | rfl | rfl | rfl <;> exact ⟨_, rfl, by decide⟩
theorem scopes_short : ∀ d ∈ scopesW, ∃ y : Str, d = .str y ∧ y.length ≤ 12 := by
  intro d hd
  simp only [scopesW, List.mem_cons, List.not_mem_nil, or_false] at hd
  rcases hd with rfl | rfl | rfl <;> exact ⟨_, rfl, by decide⟩
/-! ### the form of a list -/
structure ListF (a : D) (b n c s t : Int) (w : Str) (q : Bool) (rs xs : List D) (i : Int) : Prop where
  wa : wordsD a 1 4 = true
  wb : 0 ≤ b ∧ b ≤ 4294967295
  wn : 0 ≤ n ∧ n ≤ 1000000
  wc : -1 ≤ c ∧ c ≤ n - 1
  ws : 0 ≤ s ∧ s ≤ 1000000000
  wt : s ≤ t ∧ t ≤ 1000000000
  ww : scopeD (.tup [.str w, .bl q, .tup rs]) = true
  wi : 0 ≤ i ∧ i ≤ 4294967295
  we : entriesD (.tup xs) = true
  wx : xs.all (withinE a c q rs) = true
theorem ListF.is {a : D} {b n c s t : Int} {w : Str} {q : Bool} {rs xs : List D} {i : Int} (F : ListF a b n c s t w q rs xs i) : listD (.tup [a, .int b, .int n, .int c, .int s, .int t, .tup [.str w, .bl q, .tup rs], .tup xs, .int i]) = true := by
  simp only [listD, numB, timeB, wholeD, within, F.wa, F.we, F.wx, F.ww, Bool.and_eq_true, Bool.true_and, Bool.and_true, decide_eq_true_eq]
  exact ⟨F.wb, ⟨F.wn, F.wc⟩, ⟨F.ws, F.wt⟩, F.wi⟩
theorem list_of {d : D} (h : listD d = true) : ∃ a b n c s t w q rs xs i, d = .tup [a, .int b, .int n, .int c, .int s, .int t, .tup [.str w, .bl q, .tup rs], .tup xs, .int i] ∧ ListF a b n c s t w q rs xs i := by
  unfold listD at h
  split at h
  · rename_i a b n c s t w es i
    simp only [Bool.and_eq_true] at h
    obtain ⟨⟨h1, h2⟩, h3, h4, ⟨h5, h6⟩, h7, h8⟩ := h
    obtain ⟨w1, q, rs, rfl, _⟩ := scope_of h5
    obtain ⟨b', rfl, hb⟩ := whole_int h2
    obtain ⟨i', rfl, hi⟩ := whole_int h6
    unfold numB at h3
    split at h3
    · rename_i n'
      simp only [Bool.and_eq_true] at h3
      obtain ⟨c', rfl, hc⟩ := whole_int h3.2
      unfold timeB at h4
      split at h4
      · rename_i s'
        simp only [Bool.and_eq_true] at h4
        obtain ⟨t', rfl, ht⟩ := whole_int h4.2
        have h7' := h7
        unfold entriesD at h7'
        split at h7'
        · rename_i xs
          refine ⟨_, _, _, _, _, _, _, _, _, xs, _, rfl, h1, hb, ?_, hc, ?_, ht, h5, hi, h7, h8⟩
          · simpa [wholeD] using h3.1
          · simpa [wholeD] using h4.1
        · cases h7'
      · cases h4
    · cases h3
  · cases h
theorem entry_good {x : D} (h : entryD x = true) : x.isDat = true ∧ x.dep ≤ 2 ∧ RowB x 132 := by
  obtain ⟨a, b, c, r, rfl, h1, h2, h3, h4⟩ := entry_of h
  obtain ⟨g1, g2⟩ := words_good h1
  obtain ⟨g3, g4⟩ := whole_good h2
  obtain ⟨g5, g6⟩ := whole_good h3
  refine ⟨by simp [D.isDat, isDats, g1, g3, g5], by simp only [D.dep, deps]; omega, ?_⟩
  exact rowB_tup (rowsB_cons (rowB_words h1 (by omega)) (rowsB_cons (rowB_whole h2 (by omega) (by omega)) (rowsB_cons (rowB_whole h3 (by omega) (by omega)) (rowsB_cons (rowB_str (n := 12) (len_in reasons_short h4) (by omega)) rowsB_nil)))) (by simp)
theorem scope_good {d : D} (h : scopeD d = true) : d.isDat = true ∧ d.dep ≤ 2 ∧ RowB d 158 := by
  obtain ⟨w, q, rs, rfl, h1, h2, h3⟩ := scope_of h
  have g := fun x hx => wIn_good (h3 x hx)
  have r := fun x hx => rowB_wIn (n := 12) (by omega) (fun d hd => reasons_short d (List.mem_append_left _ hd)) (h3 x hx)
  have d1 := dat_tup fun x hx => (g x hx).1
  have d2 := dep_tup (n := 0) fun x hx => (g x hx).2
  refine ⟨by simp [D.isDat, isDats] at d1 ⊢; exact d1, by simp only [D.dep, deps] at d2 ⊢; omega, ?_⟩
  exact rowB_tup (rowsB_cons (rowB_str (n := 12) (len_in scopes_short h1) (by omega)) (rowsB_cons (rowB_bl q) (rowsB_cons (rowB_many (n := 6) r h2 (by omega)) rowsB_nil))) (by simp)
section
variable {a : D} {b n c s t : Int} {w : Str} {q : Bool} {rs xs : List D} {i : Int}
theorem ListF.ents (F : ListF a b n c s t w q rs xs i) : xs.length ≤ 30 ∧ ∀ x ∈ xs, entryD x = true := by
  have h := F.we
  simp only [entriesD, Bool.and_eq_true, decide_eq_true_eq, List.all_eq_true] at h
  exact ⟨by omega, h.2.1⟩
theorem ListF.good (F : ListF a b n c s t w q rs xs i) (i' : D) (hi : i'.isDat = true) (hd : i'.dep ≤ 2) : (D.tup [a, .int b, .int n, .int c, .int s, .int t, .tup [.str w, .bl q, .tup rs], .tup xs, i']).isDat = true ∧ (D.tup [a, .int b, .int n, .int c, .int s, .int t, .tup [.str w, .bl q, .tup rs], .tup xs, i']).dep ≤ 4 := by
  obtain ⟨g1, g2⟩ := words_good F.wa
  obtain ⟨g3, g4, _⟩ := scope_good F.ww
  have e := fun x hx => entry_good (F.ents.2 x hx)
  have d1 := dat_tup fun x hx => (e x hx).1
  have d2 := dep_tup (n := 2) fun x hx => (e x hx).2.1
  constructor
  · simp only [D.isDat, isDats] at g3 d1 ⊢
    simp [g1, d1, hi]
    simpa using g3
  · simp only [D.dep, deps] at g4 d2 ⊢
    omega
theorem ListF.seal (F : ListF a b n c s t w q rs xs i) : SealOk a (.int b) (.int n) (.int c) (.int s) (.int t) (.tup [.str w, .bl q, .tup rs]) (.tup xs) := by
  obtain ⟨g3, g4, g5⟩ := scope_good F.ww
  have e := fun x hx => entry_good (F.ents.2 x hx)
  obtain ⟨wb1, wb2⟩ := F.wb
  obtain ⟨wn1, wn2⟩ := F.wn
  obtain ⟨wc1, wc2⟩ := F.wc
  obtain ⟨ws1, ws2⟩ := F.ws
  obtain ⟨wt1, wt2⟩ := F.wt
  have B := rowB_tup (rowsB_cons (rowB_words F.wa (by omega)) (rowsB_cons (rowB_int (i := b) (by omega) (by omega)) (rowsB_cons (rowB_int (i := n) (by omega) (by omega)) (rowsB_cons (rowB_int (i := c) (by omega) (by omega))
    (rowsB_cons (rowB_int (i := s) (by omega) (by omega)) (rowsB_cons (rowB_int (i := t) (by omega) (by omega)) (rowsB_cons g5 (rowsB_cons (rowB_many (n := 30) (fun x hx => (e x hx).2.2) F.ents.1 (by omega)) rowsB_nil)))))))) (by simp)
  refine ⟨B.ok, ?_, Nat.le_trans B.few (by omega)⟩
  have := (F.good (.int 0) rfl (by simp [D.dep])).2
  simp only [D.dep, deps] at this ⊢
  omega
end
end CP

set_option Elab.async false
set_option linter.all false
set_option maxRecDepth 100000
set_option autoImplicit false
/-! LibD: dicts that change, behind the cup. -/
namespace CP
open PySem L2
structure DictI (P : Key → D → Prop) (n : Nat) (ks : List Key) (ds : List D) : Prop where
  nd : ks.Nodup
  len : ks.length = ds.length
  few : ks.length ≤ n
  ok : ∀ k d, (k, d) ∈ ks.zip ds → P k d
structure KCup (rest : So) (ks : List Key) (ds : List D) (st : So) : Prop where
  ex : Cup (rest ++ [.dct ks ds]) st
theorem dgetD_zip : ∀ {ks : List Key} {ds : List D} {k : Key}, ks.length = ds.length → k ∈ ks → ∃ d, dgetD ks ds k = some d ∧ (k, d) ∈ ks.zip ds
  | [], _, _, _, h => by cases h
  | y :: ks, [], _, hl, _ => by cases hl
  | y :: ks, d :: ds, k, hl, hk => by
    show ∃ d', (if y = k then some d else dgetD ks ds k) = some d' ∧ _
    by_cases e : y = k
    · exact ⟨d, by rw [if_pos e], by rw [e]; exact List.mem_cons_self⟩
    · rw [if_neg e]
      rcases List.mem_cons.mp hk with z | z
      · exact absurd z.symm e
      · obtain ⟨d', h1, h2⟩ := dgetD_zip (ks := ks) (ds := ds) (k := k) (by simpa using hl) z
        exact ⟨d', h1, List.mem_cons_of_mem _ h2⟩
theorem dgetD_no : ∀ {ks : List Key} {ds : List D} {k : Key}, k ∉ ks → dgetD ks ds k = none
  | [], _, _, _ => rfl
  | y :: ks, [], _, _ => rfl
  | y :: ks, d :: ds, k, hk => by
    show (if y = k then some d else dgetD ks ds k) = none
    rw [if_neg (fun z => hk (by rw [z]; exact List.mem_cons_self))]
    exact dgetD_no fun h => hk (List.mem_cons_of_mem _ h)
theorem dsetD_len : ∀ (ks : List Key) (ds : List D) (k : Key) (d : D), (dsetD ks ds k d).length = ds.length
  | [], ds, _, _ => by cases ds <;> rfl
  | _ :: _, [], _, _ => rfl
  | y :: ks, x :: ds, k, d => by
    show ((if y = k then d else x) :: dsetD ks ds k d).length = _
    rw [List.length_cons, dsetD_len ks ds k d, List.length_cons]
theorem dsetD_zip : ∀ {ks : List Key} {ds : List D} {k : Key} {d : D} {k' : Key} {d' : D}, (k', d') ∈ ks.zip (dsetD ks ds k d) → (k' = k ∧ d' = d) ∨ (k', d') ∈ ks.zip ds
  | [], ds, _, _, _, _, h => by cases ds <;> cases h
  | _ :: _, [], _, _, _, _, h => by cases h
  | y :: ks, x :: ds, k, d, k', d', h => by
    have h : (k', d') ∈ (y :: ks).zip ((if y = k then d else x) :: dsetD ks ds k d) := h
    rw [List.zip_cons_cons] at h
    rcases List.mem_cons.mp h with h | h
    · by_cases e : y = k
      · rw [if_pos e] at h
        cases h
        exact .inl ⟨e, rfl⟩
      · rw [if_neg e] at h
        cases h
        exact .inr List.mem_cons_self
    · rcases dsetD_zip h with h | h
      · exact .inl h
      · exact .inr (List.mem_cons_of_mem _ h)
section
variable {P : Key → D → Prop} {n : Nat} {rest st : So} {ks : List Key} {ds : List D}
theorem DictI.nil : DictI P n [] [] := ⟨List.nodup_nil, rfl, Nat.zero_le _, fun k d h => by cases h⟩
theorem DictI.up (I : DictI P n ks ds) {m : Nat} (h : n ≤ m) : DictI P m ks ds := ⟨I.nd, I.len, Nat.le_trans I.few h, I.ok⟩
theorem DictI.put (I : DictI P n ks ds) {k : Key} {v : D} (hp : P k v) : ∃ ks' ds', dputD ks ds k v = .dct ks' ds' ∧ DictI P (n + 1) ks' ds' := by
  by_cases hk : k ∈ ks
  · obtain ⟨d, e, _⟩ := dgetD_zip I.len hk
    refine ⟨ks, dsetD ks ds k v, by unfold dputD; rw [e], I.nd, by rw [dsetD_len, I.len], Nat.le_succ_of_le I.few, fun k' d' h => ?_⟩
    rcases dsetD_zip h with ⟨rfl, rfl⟩ | h
    · exact hp
    · exact I.ok _ _ h
  · refine ⟨ks ++ [k], ds ++ [v], by unfold dputD; rw [dgetD_no hk], ?_, by simp [I.len], by simp [I.few], fun k' d' h => ?_⟩
    · rw [List.nodup_append]
      exact ⟨I.nd, by simp, fun a ha b hb z => hk (by rw [← List.mem_singleton.mp hb, ← z]; exact ha)⟩
    · rw [List.zip_append I.len] at h
      rcases List.mem_append.mp h with h | h
      · exact I.ok _ _ h
      · simp at h
        obtain ⟨rfl, rfl⟩ := h
        exact hp
theorem KCup.at (h : KCup rest ks ds st) : st[rest.length + 1]? = some (.dct ks ds) := by
  rw [cup_get h.ex, List.getElem?_append_right (Nat.le_refl _), Nat.sub_self]; rfl
theorem KCup.new (h : Cup rest st) : KCup rest [] [] (st ++ [.dct [] []]) := ⟨cup_app h _⟩
theorem KCup.set (h : KCup rest ks ds st) (o : Ob) : Cup (rest ++ [o]) (st.set (rest.length + 1) o) := by
  have := cup_set h.ex rest.length o
  rwa [List.set_append_right _ _ (Nat.le_refl _), Nat.sub_self] at this
theorem KCup.put (h : KCup rest ks ds st) (I : DictI P n ks ds) (hz : n < sizeLine) {y : D} {k : Key} (hk : keyD y = some k) {v : D} (hp : P k v) : ∃ ks' ds' st1, putOb (rest.length + 1) y v st = some st1 ∧ KCup rest ks' ds' st1 ∧ DictI P (n + 1) ks' ds' := by
  obtain ⟨ks', ds', e, I'⟩ := I.put (v := v) hp
  refine ⟨ks', ds', st.set (rest.length + 1) (.dct ks' ds'), ?_, ⟨h.set _⟩, I'⟩
  unfold putOb
  rw [h.at]
  simp only [hk]
  rw [if_pos (Nat.lt_of_le_of_lt I.few hz), e]
theorem KCup.get (h : KCup rest ks ds st) (I : DictI P n ks ds) {k : Key} (hk : k ∈ ks) : ∃ d, dgetD ks ds k = some d ∧ P k d ∧ ixD (.ref (rest.length + 1)) (keyVal k) st = .ok d st := by
  obtain ⟨d, e, hz⟩ := dgetD_zip I.len hk
  refine ⟨d, e, I.ok _ _ hz, ?_⟩
  have kk : keyD (keyVal k) = some k := by cases k <;> rfl
  show ixO (rest.length + 1) (keyVal k) st = _
  unfold ixO
  rw [h.at]
  simp [kk, e]
theorem KCup.sorted (h : KCup rest ks ds st) (hl : ks.length < 64) (hs : sortOk (ks.map keyVal) = true) : biD .sorted [.ref (rest.length + 1)] st = .ok (.lst (isortD (ks.map keyVal))) st := by
  have e1 : keysOf (.ref (rest.length + 1)) st = some ks := by
    unfold keysOf
    simp only [h.at]
  show (match keysOf (.ref (rest.length + 1)) st with
    | some ks => if ks.length < 64 then sortR (ks.map keyVal) st else .bad
    | none => match seqOf (.ref (rest.length + 1)) st with
      | some xs => sortR xs st
      | none => .bad) = _
  rw [e1]
  simp only
  rw [if_pos hl, sortR_of hs]
end
theorem ints_cmp {ks : List D} (h : ∀ d ∈ ks, ∃ i, d = .int i) : ∀ a ∈ ks, ∀ b ∈ ks, ∃ o, cmpD a b = some o := fun a ha b hb => by
  obtain ⟨x, rfl⟩ := h a ha
  obtain ⟨y, rfl⟩ := h b hb
  obtain ⟨o, e, _⟩ := cm_int x y
  exact ⟨o, e⟩
theorem ints_sortOk {ks : List D} (h : ∀ d ∈ ks, ∃ i, d = .int i) : sortOk ks = true := sortOk_iff.mpr ⟨ints_cmp h, fun a ha => by
  obtain ⟨x, rfl⟩ := h a ha; rfl, by
    refine Nat.le_trans ((deps_le (n := 0)).mpr fun a ha => ?_) (by omega)
    obtain ⟨x, rfl⟩ := h a ha; exact Nat.le_refl _⟩
theorem ascD_map (f : D → D) : ∀ {xs : List D}, (∀ x ∈ xs, ∀ y ∈ xs, cmpD (f x) (f y) = cmpD x y) → ascD (xs.map f) = ascD xs
  | [], _ => rfl
  | [_], _ => rfl
  | x :: y :: r, h => by
    have ih := ascD_map f (xs := y :: r) fun a ha b hb => h a (List.mem_cons_of_mem _ ha) b (List.mem_cons_of_mem _ hb)
    rw [List.map_cons] at ih
    show ((cmpD (f x) (f y) == some .lt) && ascD (f y :: r.map f)) = ((cmpD x y == some .lt) && ascD (y :: r))
    rw [ih, h x List.mem_cons_self y (List.mem_cons_of_mem _ List.mem_cons_self)]
theorem cmp_pair {a : D} {lo hi : Int} (h : wordsD a lo hi = true) (x y : D) : cmpD (.tup [a, x]) (.tup [a, y]) = cmpD x y := by
  obtain ⟨o, e, _⟩ := cmp_words h h
  have := cmp_self e
  subst this
  simp only [cmpD, cmpsD, e]
  cases cmpD x y with
  | none => rfl
  | some o => cases o <;> rfl
theorem keys_nodup {ks : List Key} (h : ks.Nodup) : (ks.map keyVal).Nodup := List.Pairwise.map _ (fun a b n z => n (by cases a <;> cases b <;> simp [keyVal] at z <;> rw [z])) h
def namesL : List D := [.tup [.str "r"], .tup [.str "r", .str "a"], .tup [.str "r", .str "b"], .tup [.str "r", .str "a", .str "c"], .tup [.str "s"], .tup [.str "s", .str "d"]]
theorem namesL_ok : ∀ x ∈ namesL, wordsD x 1 4 = true := by
  intro x hx
  simp only [namesL, List.mem_cons, List.not_mem_nil, or_false] at hx
  rcases hx with rfl | rfl | rfl | rfl | rfl | rfl <;> decide +kernel
theorem name_rule' {P : Pg} {k : Nat} {rest st : So} {K : D → So → Prop} [H_law_name P] (h : Cup rest st) (q : ∀ x st1, x ∈ namesL → Cup rest st1 → K x st1) : Ok (calN P (k + 3) "_law_name" [.ref 0] st) K := by
  rw [calN_at H_law_name.at_law_name]
  apply Ok_body rfl
  simp [f_law_name, b_law_name]
  exact some_rule h (by simp) (by simp) fun x hx st1 c => q x st1 hx c
end CP

set_option Elab.async false
set_option linter.all false
set_option maxRecDepth 100000
set_option autoImplicit false
/-! LibK: defs shared by laws. -/
namespace CP
open PySem L2
def b_law_certificate : Ss :=
    (.cons (.par 5 6 (.cal "_law_some" (.cons (.var 0) (.cons (.lst (.cons (.tup (.cons (.str "r") .nil)) (.cons (.tup (.cons (.str "r") (.cons (.str "a") .nil))) .nil))) .nil))) .mdc)
    (.cons (.set 1 (.ite (.cmp .eq (.cal "_law_roll" (.cons (.var 0) (.cons (.int 2) .nil))) (.int 0)) (.var 5) (.cal "_law_some" (.cons (.var 0) (.cons (.lst (.cons (.tup (.cons (.str "r") (.cons (.str "b") .nil))) (.cons (.tup (.cons (.str "s") .nil)) (.cons (.tup (.cons (.str "r") (.cons (.str "a") (.cons (.str "c") .nil)))) .nil)))) .nil)))))
    (.cons (.ite (.cmp .gt (.cal "_law_roll" (.cons (.var 0) (.cons (.int 5) .nil))) (.int 0)) (.cons (.sub (.var 6) (.str "basic") (.tup (.cons (.bl true) (.cons (.cal "_law_some" (.cons (.var 0) (.cons (.lst (.cons (.neg (.int 1)) (.cons (.neg (.int 1)) (.cons (.neg (.int 1)) (.cons (.int 0) (.cons (.int 1) (.cons (.int 2) (.cons (.int 8) .nil)))))))) .nil))) .nil))))
    .nil) (.cons (.ite (.cmp .eq (.cal "_law_roll" (.cons (.var 0) (.cons (.int 2) .nil))) (.int 0)) (.cons (.sub (.var 6) (.str "basic") (.tup (.cons (.bl false) (.cons (.neg (.int 1)) .nil))))
    .nil) .nil)
    .nil))
    (.cons (.ite (.cmp .eq (.cal "_law_roll" (.cons (.var 0) (.cons (.int 3) .nil))) (.int 0)) (.cons (.set 7 (.lst (.cons (.tup (.cons (.str "certs") .nil)) (.cons (.tup (.cons (.str "certs") (.cons (.str "lists") .nil))) (.cons (.tup (.cons (.str "sign") .nil)) (.cons (.tup (.cons (.str "agree") .nil)) (.cons (.tup .nil) .nil)))))))
    (.cons (.sub (.var 6) (.str "uses") (.cal "_law_some" (.cons (.var 0) (.cons (.bin .add (.var 7) (.lst (.cons (.tup (.cons (.str "agree") (.cons (.str "certs") (.cons (.str "lists") (.cons (.str "sign") .nil))))) .nil))) .nil))))
    .nil)) .nil)
    (.cons (.ite (.cmp .eq (.cal "_law_roll" (.cons (.var 0) (.cons (.int 3) .nil))) (.int 0)) (.cons (.set 7 (.lst (.cons (.tup (.cons (.str "serve") .nil)) (.cons (.tup (.cons (.str "call") (.cons (.str "serve") .nil))) (.cons (.tup (.cons (.str "any") .nil)) (.cons (.tup (.cons (.str "any") (.cons (.str "call") .nil))) (.cons (.tup (.cons (.str "stamp") .nil)) (.cons (.tup .nil) .nil))))))))
    (.cons (.sub (.var 6) (.str "purposes") (.cal "_law_some" (.cons (.var 0) (.cons (.bin .add (.var 7) (.lst (.cons (.tup (.cons (.str "call") (.cons (.str "serve") (.cons (.str "sign") (.cons (.str "stamp") .nil))))) .nil))) .nil))))
    .nil)) .nil)
    (.cons (.set 2 (.cal "_law_some" (.cons (.var 0) (.cons (.lst (.cons (.int 0) (.cons (.int 0) (.cons (.int 0) (.cons (.int 1) (.cons (.int 3) (.cons (.int 6) .nil))))))) .nil))))
    (.cons (.set 3 (.bin .add (.var 2) (.cal "_law_some" (.cons (.var 0) (.cons (.lst (.cons (.int 9) (.cons (.int 9) (.cons (.int 9) (.cons (.int 4) (.cons (.int 1) (.cons (.int 0) (.cons (.bin .sub (.bin .pow (.int 10) (.int 9)) (.var 2)) .nil)))))))) .nil)))))
    (.cons (.set 4 (.tup (.cons (.cal "_law_roll" (.cons (.var 0) (.cons (.int 9) .nil))) (.cons (.var 5) (.cons (.var 1) (.cons (.cal "_law_roll" (.cons (.var 0) (.cons (.int 5) .nil))) (.cons (.cal "_law_roll" (.cons (.var 0) (.cons (.int 5) .nil))) (.cons (.var 2) (.cons (.var 3) .nil)))))))))
    (.cons (.ret (.bin .add (.var 4) (.tup (.cons (.cal "_law_parts" (.cons (.var 6) .nil)) (.cons (.cal "_law_roll" (.cons (.var 0) (.cons (.int 3) .nil))) .nil)))))
    .nil)))))))))
def f_law_certificate : Fn := ⟨"_law_certificate", 1, 8, b_law_certificate⟩
class H_law_certificate (P : Pg) : Prop extends H_law_roll P, H_law_parts P, H_law_some P where
  at_law_certificate : P.fn? "_law_certificate" = some f_law_certificate
def b_law_drawn_chain : Ss :=
    (.cons (.ret (.bi .tuple (.cons (.lc (.cal "_law_certificate" (.cons (.var 0) .nil)) (.nm 2) (.rng1 (.bin .add (.int 1) (.cal "_law_roll" (.cons (.var 0) (.cons (.var 1) .nil))))) .none [2]) .nil)))
    .nil)
def f_law_drawn_chain : Fn := ⟨"_law_drawn_chain", 2, 3, b_law_drawn_chain⟩
class H_law_drawn_chain (P : Pg) : Prop extends H_law_certificate P, H_law_roll P where
  at_law_drawn_chain : P.fn? "_law_drawn_chain" = some f_law_drawn_chain
def b_law_own_uses : Ss :=
    (.cons (.set 1 (.cal "_law_part" (.cons (.var 0) (.cons (.str "uses") .nil))))
    (.cons (.ret (.ite (.cmp .is (.var 1) .non) (.tup (.cons (.str "agree") (.cons (.str "certs") (.cons (.str "lists") (.cons (.str "sign") .nil))))) (.var 1)))
    .nil))
def f_law_own_uses : Fn := ⟨"_law_own_uses", 1, 2, b_law_own_uses⟩
class H_law_own_uses (P : Pg) : Prop extends H_law_part P where
  at_law_own_uses : P.fn? "_law_own_uses" = some f_law_own_uses
def b_law_own_purposes : Ss :=
    (.cons (.set 1 (.cal "_law_part" (.cons (.var 0) (.cons (.str "purposes") .nil))))
    (.cons (.ret (.ite (.or (.cmp .is (.var 1) .non) (.cmp .mem (.str "any") (.var 1))) (.tup (.cons (.str "call") (.cons (.str "serve") (.cons (.str "sign") (.cons (.str "stamp") .nil))))) (.var 1)))
    .nil))
def f_law_own_purposes : Fn := ⟨"_law_own_purposes", 1, 2, b_law_own_purposes⟩
class H_law_own_purposes (P : Pg) : Prop extends H_law_part P where
  at_law_own_purposes : P.fn? "_law_own_purposes" = some f_law_own_purposes
def b_law_is_head : Ss :=
    (.cons (.ret (.cmp .ne (.lc (.bl true) (.tu [1, 2]) (.seq (.ix (.var 0) (.int 7))) (.some (.and (.cmp .eq (.var 1) (.str "basic")) (.ix (.var 2) (.int 0)))) [1, 2]) (.lst .nil)))
    .nil)
def f_law_is_head : Fn := ⟨"_law_is_head", 1, 3, b_law_is_head⟩
class H_law_is_head (P : Pg) : Prop where
  at_law_is_head : P.fn? "_law_is_head" = some f_law_is_head
def b_law_depth : Ss :=
    (.cons (.ret (.ix (.bin .add (.lc (.ix (.var 2) (.int 1)) (.tu [1, 2]) (.seq (.ix (.var 0) (.int 7))) (.some (.cmp .eq (.var 1) (.str "basic"))) [1, 2]) (.lst (.cons (.neg (.int 1)) .nil))) (.int 0)))
    .nil)
def f_law_depth : Fn := ⟨"_law_depth", 1, 3, b_law_depth⟩
class H_law_depth (P : Pg) : Prop where
  at_law_depth : P.fn? "_law_depth" = some f_law_depth
def b_law_words : Ss :=
    (.cons (.ret (.and (.isi (.var 0) "tuple") (.cmp .eq (.lc (.var 1) (.nm 1) (.seq (.var 0)) (.some (.not (.isi (.var 1) "str"))) [1]) (.lst .nil))))
    .nil)
def f_law_words : Fn := ⟨"_law_words", 1, 2, b_law_words⟩
class H_law_words (P : Pg) : Prop where
  at_law_words : P.fn? "_law_words" = some f_law_words
def b_law_whole : Ss :=
    (.cons (.ret (.and (.isi (.var 0) "int") (.not (.isi (.var 0) "bool"))))
    .nil)
def f_law_whole : Fn := ⟨"_law_whole", 1, 1, b_law_whole⟩
class H_law_whole (P : Pg) : Prop where
  at_law_whole : P.fn? "_law_whole" = some f_law_whole
def b_law_is : Ss :=
    (.cons (.ret (.ite (.var 1) (.cmp .is (.var 0) (.bl true)) (.cmp .is (.var 0) (.bl false))))
    .nil)
def f_law_is : Fn := ⟨"_law_is", 2, 2, b_law_is⟩
class H_law_is (P : Pg) : Prop where
  at_law_is : P.fn? "_law_is" = some f_law_is
def b_uses_in : Ss :=
    (.cons (.set 1 (.cal "part_in" (.cons (.var 0) (.cons (.str "uses") .nil))))
    (.cons (.ret (.ite (.cmp .nis (.var 1) .non) (.var 1) (.glb "USES")))
    .nil))
def f_uses_in : Fn := ⟨"uses_in", 1, 2, b_uses_in⟩
class H_uses_in (P : Pg) : Prop extends H_part_in P where
  at_uses_in : P.fn? "uses_in" = some f_uses_in
  con_uses_in_USES : P.con? "USES" = some (.tup [(.str "agree"), (.str "certs"), (.str "lists"), (.str "sign")])
def b_purposes_in : Ss :=
    (.cons (.set 1 (.cal "part_in" (.cons (.var 0) (.cons (.str "purposes") .nil))))
    (.cons (.ret (.ite (.and (.cmp .nis (.var 1) .non) (.cmp .nmem (.glb "ANY") (.var 1))) (.var 1) (.glb "ALL_PURPOSES")))
    .nil))
def f_purposes_in : Fn := ⟨"purposes_in", 1, 2, b_purposes_in⟩
class H_purposes_in (P : Pg) : Prop extends H_part_in P where
  at_purposes_in : P.fn? "purposes_in" = some f_purposes_in
  con_purposes_in_ANY : P.con? "ANY" = some (.str "any")
  con_purposes_in_ALL_PURPOSES : P.con? "ALL_PURPOSES" = some (.tup [(.str "call"), (.str "serve"), (.str "sign"), (.str "stamp")])
def b_is_head_in : Ss :=
    (.cons (.set 1 (.cal "part_in" (.cons (.var 0) (.cons (.str "basic") .nil))))
    (.cons (.ret (.and (.cmp .nis (.var 1) .non) (.ix (.var 1) (.int 0))))
    .nil))
def f_is_head_in : Fn := ⟨"is_head_in", 1, 2, b_is_head_in⟩
class H_is_head_in (P : Pg) : Prop extends H_part_in P where
  at_is_head_in : P.fn? "is_head_in" = some f_is_head_in
def b_does_seal : Ss :=
    (.cons (.ret (.and (.cal "is_head_in" (.cons (.var 0) .nil)) (.cmp .mem (.glb "CERTS") (.cal "uses_in" (.cons (.var 0) .nil)))))
    .nil)
def f_does_seal : Fn := ⟨"does_seal", 1, 1, b_does_seal⟩
class H_does_seal (P : Pg) : Prop extends H_uses_in P, H_is_head_in P where
  at_does_seal : P.fn? "does_seal" = some f_does_seal
  con_does_seal_CERTS : P.con? "CERTS" = some (.str "certs")
def b_depth_in : Ss :=
    (.cons (.set 1 (.cal "part_in" (.cons (.var 0) (.cons (.str "basic") .nil))))
    (.cons (.ret (.ite (.cmp .nis (.var 1) .non) (.ix (.var 1) (.int 1)) (.neg (.int 1))))
    .nil))
def f_depth_in : Fn := ⟨"depth_in", 1, 2, b_depth_in⟩
class H_depth_in (P : Pg) : Prop extends H_part_in P where
  at_depth_in : P.fn? "depth_in" = some f_depth_in
end CP

set_option Elab.async false
set_option linter.all false
set_option maxRecDepth 100000
set_option autoImplicit false
/-! LibK1: random certificates of the laws about chains. -/
namespace CP
open PySem L2
section
variable {G : Gm}
theorem WR_cons {s : S} {ss : Ss} {l : Lo} {st : So} {K : Lo → So → Prop} {T : D → So → Prop} : WR (evSs G (.cons s ss) l st) K T ↔ WR (evS G s l st) (fun l st => WR (evSs G ss l st) K T) T := by
  rw [ss_cons, WR_seq]
theorem WR_step {s : S} {ss : Ss} {l : Lo} {st : So} {K : Lo → So → Prop} {T : D → So → Prop} (I : Lo → So → Prop) (h1 : WR (evS G s l st) I T) (h2 : ∀ l st, I l st → WR (evSs G ss l st) K T) : WR (evSs G (.cons s ss) l st) K T :=
  WR_cons.mpr (h1.mono h2 fun _ _ h => h)
end
section
variable {P : Pg} {k : Nat} {rest st : So} {K : D → So → Prop}
theorem basic_true {x : D} (h : x ∈ [D.int (-1), .int (-1), .int (-1), .int 0, .int 1, .int 2, .int 8]) : valueD "basic" (.tup [.bl true, x]) = true := by
  simp only [List.mem_cons, List.not_mem_nil, or_false] at h
  rcases h with rfl | rfl | rfl | rfl | rfl | rfl | rfl <;> decide +kernel
/-- the parts so far -/
structure KI (rest : So) (sub nm : D) (n : Nat) (ws : List Str) (l : Lo) (st : So) : Prop where
  ex : ∃ ks ds z, PartsOk ks ds ∧ (∀ w ∈ ks, w ∈ ws) ∧ ks.length ≤ n ∧ l = [some (.ref 0), some sub, none, none, none, some nm, some (.ref (rest.length + 1)), z] ∧ DCup rest ks ds st
theorem law_certificate_rule [H_law_certificate P] (h : Cup rest st) (q : ∀ d st1 rest1, certD d = true → Cup (rest ++ rest1) st1 → K d st1) : Ok (calN P (k + 3) "_law_certificate" [.ref 0] st) K := by
  rw [calN_at H_law_certificate.at_law_certificate]
  apply Ok_body rfl
  show WR (evSs (gmN P (k + 2)) b_law_certificate [some (.ref 0), none, none, none, none, none, none, none] st) _ _
  unfold b_law_certificate
  rw [WR_cons]
  simp [-ss_cons]
  refine some_rule h (by simp) (by simp) fun nm hnm st1 c => ?_
  have gn : wordsD nm 1 4 = true := by
    simp only [List.mem_cons, List.not_mem_nil, or_false] at hnm
    rcases hnm with rfl | rfl <;> decide +kernel
  have hd := DCup.new c
  have el : st1.length = rest.length + 1 := cup_len c
  rw [el]
  refine WR_step (fun l st => ∃ sub, wordsD sub 1 4 = true ∧ l = [some (.ref 0), some sub, none, none, none, some nm, some (.ref (rest.length + 1)), none] ∧ DCup rest [] [] st) ?_ ?_
  · simp
    refine roll_rule hd.ex (by simp) (by simp) fun r st2 r0 r1 c => ?_
    simp
    constructor
    · intro _
      exact ⟨nm, gn, rfl, ⟨c⟩⟩
    · intro _
      refine some_rule c (by simp) (by simp) fun sb hsb st3 c => ?_
      refine ⟨sb, ?_, rfl, ⟨c⟩⟩
      simp only [List.mem_cons, List.not_mem_nil, or_false] at hsb
      rcases hsb with rfl | rfl | rfl <;> decide +kernel
  rintro _ st2 ⟨sub, gs, rfl, hd⟩
  -- basic
  refine WR_step (KI rest sub nm 1 ["basic"]) ?_ ?_
  · simp
    refine roll_rule hd.ex (by simp) (by simp) fun r st3 r0 r1 c => ?_
    have hd : DCup rest [] [] st3 := ⟨c⟩
    simp
    constructor
    · intro _
      refine some_rule hd.ex (by simp) (by simp) fun x hx st4 c => ?_
      have hd : DCup rest [] [] st4 := ⟨c⟩
      obtain ⟨st5, e5, h5, _⟩ := hd.put (by decide) "basic" (.tup [.bl true, x])
      rw [e5]
      exact ⟨_, _, _, PartsOk.nil.snoc (by simp) (by simp) (by decide +kernel) (basic_true hx), by simp, by simp, rfl, h5 (dget_no (by simp))⟩
    · intro _
      refine roll_rule hd.ex (by simp) (by simp) fun r2 st4 _ _ c => ?_
      have hd : DCup rest [] [] st4 := ⟨c⟩
      simp
      constructor
      · intro _
        obtain ⟨st5, e5, h5, _⟩ := hd.put (by decide) "basic" (.tup [.bl false, .int (-1)])
        rw [e5]
        exact ⟨_, _, _, PartsOk.nil.snoc (by simp) (by simp) (by decide +kernel) (by decide +kernel), by simp, by simp, rfl, h5 (dget_no (by simp))⟩
      · intro _
        exact ⟨_, _, _, PartsOk.nil, by simp, by simp, rfl, hd⟩
  rintro _ st3 ⟨ks, ds, z, po, hk, hl, rfl, hd⟩
  -- uses
  refine WR_step (KI rest sub nm 2 ["basic", "uses"]) ?_ ?_
  · simp
    refine roll_rule hd.ex (by simp) (by simp) fun r st4 r0 r1 c => ?_
    have hd : DCup rest ks ds st4 := ⟨c⟩
    simp
    constructor
    · intro _
      refine some_rule hd.ex (by simp) (by simp) fun x hx st5 c => ?_
      have hd : DCup rest ks ds st5 := ⟨c⟩
      obtain ⟨st6, e6, h6, _⟩ := hd.put (Nat.lt_of_le_of_lt hl (by decide)) "uses" x
      rw [e6]
      have nw : (Str.ofString "uses") ∉ ks := fun z => absurd (hk _ z) (by decide)
      refine ⟨_, _, _, po.snoc nw (by omega) (by decide +kernel) ?_, fun w hw => ?_, by simp; omega, rfl, h6 (dget_no nw)⟩
      · simp only [List.mem_cons, List.not_mem_nil, or_false] at hx
        rcases hx with rfl | rfl | rfl | rfl | rfl | rfl <;> decide +kernel
      · rcases List.mem_append.mp hw with hw | hw
        · have := hk w hw; simp at this ⊢; exact .inl this
        · simp at hw ⊢; exact .inr hw
    · intro _
      exact ⟨ks, ds, _, po, fun w hw => (by have := hk w hw; simp at this ⊢; exact .inl this), by omega, rfl, hd⟩
  rintro _ st4 ⟨ks, ds, z, po, hk, hl, rfl, hd⟩
  -- purposes
  refine WR_step (KI rest sub nm 3 ["basic", "uses", "purposes"]) ?_ ?_
  · simp
    refine roll_rule hd.ex (by simp) (by simp) fun r st5 r0 r1 c => ?_
    have hd : DCup rest ks ds st5 := ⟨c⟩
    simp
    constructor
    · intro _
      refine some_rule hd.ex (by simp) (by simp) fun x hx st6 c => ?_
      have hd : DCup rest ks ds st6 := ⟨c⟩
      obtain ⟨st7, e7, h7, _⟩ := hd.put (Nat.lt_of_le_of_lt hl (by decide)) "purposes" x
      rw [e7]
      have nw : (Str.ofString "purposes") ∉ ks := fun z => absurd (hk _ z) (by decide)
      refine ⟨_, _, _, po.snoc nw (by omega) (by decide +kernel) ?_, fun w hw => ?_, by simp; omega, rfl, h7 (dget_no nw)⟩
      · simp only [List.mem_cons, List.not_mem_nil, or_false] at hx
        rcases hx with rfl | rfl | rfl | rfl | rfl | rfl | rfl <;> decide +kernel
      · rcases List.mem_append.mp hw with hw | hw
        · have := hk w hw
          rcases List.mem_cons.mp this with e | e
          · rw [e]; simp
          · rw [List.mem_singleton.mp e]; simp
        · simp at hw ⊢; exact .inr (.inr hw)
    · intro _
      refine ⟨ks, ds, _, po, fun w hw => ?_, by omega, rfl, hd⟩
      rcases List.mem_cons.mp (hk w hw) with e | e
      · rw [e]; simp
      · rw [List.mem_singleton.mp e]; simp
  rintro _ st5 ⟨ks, ds, z, po, _, hl, rfl, hd⟩
  have e9 : ∀ st, opD .pow (.int 10) (.int 9) st = .ok (.int 1000000000) st := fun st => by simp [opD]
  simp [e9]
  refine some_rule hd.ex (by simp) (by simp) fun x hx st6 c => ?_
  obtain ⟨s, rfl, s0, s1⟩ : ∃ s, x = .int s ∧ 0 ≤ s ∧ s ≤ 6 := by
    simp only [List.mem_cons, List.not_mem_nil, or_false] at hx
    rcases hx with rfl | rfl | rfl | rfl | rfl | rfl <;> exact ⟨_, rfl, by omega, by omega⟩
  try simp
  refine some_rule c (by simp) (by simp) fun y hy st7 c => ?_
  obtain ⟨u, rfl, u0, u1⟩ : ∃ u, y = .int u ∧ 0 ≤ u ∧ s + u ≤ 1000000000 := by
    simp only [List.mem_cons, List.not_mem_nil, or_false] at hy
    rcases hy with rfl | rfl | rfl | rfl | rfl | rfl | rfl <;> exact ⟨_, rfl, by omega, by omega⟩
  simp
  refine roll_rule c (by simp) (by simp) fun r1 st8 r10 r11 c => ?_
  refine roll_rule c (by simp) (by simp) fun r2 st9 r20 r21 c => ?_
  refine roll_rule c (by simp) (by simp) fun r3 st10 r30 r31 c => ?_
  try simp
  have hd : DCup rest ks ds st10 := ⟨c⟩
  rw [show (k + 2) = (k + 1) + 1 from rfl, law_parts_spec hd (by omega) (strs_sortOk ks) po.len]
  simp
  refine roll_rule c (by simp) (by simp) fun r4 st11 r40 r41 c => ?_
  refine q _ _ _ ?_ c
  have pp := po.parts
  simp only [certD, gn, gs, pp]
  simp [wholeD]
  omega
end
end CP

set_option Elab.async false
set_option linter.all false
set_option maxRecDepth 100000
set_option autoImplicit false
/-! LibK2: what stands among the parts of a certificate. -/
namespace CP
open PySem L2
theorem dlast_mem : ∀ {ks : List Key} {ds : List D} {k : Key} {d : D}, dlastD ks ds k = some d → (k, d) ∈ ks.zip ds
  | [], _, _, _, h => by simp [dlastD] at h
  | _ :: _, [], _, _, h => by simp [dlastD] at h
  | k' :: ks, d' :: ds, k, d, h => by
    unfold dlastD at h
    cases e : dlastD ks ds k with
    | some x => rw [e] at h; cases h; exact List.mem_cons_of_mem _ (dlast_mem e)
    | none =>
      rw [e] at h
      simp only at h
      by_cases ek : k' = k
      · rw [if_pos ek] at h
        cases h
        rw [ek]
        exact List.mem_cons_self
      · rw [if_neg ek] at h; cases h
theorem dlast_none : ∀ {ks : List Key} {ds : List D} {k : Key}, dlastD ks ds k = none → ∀ d, (k, d) ∉ ks.zip ds
  | [], _, _, _, d, h => by simp at h
  | _ :: _, [], _, _, d, h => by simp at h
  | k' :: ks, d' :: ds, k, hn, d, h => by
    unfold dlastD at hn
    cases e : dlastD ks ds k with
    | some x => rw [e] at hn; cases hn
    | none =>
      rw [e] at hn
      simp only at hn
      by_cases ek : k' = k
      · rw [if_pos ek] at hn; cases hn
      · rcases List.mem_cons.mp h with h | h
        · cases h; exact ek rfl
        · exact dlast_none e d h
theorem zip_uniq : ∀ {ks : List Key} {ds : List D} {k : Key} {d e : D}, ks.Nodup → (k, d) ∈ ks.zip ds → (k, e) ∈ ks.zip ds → d = e
  | [], _, _, _, _, _, h, _ => by simp at h
  | _ :: _, [], _, _, _, _, h, _ => by simp at h
  | k' :: ks, d' :: ds, k, d, e, nd, h1, h2 => by
    obtain ⟨n1, n2⟩ := List.nodup_cons.mp nd
    rw [List.zip_cons_cons] at h1 h2
    rcases List.mem_cons.mp h1 with h1 | h1
    · cases h1
      rcases List.mem_cons.mp h2 with h2 | h2
      · cases h2; rfl
      · exact absurd (List.of_mem_zip h2).1 n1
    · rcases List.mem_cons.mp h2 with h2 | h2
      · cases h2; exact absurd (List.of_mem_zip h1).1 n1
      · exact zip_uniq n2 h1 h2
theorem pairs_mem : ∀ {xs : List D} {ks : List Key} {ds : List D}, xs.all pairD = true → pairsK xs = some (ks, ds) → ∀ w v, .tup [.str w, v] ∈ xs ↔ (Sum.inr w, v) ∈ ks.zip ds
  | [], _, _, _, h, w, v => by
    simp only [pairsK, Option.some.injEq, Prod.mk.injEq] at h
    obtain ⟨rfl, rfl⟩ := h
    simp
  | x :: xs, ks, ds, ha, h, w, v => by
    simp only [List.all_cons, Bool.and_eq_true] at ha
    obtain ⟨w', v', rfl⟩ := pair_ok ha.1
    obtain ⟨⟨ks', ds'⟩, hq⟩ := pairs_some ha.2
    simp only [pairsK, keyD, hq, Option.some.injEq, Prod.mk.injEq] at h
    obtain ⟨rfl, rfl⟩ := h
    have ih := pairs_mem ha.2 hq w v
    rw [List.mem_cons, List.zip_cons_cons, List.mem_cons, ih]
    constructor
    · rintro (e | h)
      · simp at e; exact .inl (by rw [e.1, e.2])
      · exact .inr h
    · rintro (e | h)
      · simp at e; exact .inl (by rw [e.1, e.2])
      · exact .inr h
theorem pairs_keys : ∀ {xs : List D} {ks : List Key} {ds : List D}, xs.all pairD = true → pairsK xs = some (ks, ds) → xs.map keyP = ks.map keyVal
  | [], _, _, _, h => by
    simp only [pairsK, Option.some.injEq, Prod.mk.injEq] at h
    obtain ⟨rfl, rfl⟩ := h
    rfl
  | x :: xs, ks, ds, ha, h => by
    simp only [List.all_cons, Bool.and_eq_true] at ha
    obtain ⟨w', v', rfl⟩ := pair_ok ha.1
    obtain ⟨⟨ks', ds'⟩, hq⟩ := pairs_some ha.2
    simp only [pairsK, keyD, hq, Option.some.injEq, Prod.mk.injEq] at h
    obtain ⟨rfl, rfl⟩ := h
    have ih := pairs_keys ha.2 hq
    simp [keyP, keyVal, ih]
theorem asc_pw : ∀ {xs : List D}, (∀ a ∈ xs, ∀ b ∈ xs, ∃ o, cmpD a b = some o) → ascD xs = true → xs.Pairwise (fun a b => cmpD a b = some .lt)
  | [], _, _ => .nil
  | [x], _, _ => List.pairwise_singleton _ _
  | x :: y :: r, hc, h => by
    unfold ascD at h
    simp only [Bool.and_eq_true, beq_iff_eq] at h
    have ih := asc_pw (fun a ha b hb => hc a (List.mem_cons_of_mem _ ha) b (List.mem_cons_of_mem _ hb)) h.2
    refine List.pairwise_cons.mpr ⟨fun z hz => ?_, ih⟩
    rcases List.mem_cons.mp hz with rfl | hz'
    · exact h.1
    · have l2 := (List.pairwise_cons.mp ih).1 z hz'
      have t := leT_trans (a := x) (b := y) (c := z) (by rw [leT_cmp h.1]; rfl) (by rw [leT_cmp l2]; rfl)
      obtain ⟨o, e⟩ := hc x List.mem_cons_self z (List.mem_cons_of_mem _ hz)
      rw [leT_cmp e] at t
      cases o with
      | lt => exact e
      | gt => simp at t
      | eq =>
        exfalso
        have ex := cmpD_eq e
        subst ex
        have := cmpD_swap l2
        rw [h.1] at this
        simp at this
theorem asc_nodup {xs : List D} (hc : ∀ a ∈ xs, ∀ b ∈ xs, ∃ o, cmpD a b = some o) (h : ascD xs = true) : xs.Nodup :=
  (asc_pw hc h).imp fun {a b} l e => by
    subst e
    have := cmp_self l
    cases this
section
variable {i : D} {xs : List D} {ks : List Key} {ds : List D}
theorem parts_all (h : partsD (.tup xs) = true) : xs.all pairD = true := by
  simp only [partsD, Bool.and_eq_true] at h
  exact h.2.1
theorem parts_nodup (h : partsD (.tup xs) = true) (hp : pairsK xs = some (ks, ds)) : ks.Nodup := by
  have ha := parts_all h
  simp only [partsD, Bool.and_eq_true] at h
  have nd : (xs.map keyP).Nodup := asc_nodup (fun a ha' b hb' => by
    obtain ⟨x, hx, rfl⟩ := List.mem_map.mp ha'
    obtain ⟨y, hy, rfl⟩ := List.mem_map.mp hb'
    obtain ⟨w, v, rfl⟩ := pair_ok (List.all_eq_true.mp ha x hx)
    obtain ⟨w', v', rfl⟩ := pair_ok (List.all_eq_true.mp ha y hy)
    obtain ⟨o, e, _⟩ := cm_str w w'
    exact ⟨o, e⟩) h.2.2
  rw [pairs_keys ha hp] at nd
  exact List.Pairwise.of_map keyVal (fun a b n e => n (by rw [e])) nd
/-- a part that is there -/
theorem part_mem (h : partsD (.tup xs) = true) {w : Str} {v : D} (hm : .tup [.str w, v] ∈ xs) : partOf (.tup xs) w = v := by
  have ha := parts_all h
  obtain ⟨⟨ks, ds⟩, hp⟩ := pairs_some ha
  have hz := (pairs_mem ha hp w v).mp hm
  unfold partOf
  simp only [pseq, Option.bind_some, hp]
  cases e : dlastD ks ds (.inr w) with
  | none => exact absurd hz (dlast_none e v)
  | some d => exact zip_uniq (parts_nodup h hp) (dlast_mem e) hz
theorem part_cases (h : partsD (.tup xs) = true) (w : Str) : (partOf (.tup xs) w = .non ∧ ∀ v, .tup [.str w, v] ∉ xs) ∨ (.tup [.str w, partOf (.tup xs) w] ∈ xs ∧ valueD w (partOf (.tup xs) w) = true) := by
  have ha := parts_all h
  obtain ⟨⟨ks, ds⟩, hp⟩ := pairs_some ha
  cases e : dlastD ks ds (.inr w) with
  | none =>
    refine .inl ⟨?_, fun v hv => dlast_none e v ((pairs_mem ha hp w v).mp hv)⟩
    unfold partOf
    simp only [pseq, Option.bind_some, hp, e, Option.getD_none]
  | some d =>
    have hm := (pairs_mem ha hp w d).mpr (dlast_mem e)
    have ep : partOf (.tup xs) w = d := by
      unfold partOf
      simp only [pseq, Option.bind_some, hp, e, Option.getD_some]
    refine .inr (by
      rw [ep]
      refine ⟨hm, ?_⟩
      have q := List.all_eq_true.mp ha _ hm
      simp only [pairD, Bool.and_eq_true] at q
      exact q.2)
end
theorem val_uses {v : D} (h : valueD "uses" v = true) : ∃ xs, v = .tup xs ∧ ∀ x ∈ xs, wIn usesW x = true := by
  have e : valueD "uses" v = manyD (wIn usesW) v 0 8 := rfl
  rw [e] at h
  cases v <;> simp [manyD] at h
  exact ⟨_, rfl, h.2.1⟩
theorem val_purposes {v : D} (h : valueD "purposes" v = true) : ∃ xs, v = .tup xs ∧ ∀ x ∈ xs, wIn purpW x = true := by
  have e : valueD "purposes" v = manyD (wIn purpW) v 0 8 := rfl
  rw [e] at h
  cases v <;> simp [manyD] at h
  exact ⟨_, rfl, h.2.1⟩
theorem val_basic {v : D} (h : valueD "basic" v = true) : ∃ b n, v = .tup [.bl b, .int n] ∧ -1 ≤ n ∧ n ≤ 8 ∧ (b = false → n = -1) := by
  have e : valueD "basic" v = basicD v := rfl
  rw [e] at h
  unfold basicD at h
  split at h
  · rename_i b x
    cases x <;> simp [wholeD] at h
    rename_i n
    refine ⟨b, n, rfl, h.1, ?_, fun hb => ?_⟩
    · cases b <;> simp at h <;> omega
    · subst hb; simp at h; omega
  · cases h
end CP

set_option Elab.async false
set_option linter.all false
set_option maxRecDepth 100000
set_option autoImplicit false
/-! LibK3: uses, purposes, heads, depths of certificates. -/
namespace CP
open PySem L2
/-- the parts of a certificate -/
def partsC (d : D) : D := match d with
  | .tup [_, _, _, _, _, _, _, i, _] => i
  | _ => .non
def getC (d : D) (w : Str) : D := partOf (partsC d) w
def allP : List D := [.str "call", .str "serve", .str "sign", .str "stamp"]
def usesOf (d : D) : List D := match getC d "uses" with
  | .tup xs => xs
  | _ => usesW
def purposesOf (d : D) : List D := match getC d "purposes" with
  | .tup xs => if inD (.str "any") xs then allP else xs
  | _ => allP
def headOf (d : D) : Bool := match getC d "basic" with
  | .tup [.bl b, _] => b
  | _ => false
def depthOf (d : D) : Int := match getC d "basic" with
  | .tup [_, .int n] => n
  | _ => -1
section
variable {P : Pg} (k : Nat) (st : So) {d : D}
theorem get_cases (h : certD d = true) (w : Str) : getC d w = .non ∨ valueD w (getC d w) = true := by
  obtain ⟨a, b, c, e, f, g, h, i, j, xs, ks, ds, rfl, F⟩ := cert_of h
  have := F.ei
  subst this
  rcases part_cases F.wi w with ⟨h, _⟩ | ⟨_, h⟩
  · exact .inl h
  · exact .inr h
theorem part_in_cert [H_part_in P] (h : certD d = true) (w : Str) : calN P (k + 1) "part_in" [d, .str w] st = .ok (getC d w) st := by
  obtain ⟨a, b, c, e, f, g, h, i, j, xs, ks, ds, rfl, F⟩ := cert_of h
  exact part_in_spec k st w F.ei F.pr
theorem law_part_cert [H_law_part P] (h : certD d = true) (w : Str) : calN P (k + 1) "_law_part" [d, .str w] st = .ok (getC d w) st := by
  obtain ⟨a, b, c, e, f, g, h, i, j, xs, ks, ds, rfl, F⟩ := cert_of h
  exact law_part_spec k st w F.ei F.pr
theorem is_non_tup (xs : List D) (st : So) : isD (.tup xs) .non st = .ok false st := rfl
theorem is_non_non (st : So) : isD .non .non st = .ok true st := rfl
theorem strs_of_wIn {ws xs : List D} (h : ∀ x ∈ xs, wIn ws x = true) : isDats xs = true := isDats_all.mpr fun x hx => (wIn_good (h x hx)).1
theorem uses_in_spec [H_uses_in P] (h : certD d = true) : calN P (k + 2) "uses_in" [d] st = .ok (.tup (usesOf d)) st := by
  rw [calN_at H_uses_in.at_uses_in, run_eq rfl]
  have c1 := fun l st => e_glbP (k := k + 1) (H_uses_in.con_uses_in_USES (P := P)) l st
  simp [f_uses_in, b_uses_in, part_in_cert _ _ h, usesOf, c1]
  rcases get_cases h "uses" with e | e
  · rw [e]; simp [is_non_non, usesW]
  · obtain ⟨xs, e2, _⟩ := val_uses e
    rw [e2]; simp [is_non_tup]
theorem law_own_uses_spec [H_law_own_uses P] (h : certD d = true) : calN P (k + 2) "_law_own_uses" [d] st = .ok (.tup (usesOf d)) st := by
  rw [calN_at H_law_own_uses.at_law_own_uses, run_eq rfl]
  simp [f_law_own_uses, b_law_own_uses, law_part_cert _ _ h, usesOf]
  rcases get_cases h "uses" with e | e
  · rw [e]; simp [is_non_non, usesW]
  · obtain ⟨xs, e2, _⟩ := val_uses e
    rw [e2]; simp [is_non_tup]
theorem purposes_in_spec [H_purposes_in P] (h : certD d = true) : calN P (k + 2) "purposes_in" [d] st = .ok (.tup (purposesOf d)) st := by
  rw [calN_at H_purposes_in.at_purposes_in, run_eq rfl]
  have c1 := fun l st => e_glbP (k := k + 1) (H_purposes_in.con_purposes_in_ANY (P := P)) l st
  have c2 := fun l st => e_glbP (k := k + 1) (H_purposes_in.con_purposes_in_ALL_PURPOSES (P := P)) l st
  simp [f_purposes_in, b_purposes_in, part_in_cert _ _ h, purposesOf, c1, c2]
  rcases get_cases h "purposes" with e | e
  · rw [e]; simp [is_non_non, allP]
  · obtain ⟨xs, e2, e3⟩ := val_purposes e
    rw [e2]; simp [is_non_tup, mem_words (strs_of_wIn e3)]
    cases inD (.str "any") xs <;> simp [allP]
theorem law_own_purposes_spec [H_law_own_purposes P] (h : certD d = true) : calN P (k + 2) "_law_own_purposes" [d] st = .ok (.tup (purposesOf d)) st := by
  rw [calN_at H_law_own_purposes.at_law_own_purposes, run_eq rfl]
  simp [f_law_own_purposes, b_law_own_purposes, law_part_cert _ _ h, purposesOf]
  rcases get_cases h "purposes" with e | e
  · rw [e]; simp [is_non_non, allP]
  · obtain ⟨xs, e2, e3⟩ := val_purposes e
    rw [e2]; simp [is_non_tup, mem_words (strs_of_wIn e3)]
    cases inD (.str "any") xs <;> simp [allP]
theorem is_head_in_spec [H_is_head_in P] (h : certD d = true) : calN P (k + 2) "is_head_in" [d] st = .ok (.bl (headOf d)) st := by
  rw [calN_at H_is_head_in.at_is_head_in, run_eq rfl]
  simp [f_is_head_in, b_is_head_in, part_in_cert _ _ h, headOf]
  rcases get_cases h "basic" with e | e
  · rw [e]; simp [is_non_non]
  · obtain ⟨b, n, e2, _⟩ := val_basic e
    rw [e2]; simp [is_non_tup]
theorem depth_in_spec [H_depth_in P] (h : certD d = true) : calN P (k + 2) "depth_in" [d] st = .ok (.int (depthOf d)) st := by
  rw [calN_at H_depth_in.at_depth_in, run_eq rfl]
  simp [f_depth_in, b_depth_in, part_in_cert _ _ h, depthOf]
  rcases get_cases h "basic" with e | e
  · rw [e]; simp [is_non_non]
  · obtain ⟨b, n, e2, _⟩ := val_basic e
    rw [e2]; simp [is_non_tup]
theorem uses_strs (h : certD d = true) : ∀ x ∈ usesOf d, wIn usesW x = true := by
  unfold usesOf
  rcases get_cases h "uses" with e | e
  · rw [e]; decide +kernel
  · obtain ⟨xs, e2, e3⟩ := val_uses e
    rw [e2]; exact e3
theorem purposes_strs (h : certD d = true) : ∀ x ∈ purposesOf d, wIn purpW x = true := by
  unfold purposesOf
  rcases get_cases h "purposes" with e | e
  · rw [e]; decide +kernel
  · obtain ⟨xs, e2, e3⟩ := val_purposes e
    rw [e2]
    simp only
    split
    · decide +kernel
    · exact e3
theorem does_seal_spec [H_does_seal P] (h : certD d = true) : calN P (k + 3) "does_seal" [d] st = .ok (.bl (headOf d && inD (.str "certs") (usesOf d))) st := by
  rw [calN_at H_does_seal.at_does_seal, run_eq rfl]
  have c1 := fun l st => e_glbP (k := k + 2) (H_does_seal.con_does_seal_CERTS (P := P)) l st
  simp [f_does_seal, b_does_seal, is_head_in_spec _ _ h, uses_in_spec _ _ h, c1, mem_words (strs_of_wIn (uses_strs h))]
theorem law_words_spec [H_law_words P] {xs : List D} (hs : ∀ x ∈ xs, x.isStr = true) : calN P (k + 1) "_law_words" [.tup xs] st = .ok (.bl true) st := by
  rw [calN_at H_law_words.at_law_words, run_eq rfl]
  have hd : (D.tup xs).isDat = true := dat_tup fun x hx => by
    obtain ⟨a, rfl⟩ := isStr_iff.mp (hs x hx); rfl
  simp [f_law_words, b_law_words, isiR_of (isi_tuple hd), D.isTup]
  rw [lc_pure (fun d => !d.isStr) id fun x hx => by
    obtain ⟨a, rfl⟩ := isStr_iff.mp (hs x hx)
    refine ⟨_, rfl, ?_, fun _ => rfl⟩
    simp [wipeD, isiR_of (isi_str (d := .str a) rfl), D.isStr]]
  have e : xs.filter (fun d => !d.isStr) = [] := List.filter_eq_nil_iff.mpr fun x hx => by simp [hs x hx]
  rw [e]
  simp [eqD_nil (xs := []) rfl]
theorem law_whole_spec [H_law_whole P] (n : Int) : calN P (k + 1) "_law_whole" [.int n] st = .ok (.bl true) st := by
  rw [calN_at H_law_whole.at_law_whole, run_eq rfl]
  simp [f_law_whole, b_law_whole, isiR_of (isi_int (d := .int n) rfl), isiR_of (isi_bool (d := .int n) rfl), D.isInt, D.isBl]
theorem law_is_spec [H_law_is P] (b c : Bool) : calN P (k + 1) "_law_is" [.bl b, .bl c] st = .ok (.bl (b == c)) st := by
  rw [calN_at H_law_is.at_law_is, run_eq rfl]
  cases b <;> cases c <;> simp [f_law_is, b_law_is, isD]
def hdP (d : D) : Bool := match d with
  | .tup [.str x, .tup [.bl b, _]] => x == "basic" && b
  | _ => false
/-- the pairs that have this word -/
def isKey (w : Str) (d : D) : Bool := match d with
  | .tup [.str x, _] => x == w
  | _ => false
theorem law_is_head_spec [H_law_is_head P] (h : certD d = true) : calN P (k + 1) "_law_is_head" [d] st = .ok (.bl (headOf d)) st := by
  obtain ⟨a, b, c, e, f, g, u, i, j, xs, ks, ds, rfl, F⟩ := cert_of h
  have := F.ei
  subst this
  rw [calN_at H_law_is_head.at_law_is_head, run_eq rfl]
  have ha := parts_all F.wi
  simp [f_law_is_head, b_law_is_head]
  rw [lc_pure hdP (fun _ => .bl true) fun x hx => by
    obtain ⟨w, v, rfl⟩ := pair_ok (List.all_eq_true.mp ha x hx)
    refine ⟨_, rfl, ?_, fun _ => rfl⟩
    by_cases hw : w = "basic"
    · subst hw
      have q := List.all_eq_true.mp ha _ hx
      simp only [pairD, Bool.and_eq_true] at q
      obtain ⟨b, n, rfl, _⟩ := val_basic q.2
      simp [wipeD, hdP]
    · have e : (w == Str.ofString "basic") = false := beq_false_of_ne hw
      have e2 : hdP (.tup [.str w, v]) = false := by
        unfold hdP
        split
        · rename_i heq
          cases heq
          rw [e]; rfl
        · rfl
      simp [wipeD, e, e2]]
  have hdat : isDats ((xs.filter hdP).map fun _ => D.bl true) = true := isDats_all.mpr fun x hx => by
    obtain ⟨_, _, rfl⟩ := List.mem_map.mp hx; rfl
  have ee : (xs.filter hdP).isEmpty = !headOf (.tup [a, b, c, e, f, g, u, .tup xs, j]) := by
    have ec : getC (.tup [a, b, c, e, f, g, u, .tup xs, j]) "basic" = partOf (.tup xs) "basic" := rfl
    rw [Bool.eq_iff_iff]
    simp only [headOf, ec, List.isEmpty_iff, List.filter_eq_nil_iff]
    rcases part_cases F.wi "basic" with ⟨z1, z2⟩ | ⟨z1, z2⟩
    · rw [z1]
      simp only [Bool.not_false, iff_true]
      intro x hx
      obtain ⟨w, v, rfl⟩ := pair_ok (List.all_eq_true.mp ha x hx)
      unfold hdP
      split
      · rename_i heq
        cases heq
        simp only [Bool.and_eq_true, beq_iff_eq, not_and]
        intro hw
        subst hw
        exact absurd hx (z2 _)
      · simp
    · obtain ⟨b1, n1, e1, _⟩ := val_basic z2
      rw [e1]
      simp only [Bool.not_eq_true']
      constructor
      · intro hall
        have := hall _ z1
        rw [e1] at this
        simpa [hdP] using this
      · intro hb x hx
        obtain ⟨w, v, rfl⟩ := pair_ok (List.all_eq_true.mp ha x hx)
        unfold hdP
        split
        · rename_i heq
          cases heq
          simp only [Bool.and_eq_true, beq_iff_eq, not_and]
          intro hw
          subst hw
          have := part_mem F.wi hx
          rw [e1] at this
          simp at this
          rw [← this.1, hb]; simp
        · simp
  simp [eqD_nil hdat, List.isEmpty_map, ee]
theorem law_depth_spec [H_law_depth P] (h : certD d = true) : calN P (k + 1) "_law_depth" [d] st = .ok (.int (depthOf d)) st := by
  obtain ⟨a, b, c, e, f, g, u, i, j, xs, ks, ds, rfl, F⟩ := cert_of h
  have := F.ei
  subst this
  rw [calN_at H_law_depth.at_law_depth, run_eq rfl]
  have ha := parts_all F.wi
  simp [f_law_depth, b_law_depth]
  rw [lc_pure (isKey "basic") (fun d => match d with | .tup [_, .tup [_, n]] => n | _ => .non) fun x hx => by
    obtain ⟨w, v, rfl⟩ := pair_ok (List.all_eq_true.mp ha x hx)
    refine ⟨_, rfl, by simp [wipeD, isKey], fun hk => ?_⟩
    have hw : w = "basic" := by simpa [isKey] using hk
    subst hw
    have q := List.all_eq_true.mp ha _ hx
    simp only [pairD, Bool.and_eq_true] at q
    obtain ⟨b, n, rfl, _⟩ := val_basic q.2
    simp [wipeD]]
  have few : (xs.filter (isKey "basic")).length ≤ 12 := by
    have h1 := List.length_filter_le (isKey "basic") xs
    have h2 := F.wi
    simp only [partsD, Bool.and_eq_true, decide_eq_true_eq] at h2
    omega
  have ec : getC (.tup [a, b, c, e, f, g, u, .tup xs, j]) "basic" = partOf (.tup xs) "basic" := rfl
  have hz : (xs.filter (isKey "basic")).length + 1 ≤ sizeLine := le_size (by omega)
  simp [hz]
  rcases part_cases F.wi "basic" with ⟨z1, z2⟩ | ⟨z1, z2⟩
  · have en : xs.filter (isKey "basic") = [] := List.filter_eq_nil_iff.mpr fun x hx hk => by
      obtain ⟨w, v, rfl⟩ := pair_ok (List.all_eq_true.mp ha x hx)
      have hw : w = "basic" := by simpa [isKey] using hk
      subst hw
      exact z2 _ hx
    rw [en]
    simp [depthOf, ec, z1, ix_lst, atI, ixN]
  · obtain ⟨b1, n1, e1, _⟩ := val_basic z2
    obtain ⟨y, r, er⟩ : ∃ y r, xs.filter (isKey "basic") = y :: r := by
      cases er : xs.filter (isKey "basic") with
      | nil =>
        have := List.filter_eq_nil_iff.mp er _ z1
        simp [isKey] at this
      | cons y r => exact ⟨y, r, rfl⟩
    have hy : y ∈ xs.filter (isKey "basic") := by rw [er]; exact List.mem_cons_self
    obtain ⟨hy1, hy2⟩ := List.mem_filter.mp hy
    obtain ⟨w, v, rfl⟩ := pair_ok (List.all_eq_true.mp ha y hy1)
    have hw : w = "basic" := by simpa [isKey] using hy2
    subst hw
    have ev := part_mem F.wi hy1
    rw [e1] at ev
    subst ev
    rw [er]
    have pos : (0 : Int) < (r.length : Int) + 1 + 1 := by omega
    simp [depthOf, ec, e1, ix_lst, atI, ixN, pos]
end
end CP

set_option Elab.async false
set_option linter.all false
set_option maxRecDepth 100000
set_option autoImplicit false
/-! LibR: defs shared by laws. -/
namespace CP
open PySem L2
def b_fits_chain (cLONGEST_chains : Str) : Ss :=
    (.cons (.ret (.and (.cal "is_tuple_of" (.cons (.var 0) (.cons (.int 1) (.cons (.glb cLONGEST_chains) .nil)))) (.bi .all (.cons (.lc (.cal "fits_certificate" (.cons (.var 1) .nil)) (.nm 1) (.seq (.var 0)) .none [1]) .nil))))
    .nil)
def f_fits_chain (cLONGEST_chains : Str) : Fn := ⟨"fits_chain", 1, 2, b_fits_chain cLONGEST_chains⟩
class H_fits_chain (P : Pg) : Prop extends H_fits_certificate P, H_is_tuple_of P where
  at_fits_chain : ∃ cLONGEST_chains, P.fn? "fits_chain" = some (f_fits_chain cLONGEST_chains) ∧ P.con? cLONGEST_chains = some (.int 8)
def b_need_chain : Ss :=
    (.cons (.ite (.not (.cal "fits_chain" (.cons (.var 0) .nil))) (.cons (.raise "InvalidChain")
    .nil) .nil)
    .nil)
def f_need_chain : Fn := ⟨"need_chain", 1, 1, b_need_chain⟩
class H_need_chain (P : Pg) : Prop extends H_fits_chain P where
  at_need_chain : P.fn? "need_chain" = some f_need_chain
def b_met : Ss :=
    (.cons (.ret (.bi .tuple (.cons (.lc (.var 2) (.nm 2) (.seq (.var 0)) (.some (.cmp .mem (.var 2) (.var 1))) [2]) .nil)))
    .nil)
def f_met : Fn := ⟨"met", 2, 3, b_met⟩
class H_met (P : Pg) : Prop where
  at_met : P.fn? "met" = some f_met
def b_fits_purposes : Ss :=
    (.cons (.ret (.cal "fits_lot" (.cons (.var 0) (.cons (.int 0) (.cons (.bi .len (.cons (.glb "ALL_PURPOSES") .nil)) (.cons (.glb "ALL_PURPOSES") .nil))))))
    .nil)
def f_fits_purposes : Fn := ⟨"fits_purposes", 1, 1, b_fits_purposes⟩
class H_fits_purposes (P : Pg) : Prop extends H_fits_lot P where
  at_fits_purposes : P.fn? "fits_purposes" = some f_fits_purposes
  con_fits_purposes_ALL_PURPOSES : P.con? "ALL_PURPOSES" = some (.tup [(.str "call"), (.str "serve"), (.str "sign"), (.str "stamp")])
def b_need_purposes : Ss :=
    (.cons (.ite (.not (.cal "fits_purposes" (.cons (.var 0) .nil))) (.cons (.raise "InvalidPurposes")
    .nil) .nil)
    .nil)
def f_need_purposes : Fn := ⟨"need_purposes", 1, 1, b_need_purposes⟩
class H_need_purposes (P : Pg) : Prop extends H_fits_purposes P where
  at_need_purposes : P.fn? "need_purposes" = some f_need_purposes
end CP

set_option Elab.async false
set_option linter.all false
set_option maxRecDepth 100000
set_option autoImplicit false
/-! LibR1: chains of certificates; their purposes. -/
namespace CP
open PySem L2
/-- a comprehension, by what holds ahead of each turn of what is left, what is found and the store -/
theorem Ok_lcI {bnd : D → Option Lo} {tst : Lo → So → R Bool} {elt : Lo → So → R D} {K : D → So → Prop} (I : List D → List D → So → Prop) : ∀ {xs acc : List D} {st : So}, I xs acc st →
    (∀ x xs acc st, I (x :: xs) acc st → ∃ l, bnd x = some l ∧ Ok (tst l st) fun b st1 => if b then Ok (elt l st1) fun d st2 => I xs (acc ++ [d]) st2 else I xs acc st1) → (∀ ds st, I [] ds st → K (.lst ds) st) → Ok (lcGo bnd tst elt xs acc st) K
  | [], acc, st, h, _, q => q acc st h
  | x :: xs, acc, st, h, hs, q => by
    obtain ⟨l, e, w⟩ := hs x xs acc st h
    unfold lcGo
    rw [e]
    simp only
    cases et : tst l st with
    | ok b st1 =>
      rw [et] at w
      cases b with
      | true =>
        simp only
        have w3 : Ok (elt l st1) fun d st2 => I xs (acc ++ [d]) st2 := w
        cases ee : elt l st1 with
        | ok d st2 =>
          rw [ee] at w3
          simp only
          exact Ok_lcI I w3 hs q
        | exc c p st2 => rw [ee] at w3; exact w3.elim
        | bad => rw [ee] at w3; exact w3.elim
      | false =>
        simp only
        exact Ok_lcI I w hs q
    | exc c p st1 => rw [et] at w; exact w.elim
    | bad => rw [et] at w; exact w.elim
/-- a loop, by what holds ahead of each turn of what is left -/
theorem WR_forI {bnd : D → Lo → Option Lo} {body : Lo → So → RS} {K : Lo → So → Prop} {T : D → So → Prop} (I : List D → Lo → So → Prop) : ∀ {xs : List D} {l : Lo} {st : So}, I xs l st →
    (∀ x xs l st, I (x :: xs) l st → ∃ l1, bnd x l = some l1 ∧ WR (body l1 st) (I xs) T) → (∀ l st, I [] l st → K l st) → WR (forGo bnd body xs l st) K T
  | [], l, st, h, _, q => q l st h
  | x :: xs, l, st, h, hs, q => by
    obtain ⟨l1, e, w⟩ := hs x xs l st h
    unfold forGo
    rw [e]
    simp only
    cases eb : body l1 st with
    | nx l2 st2 => rw [eb] at w; exact WR_forI I w hs q
    | rt d st2 => rw [eb] at w; exact w
    | _ => rw [eb] at w; exact w.elim
theorem Ok_out {r : R D} {a : D} {st : So} (h : Ok r fun d s => d = a ∧ s = st) : r = .ok a st := by
  cases r with
  | ok d s => obtain ⟨rfl, rfl⟩ := (h : d = a ∧ s = st); rfl
  | exc c p s => exact h.elim
  | bad => exact h.elim
open Classical in
/-- some of the items: those for which a roll says so -/
theorem pick_rule {bnd : D → Option Lo} {tst : Lo → So → R Bool} {elt : Lo → So → R D} {K : D → So → Prop} {rest : So} {ws : List D} {st : So} (nd : ws.Nodup) (c : Cup rest st)
    (h : ∀ x ∈ ws, ∃ l, bnd x = some l ∧ (∀ st, Cup rest st → Ok (tst l st) fun _ st1 => Cup rest st1) ∧ ∀ st, elt l st = .ok x st) (q : ∀ p st1, Cup rest st1 → K (.lst (ws.filter p)) st1) : Ok (lcGo bnd tst elt ws [] st) K := by
  refine Ok_lcI (fun ys acc st => ∃ zs p, ws = zs ++ ys ∧ acc = zs.filter p ∧ Cup rest st) ⟨[], fun _ => true, by simp, by simp, c⟩ ?_ ?_
  · rintro x xs acc st ⟨zs, p, e, ea, c⟩
    obtain ⟨l, h1, h2, h3⟩ := h x (by rw [e]; simp)
    refine ⟨l, h1, (h2 st c).mono fun b st1 c1 => ?_⟩
    have nx : x ∉ zs := fun hx => by
      rw [e] at nd
      exact (List.nodup_append.mp nd).2.2 x hx x List.mem_cons_self rfl
    have e1 : ∀ b : Bool, zs.filter (fun w => if w ∈ zs then p w else b) = zs.filter p := fun b => List.filter_congr fun w hw => by rw [if_pos hw]
    cases b with
    | true =>
      simp only [if_true]
      rw [h3]
      refine ⟨zs ++ [x], fun w => if w ∈ zs then p w else true, by simp [e], ?_, c1⟩
      rw [List.filter_append, e1, ea]
      simp [nx]
    | false =>
      simp only [Bool.false_eq_true, if_false]
      refine ⟨zs ++ [x], fun w => if w ∈ zs then p w else false, by simp [e], ?_, c1⟩
      rw [List.filter_append, e1, ea]
      simp [nx]
  · rintro ds st ⟨zs, p, e, ea, c⟩
    rw [List.append_nil] at e
    rw [ea, ← e]
    exact q p st c
section
variable {P : Pg} {k : Nat} {rest st : So} {K : D → So → Prop}
structure CI (rest : So) (n : Nat) (xs ds : List D) (st : So) : Prop where
  len : xs.length + ds.length = n
  ok : ∀ d ∈ ds, certD d = true
  ex : ∃ rest1, Cup (rest ++ rest1) st
theorem law_drawn_chain_rule [H_law_drawn_chain P] (h : Cup rest st) {m : Int} (h1 : 0 < m) (h2 : m ≤ 1000) (q : ∀ xs st1 rest1, 1 ≤ xs.length → (xs.length : Int) ≤ m → (∀ d ∈ xs, certD d = true) → Cup (rest ++ rest1) st1 → K (.tup xs) st1) : Ok (calN P (k + 4) "_law_drawn_chain" [.ref 0, .int m] st) K := by
  rw [calN_at H_law_drawn_chain.at_law_drawn_chain]
  apply Ok_body rfl
  simp [f_law_drawn_chain, b_law_drawn_chain]
  refine roll_rule h h1 (by omega) fun r st2 r0 r1 c => ?_
  have z : (rngD 0 (1 + r).toNat).length = (1 + r).toNat := by simp [rngD]
  have ok : rngOk 0 (1 + r) = true := by
    have : (1 + r).toNat ≤ sizeLine := le_size (by omega)
    simp [rngOk, this]; omega
  rw [op_add]
  simp [ok]
  refine Ok_lcI (CI rest (1 + r).toNat) ⟨by simp [z], by simp, [], by simpa using c⟩ ?_ ?_
  · rintro x xs acc st ⟨g1, g2, rest1, g3⟩
    refine ⟨_, rfl, ?_⟩
    simp [wipeD]
    refine law_certificate_rule g3 fun d st3 rest2 hd c => ?_
    refine ⟨by simp at g1 ⊢; omega, fun d' hd' => ?_, rest1 ++ rest2, by simpa using c⟩
    rcases List.mem_append.mp hd' with e | e
    · exact g2 d' e
    · rw [List.mem_singleton.mp e]; exact hd
  · rintro ds st ⟨g1, g2, rest1, g3⟩
    simp at g1
    refine q ds st rest1 (by omega) (by omega) g2 g3
end
/-- a chain -/
def chainD (d : D) : Bool := match d with
  | .tup xs => decide ((1 : Int) ≤ xs.length) && decide ((xs.length : Int) ≤ 8) && xs.all certD
  | _ => false
/-- the purposes in all of some -/
def sharedP (xs : List D) : List D := allP.filter fun w => xs.all fun c => inD w (purposesOf c)
section
variable {P : Pg} (k : Nat) (st : So)
theorem fits_chain_spec [H_fits_chain P] {d : D} (hd : d.isDat = true) : calN P (k + 8) "fits_chain" [d] st = .ok (.bl (chainD d)) st := by
  obtain ⟨cL, eA, eL⟩ := H_fits_chain.at_fits_chain (P := P)
  rw [calN_at eA, run_eq rfl]
  simp [f_fits_chain, b_fits_chain, is_tuple_of_spec _ _ _ _ hd, e_glbP eL]
  cases d <;> simp [tupD, chainD]
  rename_i xs
  have hs := isDat_tup hd
  rw [lc_all _ certD fun x hx => by
    have hx := hs x hx
    simp [wipeD, fits_certificate_spec _ _ hx]]
  simp [all_of]
theorem need_chain_spec [H_need_chain P] {d : D} (hd : d.isDat = true) : calN P (k + 9) "need_chain" [d] st = if chainD d then .ok .non st else .exc "InvalidChain" .non st := by
  rw [calN_at H_need_chain.at_need_chain, run_eq rfl]
  simp [f_need_chain, b_need_chain, fits_chain_spec _ _ hd]
  cases chainD d <;> simp
theorem chain_good {xs : List D} (h : ∀ d ∈ xs, certD d = true) : (D.tup xs).isDat = true ∧ (D.tup xs).dep ≤ 7 := ⟨dat_tup fun x hx => (cert_good (h x hx)).1, dep_tup fun x hx => (cert_good (h x hx)).2⟩
theorem chain_is {xs : List D} (h : ∀ d ∈ xs, certD d = true) (h1 : 1 ≤ xs.length) (h2 : xs.length ≤ 8) : chainD (.tup xs) = true := by
  simp only [chainD, Bool.and_eq_true, List.all_eq_true, decide_eq_true_eq]
  exact ⟨by omega, h⟩
theorem met_spec [H_met P] {xs ys : List D} (hx : ∀ x ∈ xs, x.isDat = true ∧ x.dep ≤ 64) (hy : isDats ys = true) : calN P (k + 1) "met" [.tup xs, .tup ys] st = .ok (.tup (xs.filter fun x => inD x ys)) st := by
  rw [calN_at H_met.at_met, run_eq rfl]
  simp [f_met, b_met]
  rw [lc_pure (fun x => inD x ys) id fun x hx' => by
    obtain ⟨g1, g2⟩ := hx x hx'
    refine ⟨_, rfl, by simp [wipeD, mem_tup g1 g2 hy], fun _ => by simp [wipeD]⟩]
  simp
theorem fits_purposes_spec [H_fits_purposes P] {d : D} (hd : d.isDat = true) : calN P (k + 3) "fits_purposes" [d] st = .ok (.bl (manyD (wIn allP) d 0 4)) st := by
  rw [calN_at H_fits_purposes.at_fits_purposes, run_eq rfl]
  have c1 := fun l st => e_glbP (k := k + 2) (H_fits_purposes.con_fits_purposes_ALL_PURPOSES (P := P)) l st
  have l1 := fits_lot_spec (P := P) k st (d := d) 0 4 (ws := allP) rfl hd
  simp only [allP] at l1
  simp [f_fits_purposes, b_fits_purposes, c1, l1, allP]
theorem need_purposes_spec [H_need_purposes P] {d : D} (hd : d.isDat = true) : calN P (k + 4) "need_purposes" [d] st = if manyD (wIn allP) d 0 4 then .ok .non st else .exc "InvalidPurposes" .non st := by
  rw [calN_at H_need_purposes.at_need_purposes, run_eq rfl]
  simp [f_need_purposes, b_need_purposes, fits_purposes_spec _ _ hd]
  cases manyD (wIn allP) d 0 4 <;> simp
theorem some_purposes (p : D → Bool) : manyD (wIn allP) (.tup (allP.filter p)) 0 4 = true := by
  unfold allP
  simp only [List.filter]
  cases p (.str "call") <;> cases p (.str "serve") <;> cases p (.str "sign") <;> cases p (.str "stamp") <;> decide +kernel
theorem allP_strs : ∀ x ∈ allP, x.isStr = true := by decide +kernel
theorem allP_good (p : D → Bool) : ∀ x ∈ allP.filter p, x.isDat = true ∧ x.dep ≤ 64 := fun x hx => by
  obtain ⟨a, rfl⟩ := isStr_iff.mp (allP_strs x (List.mem_filter.mp hx).1)
  exact ⟨rfl, by simp [D.dep]⟩
theorem allP_dats (p : D → Bool) : isDats (allP.filter p) = true := isDats_all.mpr fun x hx => (allP_good p x hx).1
theorem in_allP (p : D → Bool) : ∀ w ∈ allP, inD w (allP.filter p) = p w := by
  intro w hw
  unfold allP at hw ⊢
  simp only [List.filter]
  simp only [List.mem_cons, List.not_mem_nil, or_false] at hw
  rcases hw with rfl | rfl | rfl | rfl <;> cases p (.str "call") <;> cases p (.str "serve") <;> cases p (.str "sign") <;> cases p (.str "stamp") <;> decide +kernel
theorem met_filters (p q : D → Bool) : ((allP.filter p).filter fun x => inD x (allP.filter q)) = allP.filter fun x => p x && q x := by
  rw [List.filter_filter]
  refine List.filter_congr fun x hx => ?_
  rw [in_allP q x hx, Bool.and_comm]
theorem dat_lst {xs : List D} (h : isDats xs = true) : (D.lst xs).isDat = true := by simp only [D.isDat]; exact h
theorem all_not {f : D → Bool} (xs : List D) : (xs.filter fun c => !f c).isEmpty = xs.all f := by
  rw [Bool.eq_iff_iff]
  simp [List.isEmpty_iff, List.filter_eq_nil_iff]
end
end CP

set_option Elab.async false
set_option linter.all false
set_option maxRecDepth 100000
set_option autoImplicit false
/-! LibW: defs shared by laws. -/
namespace CP
open PySem L2
def b_need_depth : Ss :=
    (.cons (.ite (.not (.cal "is_whole" (.cons (.var 0) (.cons (.neg (.int 1)) (.cons (.glb "DEPTH") .nil))))) (.cons (.raise "InvalidNumber")
    .nil) .nil)
    .nil)
def f_need_depth : Fn := ⟨"need_depth", 1, 1, b_need_depth⟩
class H_need_depth (P : Pg) : Prop extends H_is_whole P where
  at_need_depth : P.fn? "need_depth" = some f_need_depth
  con_need_depth_DEPTH : P.con? "DEPTH" = some (.int 8)
def b_lesser : Ss :=
    (.cons (.ite (.or (.cmp .eq (.var 0) (.glb "NONE")) (.cmp .eq (.var 1) (.glb "NONE"))) (.cons (.ret (.bi .max (.cons (.var 0) (.cons (.var 1) .nil))))
    .nil) .nil)
    (.cons (.ret (.bi .min (.cons (.var 0) (.cons (.var 1) .nil))))
    .nil))
def f_lesser : Fn := ⟨"lesser", 2, 2, b_lesser⟩
class H_lesser (P : Pg) : Prop where
  at_lesser : P.fn? "lesser" = some f_lesser
  con_lesser_NONE : P.con? "NONE" = some (.int (-1))
def b_is_own_issuer : Ss :=
    (.cons (.ret (.cmp .eq (.ix (.var 0) (.int 1)) (.ix (.var 0) (.int 2))))
    .nil)
def f_is_own_issuer : Fn := ⟨"is_own_issuer", 1, 1, b_is_own_issuer⟩
class H_is_own_issuer (P : Pg) : Prop where
  at_is_own_issuer : P.fn? "is_own_issuer" = some f_is_own_issuer
def b_left_behind : Ss :=
    (.cons (.ite (.and (.not (.cal "is_own_issuer" (.cons (.var 1) .nil))) (.cmp .eq (.var 0) (.int 0))) (.cons (.ret (.glb "PASSED"))
    .nil) .nil)
    (.cons (.set 2 (.ite (.and (.not (.cal "is_own_issuer" (.cons (.var 1) .nil))) (.cmp .gt (.var 0) (.int 0))) (.bin .sub (.var 0) (.int 1)) (.var 0)))
    (.cons (.ret (.cal "lesser" (.cons (.var 2) (.cons (.cal "depth_in" (.cons (.var 1) .nil)) .nil))))
    .nil)))
def f_left_behind : Fn := ⟨"left_behind", 2, 3, b_left_behind⟩
class H_left_behind (P : Pg) : Prop extends H_lesser P, H_depth_in P, H_is_own_issuer P where
  at_left_behind : P.fn? "left_behind" = some f_left_behind
  con_left_behind_PASSED : P.con? "PASSED" = some (.int (-2))
def b_started : Ss :=
    (.cons (.ret (.tup (.cons (.var 0) (.cons (.glb "ALL_PURPOSES") (.cons (.int 0) (.cons (.glb "TIMES") .nil))))))
    .nil)
def f_started : Fn := ⟨"started", 1, 1, b_started⟩
class H_started (P : Pg) : Prop where
  at_started : P.fn? "started" = some f_started
  con_started_TIMES : P.con? "TIMES" = some (.int 1000000000)
  con_started_ALL_PURPOSES : P.con? "ALL_PURPOSES" = some (.tup [(.str "call"), (.str "serve"), (.str "sign"), (.str "stamp")])
def b_behind : Ss :=
    (.cons (.setT [3, 4, 5, 6] (.var 0))
    (.cons (.ite (.not (.var 2)) (.cons (.ite (.not (.cal "does_seal" (.cons (.var 1) .nil))) (.cons (.ret (.str "seal"))
    .nil) .nil)
    (.cons (.set 3 (.cal "left_behind" (.cons (.var 3) (.cons (.var 1) .nil))))
    (.cons (.ite (.cmp .eq (.var 3) (.glb "PASSED")) (.cons (.ret (.str "depth"))
    .nil) .nil)
    .nil))) .nil)
    (.cons (.par 5 6 (.bi .max (.cons (.var 5) (.cons (.ix (.var 1) (.int 5)) .nil))) (.bi .min (.cons (.var 6) (.cons (.ix (.var 1) (.int 6)) .nil))))
    (.cons (.ite (.cmp .gt (.var 5) (.var 6)) (.cons (.ret (.str "times"))
    .nil) .nil)
    (.cons (.ret (.tup (.cons (.var 3) (.cons (.cal "met" (.cons (.var 4) (.cons (.cal "purposes_in" (.cons (.var 1) .nil)) .nil))) (.cons (.var 5) (.cons (.var 6) .nil))))))
    .nil)))))
def f_behind : Fn := ⟨"behind", 3, 7, b_behind⟩
class H_behind (P : Pg) : Prop extends H_met P, H_purposes_in P, H_left_behind P, H_does_seal P where
  at_behind : P.fn? "behind" = some f_behind
  con_behind_PASSED : P.con? "PASSED" = some (.int (-2))
def b_fits_limits_limits : Ss :=
    (.cons (.ite (.or (.not (.cal "is_tuple_of" (.cons (.var 0) (.cons (.int 4) (.cons (.int 4) .nil))))) (.or (.not (.cal "is_whole" (.cons (.ix (.var 0) (.int 0)) (.cons (.glb "NONE") (.cons (.glb "DEPTH") .nil))))) (.not (.cal "fits_purposes" (.cons (.ix (.var 0) (.int 1)) .nil))))) (.cons (.ret (.bl false))
    .nil) .nil)
    (.cons (.ret (.and (.cal "is_whole" (.cons (.ix (.var 0) (.int 2)) (.cons (.int 0) (.cons (.glb "TIMES") .nil)))) (.cal "is_whole" (.cons (.ix (.var 0) (.int 3)) (.cons (.ix (.var 0) (.int 2)) (.cons (.glb "TIMES") .nil))))))
    .nil))
def f_fits_limits_limits : Fn := ⟨"fits_limits_limits", 1, 1, b_fits_limits_limits⟩
class H_fits_limits_limits (P : Pg) : Prop extends H_is_whole P, H_fits_purposes P, H_is_tuple_of P where
  at_fits_limits_limits : P.fn? "fits_limits_limits" = some f_fits_limits_limits
  con_fits_limits_limits_TIMES : P.con? "TIMES" = some (.int 1000000000)
  con_fits_limits_limits_DEPTH : P.con? "DEPTH" = some (.int 8)
  con_fits_limits_limits_NONE : P.con? "NONE" = some (.int (-1))
def b_need_limits : Ss :=
    (.cons (.ite (.not (.cal "fits_limits_limits" (.cons (.var 0) .nil))) (.cons (.raise "InvalidLimits")
    .nil) .nil)
    .nil)
def f_need_limits : Fn := ⟨"need_limits", 1, 1, b_need_limits⟩
class H_need_limits (P : Pg) : Prop extends H_fits_limits_limits P where
  at_need_limits : P.fn? "need_limits" = some f_need_limits
def b_need_time : Ss :=
    (.cons (.ite (.not (.cal "is_whole" (.cons (.var 0) (.cons (.int 0) (.cons (.glb "TIMES") .nil))))) (.cons (.raise "InvalidNumber")
    .nil) .nil)
    .nil)
def f_need_time : Fn := ⟨"need_time", 1, 1, b_need_time⟩
class H_need_time (P : Pg) : Prop extends H_is_whole P where
  at_need_time : P.fn? "need_time" = some f_need_time
  con_need_time_TIMES : P.con? "TIMES" = some (.int 1000000000)
def b_limits_let : Ss :=
    (.cons (.expr (.cal "need_limits" (.cons (.var 0) .nil)))
    (.cons (.expr (.cal "need_time" (.cons (.var 1) .nil)))
    (.cons (.expr (.cal "need_purposes" (.cons (.var 2) .nil)))
    (.cons (.ret (.and (.chn .le .le (.ix (.var 0) (.int 2)) (.var 1) (.ix (.var 0) (.int 3))) (.cmp .eq (.cal "met" (.cons (.var 2) (.cons (.ix (.var 0) (.int 1)) .nil))) (.var 2))))
    .nil))))
def f_limits_let : Fn := ⟨"limits_let", 3, 3, b_limits_let⟩
class H_limits_let (P : Pg) : Prop extends H_met P, H_need_purposes P, H_need_time P, H_need_limits P where
  at_limits_let : P.fn? "limits_let" = some f_limits_let
def b_counted_in : Ss :=
    (.cons (.ret (.lc (.var 2) (.nm 2) (.rng2 (.bin .add (.var 1) (.int 1)) (.bin .sub (.bi .len (.cons (.var 0) .nil)) (.int 1))) (.some (.not (.cal "is_own_issuer" (.cons (.ix (.var 0) (.var 2)) .nil)))) [2]))
    .nil)
def f_counted_in : Fn := ⟨"counted_in", 2, 3, b_counted_in⟩
class H_counted_in (P : Pg) : Prop extends H_is_own_issuer P where
  at_counted_in : P.fn? "counted_in" = some f_counted_in
def b_law_counts : Ss :=
    (.cons (.ret (.lc (.var 3) (.nm 3) (.rng2 (.bin .add (.var 1) (.int 1)) (.bi .min (.cons (.var 2) (.cons (.bin .sub (.bi .len (.cons (.var 0) .nil)) (.int 1)) .nil)))) (.some (.cmp .ne (.ix (.ix (.var 0) (.var 3)) (.int 1)) (.ix (.ix (.var 0) (.var 3)) (.int 2)))) [3]))
    .nil)
def f_law_counts : Fn := ⟨"_law_counts", 3, 4, b_law_counts⟩
class H_law_counts (P : Pg) : Prop where
  at_law_counts : P.fn? "_law_counts" = some f_law_counts
def b_law_all_depths : Ss :=
    (.cons (.set 2 (.bin .add (.lst (.cons (.tup (.cons (.neg (.int 1)) (.cons (.var 0) .nil))) .nil)) (.lc (.tup (.cons (.var 3) (.cons (.cal "_law_depth" (.cons (.var 4) .nil)) .nil))) (.tu [3, 4]) (.enu (.sl (.var 1) .none (.some (.neg (.int 1))))) .none [3, 4])))
    (.cons (.ret (.lc (.tup (.cons (.var 3) (.cons (.var 4) .nil))) (.tu [3, 4]) (.seq (.var 2)) (.some (.cmp .ge (.var 4) (.int 0))) [3, 4]))
    .nil))
def f_law_all_depths : Fn := ⟨"_law_all_depths", 2, 5, b_law_all_depths⟩
class H_law_all_depths (P : Pg) : Prop extends H_law_depth P where
  at_law_all_depths : P.fn? "_law_all_depths" = some f_law_all_depths
end CP

set_option Elab.async false
set_option linter.all false
set_option maxRecDepth 100000
set_option autoImplicit false
/-! LibW1: depths along a chain; limits. -/
namespace CP
open PySem L2
/-- the least, -1 for none -/
def minOr : List Int → Int
  | [] => -1
  | n :: ns => minL n ns
def lessI (a b : Int) : Int := if a = -1 ∨ b = -1 then (if a < b then b else a) else if b < a then b else a
/-- what counts (whether a certificate counts, its depth), one after the other -/
def stepP (left : Int) (c : Bool × Int) : Int := if c.1 = true ∧ left = 0 then -2 else lessI (if c.1 = true ∧ 0 < left then left - 1 else left) c.2
def runP : List (Bool × Int) → Int → List Int
  | [], _ => []
  | c :: cs, left => if stepP left c = -2 then [-2] else stepP left c :: runP cs (stepP left c)
def downL (A : List Int) (c : Bool × Int) : List Int := A.map fun a => a - if c.1 = true then 1 else 0
def hereL (c : Bool × Int) : List Int := if 0 ≤ c.2 then [c.2] else []
def runL : List (Bool × Int) → List Int → List Int
  | [], _ => []
  | c :: cs, A => if (downL A c).any (fun a => decide (a < 0)) = true then [-2] else minOr (downL A c ++ hereL c) :: runL cs (downL A c ++ hereL c)
theorem minOr_spec {A : List Int} (h : A ≠ []) : minOr A ∈ A ∧ ∀ a ∈ A, minOr A ≤ a := by
  cases A with
  | nil => exact absurd rfl h
  | cons n ns =>
    obtain ⟨h1, h2, h3⟩ := minL_go ns n
    refine ⟨?_, fun a ha => ?_⟩
    · rcases h1 with h1 | h1
      · exact List.mem_cons.mpr (.inl h1)
      · exact List.mem_cons_of_mem _ h1
    · rcases List.mem_cons.mp ha with rfl | ha
      · exact h2
      · exact h3 a ha
theorem minOr_uniq {A : List Int} {m : Int} (hm : m ∈ A) (h : ∀ a ∈ A, m ≤ a) : minOr A = m := by
  have hA : A ≠ [] := fun e => by rw [e] at hm; cases hm
  obtain ⟨h1, h2⟩ := minOr_spec hA
  have := h _ h1
  have := h2 m hm
  omega
theorem minOr_pos {A : List Int} (h : ∀ a ∈ A, 0 ≤ a) : (A = [] ∧ minOr A = -1) ∨ (A ≠ [] ∧ 0 ≤ minOr A) := by
  by_cases e : A = []
  · exact .inl ⟨e, by rw [e]; rfl⟩
  · exact .inr ⟨e, h _ (minOr_spec e).1⟩
theorem minOr_down {A : List Int} (c : Bool × Int) (h : A ≠ []) : minOr (downL A c) = minOr A - if c.1 = true then 1 else 0 := by
  obtain ⟨h1, h2⟩ := minOr_spec h
  refine minOr_uniq (List.mem_map.mpr ⟨_, h1, rfl⟩) fun a ha => ?_
  obtain ⟨b, hb, rfl⟩ := List.mem_map.mp ha
  have := h2 b hb
  omega
theorem minOr_here {A : List Int} (c : Bool × Int) (h : ∀ a ∈ A, 0 ≤ a) (hc : -1 ≤ c.2) : minOr (A ++ hereL c) = lessI (minOr A) c.2 := by
  unfold hereL lessI
  by_cases h0 : 0 ≤ c.2
  · rw [if_pos h0]
    rcases minOr_pos h with ⟨e, e2⟩ | ⟨e, e2⟩
    · rw [e2, if_pos (.inl rfl), if_pos (by omega), e]
      rfl
    · obtain ⟨h1, h2⟩ := minOr_spec e
      rw [if_neg (by omega)]
      by_cases hl : c.2 < minOr A
      · rw [if_pos hl]
        exact minOr_uniq (by simp) fun a ha => by
          rcases List.mem_append.mp ha with ha | ha
          · have := h2 a ha; omega
          · rw [List.mem_singleton.mp ha]; exact Int.le_refl _
      · rw [if_neg hl]
        exact minOr_uniq (List.mem_append_left _ h1) fun a ha => by
          rcases List.mem_append.mp ha with ha | ha
          · exact h2 a ha
          · rw [List.mem_singleton.mp ha]; omega
  · have e1 : c.2 = -1 := by omega
    rw [if_neg h0, List.append_nil, e1, if_pos (.inr rfl)]
    rcases minOr_pos h with ⟨_, e2⟩ | ⟨_, e2⟩
    · rw [e2]; rfl
    · rw [if_neg (by omega)]
theorem run_same : ∀ (cs : List (Bool × Int)) (A : List Int), (∀ a ∈ A, 0 ≤ a) → (∀ c ∈ cs, -1 ≤ c.2) → runP cs (minOr A) = runL cs A
  | [], _, _, _ => rfl
  | c :: cs, A, hA, hc => by
    have hc1 := hc c List.mem_cons_self
    have hm := minOr_pos hA
    unfold runP runL
    by_cases p : c.1 = true ∧ minOr A = 0
    · have e1 : stepP (minOr A) c = -2 := by unfold stepP; rw [if_pos p]
      have e2 : (downL A c).any (fun a => decide (a < 0)) = true := by
        rcases hm with ⟨_, e⟩ | ⟨e, _⟩
        · omega
        · rw [List.any_eq_true]
          refine ⟨minOr A - 1, List.mem_map.mpr ⟨_, (minOr_spec e).1, by rw [if_pos p.1]⟩, ?_⟩
          rw [decide_eq_true_eq]; omega
      rw [if_pos e1, if_pos e2]
    · have down : ∀ a ∈ downL A c, 0 ≤ a := fun a ha => by
        obtain ⟨b, hb, rfl⟩ := List.mem_map.mp ha
        have b0 := hA b hb
        split
        · rename_i h1
          rcases hm with ⟨e, _⟩ | ⟨e, _⟩
          · rw [e] at hb; cases hb
          · have := (minOr_spec e).2 b hb
            have : minOr A ≠ 0 := fun z => p ⟨h1, z⟩
            have := (minOr_pos hA)
            omega
        · omega
      have e2 : ¬ (downL A c).any (fun a => decide (a < 0)) = true := fun h => by
        obtain ⟨a, ha, e⟩ := List.any_eq_true.mp h
        rw [decide_eq_true_eq] at e
        have := down a ha
        omega
      have e3 : stepP (minOr A) c = minOr (downL A c ++ hereL c) := by
        rw [minOr_here c down hc1]
        unfold stepP
        rw [if_neg p]
        congr 1
        rcases hm with ⟨e, e4⟩ | ⟨e, e4⟩
        · rw [e4, if_neg (by omega), e]; rfl
        · rw [minOr_down c e]
          by_cases h1 : c.1 = true
          · have : minOr A ≠ 0 := fun z => p ⟨h1, z⟩
            rw [if_pos ⟨h1, by omega⟩, if_pos h1]
          · rw [if_neg (fun z => h1 z.1), if_neg h1]; omega
      have all2 : ∀ a ∈ downL A c ++ hereL c, 0 ≤ a := fun a ha => by
        rcases List.mem_append.mp ha with ha | ha
        · exact down a ha
        · unfold hereL at ha
          split at ha
          · rw [List.mem_singleton.mp ha]; assumption
          · cases ha
      have e4 : ¬ stepP (minOr A) c = -2 := by
        rw [e3]
        rcases minOr_pos all2 with ⟨_, e⟩ | ⟨_, e⟩ <;> omega
      rw [if_neg e4, if_neg e2, e3, run_same cs _ all2 fun d hd => hc d (List.mem_cons_of_mem _ hd)]
/-! ### whether a depth is passed -/
def cnt : List (Bool × Int) → Int
  | [] => 0
  | c :: cs => (if c.1 = true then 1 else 0) + cnt cs
theorem cnt_pos : ∀ cs, 0 ≤ cnt cs
  | [] => Int.le_refl _
  | c :: cs => by
    have := cnt_pos cs
    unfold cnt
    split <;> omega
def Overs : List (Bool × Int) → Prop
  | [] => False
  | c :: cs => (0 ≤ c.2 ∧ c.2 < cnt cs) ∨ Overs cs
def Over (cs : List (Bool × Int)) (A : List Int) : Prop := (∃ a ∈ A, a < cnt cs) ∨ Overs cs
theorem two_in : ∀ (cs : List (Bool × Int)) (A : List Int), (∀ a ∈ A, 0 ≤ a) → (-2 ∈ runL cs A ↔ Over cs A)
  | [], A, hA => by
    unfold Over Overs runL
    simp only [List.not_mem_nil, or_false, false_iff]
    rintro ⟨a, ha, h⟩
    have := hA a ha
    simp only [cnt] at h
    omega
  | c :: cs, A, hA => by
    have pos := cnt_pos cs
    unfold runL
    by_cases h : (downL A c).any (fun a => decide (a < 0)) = true
    · rw [if_pos h]
      simp only [List.mem_singleton, true_iff]
      obtain ⟨a, ha, e⟩ := List.any_eq_true.mp h
      rw [decide_eq_true_eq] at e
      obtain ⟨b, hb, rfl⟩ := List.mem_map.mp ha
      refine .inl ⟨b, hb, ?_⟩
      unfold cnt
      omega
    · rw [if_neg h]
      have down : ∀ a ∈ downL A c, 0 ≤ a := fun a ha => by
        have : ¬ a < 0 := fun z => h (List.any_eq_true.mpr ⟨a, ha, decide_eq_true z⟩)
        omega
      have all2 : ∀ a ∈ downL A c ++ hereL c, 0 ≤ a := fun a ha => by
        rcases List.mem_append.mp ha with ha | ha
        · exact down a ha
        · unfold hereL at ha
          split at ha
          · rw [List.mem_singleton.mp ha]; assumption
          · cases ha
      have ne : ¬ (-2 : Int) = minOr (downL A c ++ hereL c) := by
        rcases minOr_pos all2 with ⟨_, e⟩ | ⟨_, e⟩ <;> omega
      rw [List.mem_cons, or_iff_right ne, two_in cs _ all2]
      unfold Over
      constructor
      · rintro (⟨a, ha, e⟩ | o)
        · rcases List.mem_append.mp ha with ha | ha
          · obtain ⟨b, hb, rfl⟩ := List.mem_map.mp ha
            exact .inl ⟨b, hb, by unfold cnt; omega⟩
          · unfold hereL at ha
            split at ha
            · rw [List.mem_singleton.mp ha] at e
              exact .inr (.inl ⟨by assumption, e⟩)
            · cases ha
        · exact .inr (.inr o)
      · rintro (⟨a, ha, e⟩ | o)
        · refine .inl ⟨_, List.mem_append_left _ (List.mem_map.mpr ⟨a, ha, rfl⟩), ?_⟩
          unfold cnt at e
          omega
        · rcases o with ⟨h0, e⟩ | o
          · exact .inl ⟨c.2, List.mem_append_right _ (by unfold hereL; rw [if_pos h0]; exact List.mem_singleton.mpr rfl), e⟩
          · exact .inr o


/-- whether issuer and subject are the same -/
def ownC (d : D) : Bool := match d with
  | .tup (_ :: a :: b :: _) => a.eqv b
  | _ => false
/-- a certificate, as it counts -/
def fC (d : D) : Bool × Int := (!ownC d, depthOf d)
theorem depthOf_low {d : D} (h : certD d = true) : -1 ≤ depthOf d := by
  unfold depthOf
  rcases get_cases h "basic" with e | e
  · rw [e]; decide
  · obtain ⟨b, n, e2, h1, _⟩ := val_basic e
    rw [e2]; exact h1
theorem cut_last {α : Type} (xs : List α) : cutD xs none (some (-1)) = xs.dropLast := by
  unfold cutD
  rw [HT.sIx_none]
  have e : HT.sIx xs.length xs.length (some (-1)) = xs.length - 1 := by
    show (if (-1 : Int) < 0 then ((-1 : Int) + (xs.length : Int)).toNat else min (-1 : Int).toNat xs.length) = _
    rw [if_pos (by omega)]
    omega
  rw [e, List.drop_zero, Nat.sub_zero, List.dropLast_eq_take]
section
variable {P : Pg} (k : Nat) (st : So)
theorem own_spec [H_is_own_issuer P] {d : D} (h : certD d = true) : calN P (k + 1) "is_own_issuer" [d] st = .ok (.bl (ownC d)) st := by
  obtain ⟨a, b, c, e, f, g, h, i, j, xs, ks, ds, rfl, F⟩ := cert_of h
  rw [calN_at H_is_own_issuer.at_is_own_issuer, run_eq rfl]
  have e1 := fun st => eqD_dats st (words_good F.wb).1 (words_good F.wc).1 (Nat.le_trans (words_good F.wb).2 (by omega))
  simp [f_is_own_issuer, b_is_own_issuer, e1, ownC]
theorem lesser_spec [H_lesser P] (i j : Int) : calN P (k + 1) "lesser" [.int i, .int j] st = .ok (.int (lessI i j)) st := by
  rw [calN_at H_lesser.at_lesser, run_eq rfl]
  have c1 := fun l st => e_glbP (k := k) (H_lesser.con_lesser_NONE (P := P)) l st
  unfold lessI
  by_cases h1 : i = -1
  · subst h1
    simp [f_lesser, b_lesser, c1]
  · by_cases h2 : j = -1
    · subst h2
      have e1 : (i == -1) = false := beq_false_of_ne h1
      simp [f_lesser, b_lesser, c1, e1]
    · have e1 : (i == -1) = false := beq_false_of_ne h1
      have e2 : (j == -1) = false := beq_false_of_ne h2
      simp [f_lesser, b_lesser, c1, e1, e2, h1, h2]
theorem left_behind_spec [H_left_behind P] {d : D} (h : certD d = true) (left : Int) : calN P (k + 3) "left_behind" [.int left, d] st = .ok (.int (stepP left (fC d))) st := by
  rw [calN_at H_left_behind.at_left_behind, run_eq rfl]
  have c1 := fun l st => e_glbP (k := k + 2) (H_left_behind.con_left_behind_PASSED (P := P)) l st
  unfold stepP fC
  cases ho : ownC d
  · by_cases h1 : left = 0
    · subst h1
      simp [f_left_behind, b_left_behind, own_spec _ _ h, ho, c1]
    · have e1 : (left == 0) = false := beq_false_of_ne h1
      by_cases h2 : 0 < left
      · simp [f_left_behind, b_left_behind, own_spec _ _ h, ho, c1, e1, h1, h2, depth_in_spec _ _ h, lesser_spec]
      · simp [f_left_behind, b_left_behind, own_spec _ _ h, ho, c1, e1, h1, h2, depth_in_spec _ _ h, lesser_spec]
  · simp [f_left_behind, b_left_behind, own_spec _ _ h, ho, c1, depth_in_spec _ _ h, lesser_spec]
theorem runP_cons (c : Bool × Int) (cs : List (Bool × Int)) (left : Int) : runP (c :: cs) left = if stepP left c = -2 then [-2] else stepP left c :: runP cs (stepP left c) := rfl
theorem mem_drop {α : Type} {x : α} {xs : List α} (h : x ∈ xs.dropLast) : x ∈ xs := by
  rw [List.dropLast_eq_take] at h
  exact List.mem_of_mem_take h
theorem need_depth_spec [H_need_depth P] {d : D} (hd : d.isDat = true) : calN P (k + 2) "need_depth" [d] st = if wholeD d (-1) 8 then .ok .non st else .exc "InvalidNumber" .non st := by
  rw [calN_at H_need_depth.at_need_depth, run_eq rfl]
  have c1 := fun l st => e_glbP (k := k + 1) (H_need_depth.con_need_depth_DEPTH (P := P)) l st
  simp [f_need_depth, b_need_depth, c1, is_whole_spec _ _ _ _ hd]
  cases wholeD d (-1) 8 <;> simp
end
/-! ### the places that count -/
def nonOwnAt (xs : List D) (d : D) : Bool := match d with
  | .int i => (match atI xs i with
    | some c => !ownC c
    | none => false)
  | _ => false
def placesD (xs : List D) (lo : Int) (m : Nat) : List D := (rngD lo m).filter (nonOwnAt xs)
theorem rng_at {xs : List D} {lo : Int} {m : Nat} {d : D} (hd : d ∈ rngD lo m) (h0 : 0 ≤ lo) (h1 : lo + m ≤ xs.length) : ∃ i c, d = .int i ∧ c ∈ xs ∧ atI xs i = some c := by
  unfold rngD at hd
  obtain ⟨j, hj, rfl⟩ := List.mem_map.mp hd
  rw [List.mem_range] at hj
  obtain ⟨c, hc, e⟩ := atI_mem (xs := xs) (r := lo + (j : Int)) (by omega) (by omega)
  exact ⟨_, c, rfl, hc, e⟩
section
variable {P : Pg} (k : Nat) (st : So) {xs : List D}
theorem counted_in_spec [H_counted_in P] (h : ∀ d ∈ xs, certD d = true) (h1 : 1 ≤ xs.length) (h8 : xs.length ≤ 100) {p : Int} (p0 : -1 ≤ p) (p1 : p < xs.length) :
    calN P (k + 2) "counted_in" [.tup xs, .int p] st = .ok (.lst (placesD xs (p + 1) ((xs.length : Int) - 1 - (p + 1)).toNat)) st := by
  rw [calN_at H_counted_in.at_counted_in, run_eq rfl]
  have ok : rngOk (p + 1) ((xs.length : Int) - 1) = true := by
    have : ((xs.length : Int) - 1 - (p + 1)).toNat ≤ sizeLine := le_size (by omega)
    simp only [rngOk, this, decide_true, Bool.and_true, Bool.and_eq_true, decide_eq_true_eq]
    omega
  simp [f_counted_in, b_counted_in, ok]
  rw [lc_pure (nonOwnAt xs) id fun d hd => by
    obtain ⟨i, c, rfl, hc, e⟩ := rng_at (xs := xs) hd (by omega) (by omega)
    refine ⟨_, rfl, ?_, fun _ => by simp [wipeD]⟩
    simp [wipeD, CP.ix_tup, e, own_spec _ _ (h c hc), nonOwnAt]]
  simp [placesD]
theorem law_counts_spec [H_law_counts P] (h : ∀ d ∈ xs, certD d = true) (h1 : 1 ≤ xs.length) (h8 : xs.length ≤ 100) {p e : Int} (p0 : -1 ≤ p) (p1 : p < xs.length) (e0 : 0 ≤ e) (e1 : e ≤ (xs.length : Int) - 1) :
    calN P (k + 1) "_law_counts" [.tup xs, .int p, .int e] st = .ok (.lst (placesD xs (p + 1) (e - (p + 1)).toNat)) st := by
  rw [calN_at H_law_counts.at_law_counts, run_eq rfl]
  have ok : rngOk (p + 1) e = true := by
    have : (e - (p + 1)).toNat ≤ sizeLine := le_size (by omega)
    simp only [rngOk, this, decide_true, Bool.and_true, Bool.and_eq_true, decide_eq_true_eq]
    omega
  have mn : (if (xs.length : Int) - 1 < e then (xs.length : Int) - 1 else e) = e := if_neg (by omega)
  simp [f_law_counts, b_law_counts]
  rw [mn]
  simp [ok]
  rw [lc_pure (nonOwnAt xs) id fun d hd => by
    obtain ⟨i, c, rfl, hc, ea⟩ := rng_at (xs := xs) hd (by omega) (by omega)
    refine ⟨_, rfl, ?_, fun _ => by simp [wipeD]⟩
    obtain ⟨a, b, c', e', f, g, h', i', j, ys, ks, ds, rfl, F⟩ := cert_of (h c hc)
    have e2 := fun st => eqD_dats st (words_good F.wb).1 (words_good F.wc).1 (Nat.le_trans (words_good F.wb).2 (by omega))
    have a1 : atI [a, b, c', e', f, g, h', i', j] 1 = some b := rfl
    have a2 : atI [a, b, c', e', f, g, h', i', j] 2 = some c' := rfl
    simp [wipeD, CP.ix_tup, ea, nonOwnAt, ownC, e2, a1, a2]]
  simp [placesD]
end
theorem cnt_app : ∀ a b : List (Bool × Int), cnt (a ++ b) = cnt a + cnt b
  | [], b => by simp [cnt]
  | c :: a, b => by
    have := cnt_app a b
    simp only [List.cons_append, cnt]
    omega
theorem cnt_one (c : Bool × Int) : cnt [c] = if c.1 = true then 1 else 0 := by simp [cnt]
theorem places_len {xs : List D} (lo : Nat) : ∀ m : Nat, lo + m ≤ xs.length - 1 → ((placesD xs lo m).length : Int) = cnt (((xs.dropLast.map fC).drop lo).take m)
  | 0, _ => by simp [placesD, rngD, cnt]
  | m + 1, h => by
    have ih := places_len (xs := xs) lo m (by omega)
    have hl : lo + m < xs.length := by omega
    have e1 : placesD xs lo (m + 1) = placesD xs lo m ++ (if (!ownC xs[lo + m]) = true then [.int ((lo : Int) + (m : Int))] else []) := by
      have ea : atI xs ((lo : Int) + (m : Int)) = some xs[lo + m] := by
        have : ((lo : Int) + (m : Int)) = ((lo + m : Nat) : Int) := by omega
        rw [this]
        unfold atI ixN
        rw [if_pos (by omega), if_pos (by omega), Option.bind_some, Int.toNat_natCast, List.getElem?_eq_getElem hl]
      unfold placesD rngD
      rw [List.range_succ, List.map_append, List.filter_append]
      congr 1
      simp [nonOwnAt, ea, List.filter]
      cases ownC xs[lo + m] <;> rfl
    have hc : lo + m < (xs.dropLast.map fC).length := by simp; omega
    have e2 : ((xs.dropLast.map fC).drop lo).take (m + 1) = ((xs.dropLast.map fC).drop lo).take m ++ [fC xs[lo + m]] := by
      rw [List.take_succ, List.getElem?_drop, List.getElem?_eq_getElem hc]
      simp
    rw [e1, e2, cnt_app, List.length_append]
    rw [cnt_one]
    show _ = _ + if (!ownC xs[lo + m]) = true then (1 : Int) else 0
    rw [← ih]
    cases ho : ownC xs[lo + m] <;> simp
/-! ### all depths -/
def idxL : Nat → List (Bool × Int) → List (Int × Int)
  | _, [] => []
  | i, c :: cs => ((i : Int), c.2) :: idxL (i + 1) cs
def pD (p : Int × Int) : D := .tup [.int p.1, .int p.2]
def pairsP (cs : List (Bool × Int)) (depth : Int) : List (Int × Int) := ((-1, depth) :: idxL 0 cs).filter fun p => decide (0 ≤ p.2)
def depF (d : D) : D := match d with
  | .tup [i, x] => .tup [i, .int (depthOf x)]
  | _ => .non
theorem enu_dep : ∀ (dl : List D) (i : Nat), (enuD i dl).map depF = (idxL i (dl.map fC)).map pD
  | [], _ => rfl
  | d :: dl, i => by
    have ih := enu_dep dl (i + 1)
    simp only [enuD, List.map_cons, idxL, ih]
    rfl
theorem enu_mem : ∀ {dl : List D} {i : Nat} {d : D}, d ∈ enuD i dl → ∃ j x, d = .tup [.int j, x] ∧ x ∈ dl
  | [], _, _, h => by cases h
  | x :: dl, i, d, h => by
    simp only [enuD] at h
    rcases List.mem_cons.mp h with rfl | h
    · exact ⟨_, x, rfl, List.mem_cons_self⟩
    · obtain ⟨j, y, e, hy⟩ := enu_mem h
      exact ⟨j, y, e, List.mem_cons_of_mem _ hy⟩
theorem idxL_len : ∀ (cs : List (Bool × Int)) (i : Nat), (idxL i cs).length = cs.length
  | [], _ => rfl
  | c :: cs, i => by simp [idxL, idxL_len cs]
def posD (d : D) : Bool := match d with
  | .tup [_, .int o] => decide (0 ≤ o)
  | _ => false
theorem all_depths_spec {P : Pg} [H_law_all_depths P] (k : Nat) (st : So) {xs : List D} (h : ∀ d ∈ xs, certD d = true) (h8 : xs.length ≤ 100) (depth : Int) : calN P (k + 3) "_law_all_depths" [.int depth, .tup xs] st = .ok (.lst ((pairsP (xs.dropLast.map fC) depth).map pD)) st := by
  obtain ⟨cs, hcs⟩ : ∃ cs, xs.dropLast.map fC = cs := ⟨_, rfl⟩
  rw [hcs, calN_at H_law_all_depths.at_law_all_depths, run_eq rfl]
  simp [f_law_all_depths, b_law_all_depths, cut_last]
  rw [lc_map depF fun d hd => by
    obtain ⟨j, x, rfl, hx⟩ := enu_mem hd
    refine ⟨_, rfl, rfl, ?_⟩
    simp [wipeD, law_depth_spec _ _ (h x (mem_drop hx)), depF]]
  rw [enu_dep]
  have z : 1 + (idxL 0 (xs.dropLast.map fC)).length ≤ sizeLine := le_size (by rw [idxL_len]; simp; omega)
  rw [hcs] at z ⊢
  simp [z]
  have e1 : D.tup [.int (-1), .int depth] :: (idxL 0 cs).map pD = ((-1, depth) :: idxL 0 cs).map pD := rfl
  rw [e1, lc_pure posD id fun d hd => by
    obtain ⟨p, _, rfl⟩ := List.mem_map.mp hd
    refine ⟨_, rfl, ?_, fun _ => ?_⟩
    · simp [wipeD, pD, posD]
    · simp [wipeD, pD]]
  simp only [bind_ok, List.nil_append, List.map_id, of_ok, seq_rt, res_rt]
  congr 3
  rw [List.filter_map]
  rfl
/-! ### what is left, all together -/
theorem idxL_app : ∀ (a b : List (Bool × Int)) (i : Nat), idxL i (a ++ b) = idxL i a ++ idxL (i + a.length) b
  | [], b, i => by simp [idxL]
  | c :: a, b, i => by
    have := idxL_app a b (i + 1)
    simp only [List.cons_append, idxL, this, List.length_cons]
    rw [show i + 1 + a.length = i + (a.length + 1) from by omega]
theorem idxL_bd : ∀ {cs : List (Bool × Int)} {i : Nat} {p : Int × Int}, p ∈ idxL i cs → (i : Int) ≤ p.1 ∧ p.1 < (i : Int) + cs.length
  | [], _, _, h => by cases h
  | c :: cs, i, p, h => by
    simp only [idxL] at h
    rcases List.mem_cons.mp h with rfl | h
    · simp; omega
    · have := idxL_bd h
      simp; omega
/-- what is there ahead of k -/
def headP (depth : Int) : List (Int × Int) := if 0 ≤ depth then [(-1, depth)] else []
theorem pairs_split (cs : List (Bool × Int)) (depth : Int) : pairsP cs depth = headP depth ++ (idxL 0 cs).filter fun p => decide (0 ≤ p.2) := by
  unfold pairsP headP
  rw [List.filter_cons]
  by_cases h : 0 ≤ depth <;> simp [h]
theorem pairs_lt (cs : List (Bool × Int)) (depth : Int) (k : Nat) (hk : k ≤ cs.length) : (pairsP cs depth).filter (fun p => decide (p.1 < (k : Int))) = pairsP (cs.take k) depth := by
  rw [pairs_split, pairs_split, List.filter_append]
  have e1 : (headP depth).filter (fun p => decide (p.1 < (k : Int))) = headP depth := by
    unfold headP
    split
    · simp; omega
    · rfl
  rw [e1]
  congr 1
  conv => lhs; rw [← List.take_append_drop k cs, idxL_app, List.filter_append, List.filter_append]
  have e2 : ((idxL 0 (cs.take k)).filter fun p => decide (0 ≤ p.2)).filter (fun p => decide (p.1 < (k : Int))) = (idxL 0 (cs.take k)).filter fun p => decide (0 ≤ p.2) := List.filter_eq_self.mpr fun p hp => by
    have := idxL_bd (List.mem_filter.mp hp).1
    rw [List.length_take] at this
    rw [decide_eq_true_eq]; omega
  have e3 : ((idxL (0 + (cs.take k).length) (cs.drop k)).filter fun p => decide (0 ≤ p.2)).filter (fun p => decide (p.1 < (k : Int))) = [] := List.filter_eq_nil_iff.mpr fun p hp => by
    have := idxL_bd (List.mem_filter.mp hp).1
    rw [List.length_take] at this
    rw [decide_eq_true_eq]; omega
  rw [e2, e3, List.append_nil]
theorem pairs_eq (cs : List (Bool × Int)) (depth : Int) (k : Nat) (c : Bool × Int) (hc : cs[k]? = some c) : (pairsP cs depth).filter (fun p => decide (p.1 = (k : Int))) = if 0 ≤ c.2 then [((k : Int), c.2)] else [] := by
  have hk : k < cs.length := (List.getElem?_eq_some_iff.mp hc).1
  rw [pairs_split, List.filter_append]
  have e1 : (headP depth).filter (fun p => decide (p.1 = (k : Int))) = [] := by
    unfold headP
    split
    · simp
    · rfl
  rw [e1, List.nil_append]
  have e0 : cs = cs.take k ++ c :: cs.drop (k + 1) := by
    have : cs.drop k = c :: cs.drop (k + 1) := by
      rw [List.drop_eq_getElem_cons hk]
      rw [List.getElem?_eq_getElem hk] at hc
      cases hc; rfl
    rw [← this, List.take_append_drop]
  conv => lhs; rw [e0, idxL_app, List.filter_append, List.filter_append]
  have e2 : ((idxL 0 (cs.take k)).filter fun p => decide (0 ≤ p.2)).filter (fun p => decide (p.1 = (k : Int))) = [] := List.filter_eq_nil_iff.mpr fun p hp => by
    have := idxL_bd (List.mem_filter.mp hp).1
    rw [List.length_take] at this
    rw [decide_eq_true_eq]; omega
  have len : (cs.take k).length = k := by rw [List.length_take]; omega
  have e3 : ((idxL (k + 1) (cs.drop (k + 1))).filter fun p => decide (0 ≤ p.2)).filter (fun p => decide (p.1 = (k : Int))) = [] := List.filter_eq_nil_iff.mpr fun p hp => by
    have := idxL_bd (List.mem_filter.mp hp).1
    rw [decide_eq_true_eq]; omega
  rw [e2, List.nil_append, len, Nat.zero_add]
  simp only [idxL, List.filter_cons]
  by_cases h0 : 0 ≤ c.2
  · simp [h0]
    simpa using e3
  · simp [h0]
    simpa using e3
/-- what is left of a depth ahead of turn k -/
def gA (cs : List (Bool × Int)) (k : Nat) (p : Int × Int) : Int := p.2 - cnt ((cs.drop (p.1 + 1).toNat).take (k - (p.1 + 1).toNat))
def aheadL (cs : List (Bool × Int)) (depth : Int) (k : Nat) : List Int := (pairsP (cs.take k) depth).map (gA cs k)
theorem pairs_bd {cs : List (Bool × Int)} {depth : Int} {p : Int × Int} (h : p ∈ pairsP cs depth) : -1 ≤ p.1 ∧ p.1 < cs.length := by
  rw [pairs_split] at h
  rcases List.mem_append.mp h with h | h
  · unfold headP at h
    split at h
    · rw [List.mem_singleton.mp h]; simp; omega
    · cases h
  · have := idxL_bd (List.mem_filter.mp h).1
    omega
theorem slice_step {cs : List (Bool × Int)} {k j : Nat} {c : Bool × Int} (hc : cs[k]? = some c) (hj : j ≤ k) : (cs.drop j).take (k + 1 - j) = (cs.drop j).take (k - j) ++ [c] := by
  rw [show k + 1 - j = (k - j) + 1 from by omega, List.take_succ, List.getElem?_drop, show j + (k - j) = k from by omega, hc]
  rfl
theorem ahead_step {cs : List (Bool × Int)} {k : Nat} {c : Bool × Int} (hc : cs[k]? = some c) (depth : Int) : (pairsP (cs.take k) depth).map (gA cs (k + 1)) = downL (aheadL cs depth k) c := by
  unfold downL aheadL
  rw [List.map_map]
  refine List.map_congr_left fun p hp => ?_
  have := pairs_bd hp
  rw [List.length_take] at this
  simp only [gA, Function.comp]
  rw [slice_step hc (j := (p.1 + 1).toNat) (by omega), cnt_app, cnt_one]
  omega
theorem pairs_succ {cs : List (Bool × Int)} {k : Nat} {c : Bool × Int} (hc : cs[k]? = some c) (depth : Int) : pairsP (cs.take (k + 1)) depth = pairsP (cs.take k) depth ++ if 0 ≤ c.2 then [((k : Int), c.2)] else [] := by
  have hk : k < cs.length := (List.getElem?_eq_some_iff.mp hc).1
  rw [pairs_split, pairs_split, List.take_succ, hc]
  show _ ++ (idxL 0 (cs.take k ++ [c])).filter _ = _
  rw [idxL_app, List.filter_append, List.append_assoc]
  congr 2
  rw [List.length_take, Nat.min_eq_left (by omega), Nat.zero_add]
  simp only [idxL, List.filter_cons, List.filter_nil]
  by_cases h0 : 0 ≤ c.2 <;> simp [h0]
theorem ahead_next {cs : List (Bool × Int)} {k : Nat} {c : Bool × Int} (hc : cs[k]? = some c) (depth : Int) : aheadL cs depth (k + 1) = downL (aheadL cs depth k) c ++ hereL c := by
  rw [← ahead_step hc]
  unfold aheadL
  rw [pairs_succ hc, List.map_append]
  congr 1
  unfold hereL
  by_cases h0 : 0 ≤ c.2
  · rw [if_pos h0, if_pos h0]
    simp [gA, cnt]
  · rw [if_neg h0, if_neg h0]; rfl
theorem ahead_zero (cs : List (Bool × Int)) (depth : Int) : aheadL cs depth 0 = if 0 ≤ depth then [depth] else [] := by
  unfold aheadL
  rw [List.take_zero, pairs_split]
  unfold headP
  by_cases h0 : 0 ≤ depth
  · rw [if_pos h0, if_pos h0]; simp [idxL, gA, cnt]
  · rw [if_neg h0, if_neg h0]; rfl
theorem counts_len {xs : List D} {k : Nat} {pl : Int} (h0 : -1 ≤ pl) (h1 : pl < k) (hk : k < xs.length - 1) : ((placesD xs (pl + 1) (((k : Int) + 1) - (pl + 1)).toNat).length : Int) = cnt (((xs.dropLast.map fC).drop (pl + 1).toNat).take (k + 1 - (pl + 1).toNat)) := by
  obtain ⟨j, hj⟩ : ∃ j : Nat, pl + 1 = (j : Int) := ⟨(pl + 1).toNat, by omega⟩
  rw [hj]
  have e1 : (((k : Int) + 1) - (j : Int)).toNat = k + 1 - j := by omega
  have e2 : ((j : Int)).toNat = j := by omega
  rw [e1, e2]
  exact places_len j (k + 1 - j) (by omega)
def ltPl (k : Nat) (d : D) : Bool := match d with
  | .tup [.int pl, _] => decide (pl < (k : Int))
  | _ => false
def eqP (k : Nat) (d : D) : Bool := match d with
  | .tup [.int pl, _] => decide (pl = (k : Int))
  | _ => false
def gF (cs : List (Bool × Int)) (k : Nat) (d : D) : D := match d with
  | .tup [.int pl, .int o] => .int (gA cs k (pl, o))
  | _ => .non
def sndF (d : D) : D := match d with
  | .tup [_, o] => o
  | _ => .non
theorem lt_list (cs : List (Bool × Int)) (depth : Int) {k : Nat} {c : Bool × Int} (hc : cs[k]? = some c) : (((pairsP cs depth).map pD).filter (ltPl k)).map (gF cs (k + 1)) = (downL (aheadL cs depth k) c).map D.int := by
  have hk : k < cs.length := (List.getElem?_eq_some_iff.mp hc).1
  rw [List.filter_map, List.map_map]
  have e : (pairsP cs depth).filter (ltPl k ∘ pD) = pairsP (cs.take k) depth := by
    rw [← pairs_lt cs depth k (by omega)]
    rfl
  rw [e, ← ahead_step hc, List.map_map]
  rfl
theorem eq_list (cs : List (Bool × Int)) (depth : Int) {k : Nat} {c : Bool × Int} (hc : cs[k]? = some c) : (((pairsP cs depth).map pD).filter (eqP k)).map sndF = (hereL c).map D.int := by
  rw [List.filter_map, List.map_map]
  have e : (pairsP cs depth).filter (eqP k ∘ pD) = if 0 ≤ c.2 then [((k : Int), c.2)] else [] := by
    rw [← pairs_eq cs depth k c hc]
    rfl
  rw [e]
  unfold hereL
  by_cases h0 : 0 ≤ c.2
  · rw [if_pos h0, if_pos h0]; rfl
  · rw [if_neg h0, if_neg h0]; rfl
theorem rngD_cons (lo : Int) (m : Nat) : rngD lo (m + 1) = .int lo :: rngD (lo + 1) m := by
  unfold rngD
  rw [List.range_succ_eq_map, List.map_cons, List.map_map]
  congr 1
  · simp
  · refine List.map_congr_left fun j _ => ?_
    simp only [Function.comp, D.int.injEq]
    omega
def negP (d : D) : Bool := match d with
  | .int a => decide (a < 0)
  | _ => false
theorem int_dats (ns : List Int) : isDats (ns.map D.int) = true := isDats_all.mpr fun d hd => by
  obtain ⟨n, _, rfl⟩ := List.mem_map.mp hd
  rfl
theorem neg_empty : ∀ ns : List Int, ((ns.map D.int).filter negP).isEmpty = !ns.any (fun a => decide (a < 0))
  | [] => rfl
  | n :: ns => by
    have ih := neg_empty ns
    rw [List.map_cons, List.filter_cons, List.any_cons]
    by_cases h : n < 0
    · simp [negP, h]
    · simp only [negP, h, decide_false, Bool.false_or]
      exact ih
theorem intsD_map : ∀ ns : List Int, intsD (ns.map D.int) = some ns
  | [] => rfl
  | n :: ns => by simp [intsD, intsD_map ns]
theorem runL_cons (c : Bool × Int) (cs : List (Bool × Int)) (A : List Int) : runL (c :: cs) A = if (downL A c).any (fun a => decide (a < 0)) = true then [-2] else minOr (downL A c ++ hereL c) :: runL cs (downL A c ++ hereL c) := rfl
theorem run_eq2 {cs : List (Bool × Int)} (hc : ∀ c ∈ cs, -1 ≤ c.2) {depth : Int} (hd : -1 ≤ depth) : runL cs (aheadL cs depth 0) = runP cs depth := by
  rw [ahead_zero]
  by_cases h : 0 ≤ depth
  · rw [if_pos h]
    exact (run_same cs [depth] (fun a ha => by rw [List.mem_singleton.mp ha]; exact h) hc).symm
  · rw [if_neg h]
    have : depth = -1 := by omega
    rw [this]
    exact (run_same cs [] (fun a ha => by cases ha) hc).symm
theorem overs_iff : ∀ (cs : List (Bool × Int)) (i : Nat), Overs cs ↔ ∃ p ∈ idxL i cs, 0 ≤ p.2 ∧ p.2 < cnt (cs.drop (p.1 + 1 - i).toNat)
  | [], i => by simp [Overs, idxL]
  | c :: cs, i => by
    rw [Overs, overs_iff cs (i + 1)]
    simp only [idxL, List.mem_cons, exists_eq_or_imp]
    have e0 : ((i : Int) + 1 - i).toNat = 1 := by omega
    rw [e0]
    simp only [List.drop_one, List.tail_cons]
    constructor
    · rintro (h | ⟨p, hp, h0, h1⟩)
      · exact .inl h
      · have := idxL_bd hp
        refine .inr ⟨p, hp, h0, ?_⟩
        rw [show (p.1 + 1 - (i : Int)).toNat = (p.1 + 1 - ((i + 1 : Nat) : Int)).toNat + 1 from by omega, List.drop_succ_cons]
        exact h1
    · rintro (h | ⟨p, hp, h0, h1⟩)
      · exact .inl h
      · have := idxL_bd hp
        refine .inr ⟨p, hp, h0, ?_⟩
        rw [show (p.1 + 1 - (i : Int)).toNat = (p.1 + 1 - ((i + 1 : Nat) : Int)).toNat + 1 from by omega, List.drop_succ_cons] at h1
        exact h1
theorem over_iff (cs : List (Bool × Int)) (depth : Int) : Over cs (aheadL cs depth 0) ↔ ∃ p ∈ pairsP cs depth, p.2 < cnt (cs.drop (p.1 + 1).toNat) := by
  unfold Over
  rw [overs_iff cs 0, ahead_zero, pairs_split]
  constructor
  · rintro (⟨a, ha, h⟩ | ⟨p, hp, h0, h1⟩)
    · split at ha
      · rename_i h0
        rw [List.mem_singleton.mp ha] at h
        refine ⟨(-1, depth), List.mem_append_left _ (by unfold headP; rw [if_pos h0]; exact List.mem_singleton.mpr rfl), ?_⟩
        simpa using h
      · cases ha
    · refine ⟨p, List.mem_append_right _ (List.mem_filter.mpr ⟨hp, by simpa using h0⟩), ?_⟩
      simpa using h1
  · rintro ⟨p, hp, h⟩
    rcases List.mem_append.mp hp with hp | hp
    · unfold headP at hp
      split at hp
      · rename_i h0
        rw [List.mem_singleton.mp hp] at h
        refine .inl ⟨depth, by rw [if_pos h0]; exact List.mem_singleton.mpr rfl, ?_⟩
        simpa using h
      · cases hp
    · obtain ⟨hp, h0⟩ := List.mem_filter.mp hp
      exact .inr ⟨p, hp, by simpa using h0, by simpa using h⟩


end CP

set_option Elab.async false
set_option linter.all false
set_option maxRecDepth 100000
set_option autoImplicit false
/-! LibT: a law's end: lists of words that grow in the store. -/
namespace CP
open PySem L2
def takeSs : Nat → Ss → Ss
  | 0, _ => .nil
  | n + 1, .cons s r => .cons s (takeSs n r)
  | _ + 1, .nil => .nil
def skipSs : Nat → Ss → Ss
  | 0, s => s
  | n + 1, .cons _ s => skipSs n s
  | _ + 1, .nil => .nil
def appSs : Ss → Ss → Ss
  | .nil, t => t
  | .cons s r, t => .cons s (appSs r t)
theorem ss_app {G : Gm} (t : Ss) : ∀ (s : Ss) (l : Lo) (st : So), evSs G (appSs s t) l st = (evSs G s l st).seq fun l st => evSs G t l st
  | .nil, l, st => rfl
  | .cons s r, l, st => by
    rw [show appSs (.cons s r) t = .cons s (appSs r t) from rfl, ss_cons, ss_cons]
    cases evS G s l st with
    | nx l2 st2 => exact ss_app t r l2 st2
    | _ => rfl
theorem ss_split : ∀ (n : Nat) (s : Ss), s = appSs (takeSs n s) (skipSs n s)
  | 0, s => rfl
  | n + 1, .nil => rfl
  | n + 1, .cons s r => by
    show _ = Ss.cons s (appSs (takeSs n r) (skipSs n r))
    rw [← ss_split n r]
section
variable {G : Gm} {K : Lo → So → Prop} {T : D → So → Prop}
/-- so many statements that are computed -/
theorem WR_take {n : Nat} {s : Ss} {l l2 : Lo} {st st2 : So} (h : evSs G (takeSs n s) l st = .nx l2 st2) (q : WR (evSs G (skipSs n s) l2 st2) K T) : WR (evSs G s l st) K T := by
  rw [ss_split n s, ss_app, h]
  exact q
theorem WR_mad0 {i : Nat} {e : E} {ss : Ss} {l : Lo} {st : So} {xs ys : List D} (h1 : ∀ st, lget l i st = .ok (.lst xs) st) (h2 : evE G e l st = .ok (.lst ys) st) (hz : xs.length + ys.length ≤ 100000)
    (h : ∀ st1 n, st1[n]? = some (.lst (xs ++ ys)) → WR (evSs G ss (l.set i (some (.ref n))) st1) K T) : WR (evSs G (.cons (.set i (.mad (.var i) e)) ss) l st) K T := by
  rw [WR_cons, s_set, WR_of, e_mad, Ok_bind, e_var, h1 st]
  show Ok ((evE G e l st).bind _) _
  rw [h2]
  show Ok (madR (.lst xs) (.lst ys) st) _
  have : madR (.lst xs) (.lst ys) st = .ok (.ref st.length) (st ++ [.lst (xs ++ ys)]) := by
    show (if _ then _ else _) = _
    rw [if_pos (le_size hz)]
  rw [this]
  exact h _ _ (by simp)
theorem WR_mad {i n : Nat} {e : E} {ss : Ss} {l : Lo} {st : So} {xs ys : List D} (hn : st[n]? = some (.lst xs)) (h1 : ∀ st, lget l i st = .ok (.ref n) st) (h2 : ∀ st, evE G e l st = .ok (.lst ys) st) (hz : xs.length + ys.length ≤ 100000)
    (h : ∀ st1 n, st1[n]? = some (.lst (xs ++ ys)) → WR (evSs G ss (l.set i (some (.ref n))) st1) K T) : WR (evSs G (.cons (.set i (.mad (.var i) e)) ss) l st) K T := by
  rw [WR_cons, s_set, WR_of, e_mad, Ok_bind, e_var, h1 st]
  show Ok ((evE G e l st).bind _) _
  rw [h2]
  show Ok (madR (.ref n) (.lst ys) st) _
  have : madR (.ref n) (.lst ys) st = .ok (.ref st.length) (st ++ [.lst (xs ++ ys)]) := by
    unfold madR lstOf
    simp only [hn]
    rw [if_pos (le_size hz)]
  rw [this]
  exact h _ _ (by simp)
theorem WR_app {i n : Nat} {e : E} {ss : Ss} {l : Lo} {st : So} {xs : List D} {y : D} (hn : st[n]? = some (.lst xs)) (h1 : ∀ st, lget l i st = .ok (.ref n) st) (h2 : ∀ st, evE G e l st = .ok y st) (hz : xs.length + 1 ≤ 100000)
    (h : ∀ st1, st1[n]? = some (.lst (xs ++ [y])) → WR (evSs G ss l st1) K T) : WR (evSs G (.cons (.expr (.app (.var i) e)) ss) l st) K T := by
  have hl : n < st.length := (List.getElem?_eq_some_iff.mp hn).1
  rw [WR_cons, s_expr, WR_of, e_app, Ok_bind, e_var, h1 st]
  have t : isLstD (.ref n) st = true := by
    unfold isLstD
    simp only [hn]
  show Ok (if isLstD (.ref n) st then _ else _) _
  rw [if_pos t, h2]
  show Ok (appD (.ref n) y st) _
  have : appD (.ref n) y st = .ok .non (st.set n (.lst (xs ++ [y]))) := by
    unfold appD
    simp only [hn]
    rw [if_pos (by
      have : xs.length + 1 ≤ sizeLine := le_size hz
      omega)]
  rw [this]
  exact h _ (by rw [List.getElem?_set_self hl])
/-- the list at a place, compared at last -/
theorem WR_retEq {i n : Nat} {e : E} {l : Lo} {st : So} {xs ys : List D} (hn : st[n]? = some (.lst xs)) (h1 : ∀ st, lget l i st = .ok (.ref n) st) (h2 : evE G e l st = .ok (.lst ys) st) (hq : xs = ys) (hd : isDats ys = true) (hp : deps ys ≤ 60)
    (h : T (.bl true) st) : WR (evSs G (.cons (.ret (.cmp .eq (.var i) e)) .nil) l st) K T := by
  subst hq
  rw [WR_cons, s_ret, WR_of, e_cmp, Ok_bind, e_var, h1 st]
  show Ok ((evE G e l st).bind _) _
  rw [h2]
  show Ok ((cmpB .eq (.ref n) (.lst xs) st).bind _) _
  rw [cmp_eq]
  have : eqD (.ref n) (.lst xs) st = .ok true st := by
    have s1 : (D.ref n).see st = .lst xs := by
      unfold D.see
      simp only [hn]
    have s2 : (D.lst xs).see st = .lst xs := rfl
    have dl : (D.lst xs).isDat = true := by simpa [D.isDat] using hd
    unfold eqD
    rw [s1, s2, dl, eqv_refl dl]
    rw [if_pos]
    simp [D.dep]
    omega
  rw [this]
  exact h
end
end CP

set_option Elab.async false
set_option linter.all false
set_option maxRecDepth 100000
set_option autoImplicit false
namespace K32
open PySem CP
abbrev top : List Stmt := PySem.Challenge.pw_chainpapers_k32_limits_and_numbers.main.body
def b0 : Ss :=
    (.cons (.set 1 (.cal "_law_cup" (.cons (.var 0) .nil)))
    (.cons (.for (.nm 2) (.rng1 (.int 4)) (.cons (.setT [6, 7] (.tup (.cons (.cal "_law_first" (.cons (.var 1) .nil)) (.cons (.cal "_law_path" (.cons (.var 1) (.cons (.int 5) .nil))) .nil))))
    (.cons (.ite (.cmp .ne (.cal "numbers_along" (.cons (.var 6) (.cons (.var 7) .nil))) (.bi .tuple (.cons (.lc (.cal "_law_numbers" (.cons (.var 6) (.cons (.var 7) (.cons (.var 10) .nil)))) (.nm 10) (.rng1 (.bi .len (.cons (.var 7) .nil))) .none [10]) .nil))) (.cons (.ret (.bl false))
    .nil) .nil)
    (.cons (.ite (.cmp .ne (.lc (.var 9) (.nm 9) (.seq (.var 7)) (.some (.or (.cmp .ne (.cal "limits_of" (.cons (.var 9) .nil)) (.cal "_law_limits" (.cons (.var 9) .nil))) (.not (.cal "_law_are_plain" (.cons (.cal "limits_of" (.cons (.var 9) .nil)) .nil))))) [9]) (.lst .nil)) (.cons (.ret (.bl false))
    .nil) .nil)
    (.cons (.ite (.not (.cal "_law_are_plain" (.cons (.cal "numbers_along" (.cons (.var 6) (.cons (.var 7) .nil))) .nil))) (.cons (.ret (.bl false))
    .nil) .nil)
    .nil)))))
    (.cons (.set 3 (.tup (.cons (.int 1) (.cons (.tup (.cons (.str "r") .nil)) (.cons (.tup (.cons (.str "r") .nil)) (.cons (.int 1) (.cons (.int 2) (.cons (.int 0) (.cons (.int 9) (.cons (.tup .nil) (.cons (.int 0) .nil)))))))))))
    (.cons (.set 4 (.tup (.cons (.int 2) (.cons (.tup (.cons (.str "r") .nil)) (.cons (.tup (.cons (.str "s") .nil)) (.cons (.int 1) (.cons (.int 2) (.cons (.int 0) (.cons (.int 9) (.cons (.tup (.cons (.tup (.cons (.str "anylimit") (.cons (.int 0) .nil))) (.cons (.tup (.cons (.str "policylimits") (.cons (.tup (.cons (.neg (.int 1)) (.cons (.int 3) .nil))) .nil))) .nil))) (.cons (.int 0) .nil)))))))))))
    (.cons (.ite (.or (.cmp .ne (.cal "limits_of" (.cons (.var 3) .nil)) (.tup (.cons (.neg (.int 1)) (.cons (.neg (.int 1)) (.cons (.neg (.int 1)) .nil))))) (.cmp .ne (.cal "limits_of" (.cons (.var 4) .nil)) (.tup (.cons (.neg (.int 1)) (.cons (.int 3) (.cons (.int 0) .nil)))))) (.cons (.ret (.bl false))
    .nil) .nil)
    (.cons (.ite (.cmp .ne (.cal "numbers_along" (.cons (.tup (.cons (.int 1) (.cons (.int 2) (.cons (.int 8) .nil)))) (.cons (.tup (.cons (.var 3) (.cons (.var 3) (.cons (.var 4) (.cons (.var 3) (.cons (.var 4) (.cons (.var 3) .nil))))))) .nil))) (.tup (.cons (.tup (.cons (.int 1) (.cons (.int 2) (.cons (.int 8) .nil)))) (.cons (.tup (.cons (.int 1) (.cons (.int 2) (.cons (.int 8) .nil)))) (.cons (.tup (.cons (.int 1) (.cons (.int 2) (.cons (.int 8) .nil)))) (.cons (.tup (.cons (.int 0) (.cons (.int 1) (.cons (.int 0) .nil)))) (.cons (.tup (.cons (.int 0) (.cons (.int 1) (.cons (.int 0) .nil)))) (.cons (.tup (.cons (.int 0) (.cons (.int 0) (.cons (.int 0) .nil)))) .nil)))))))) (.cons (.ret (.bl false))
    .nil) .nil)
    (.cons (.ite (.or (.cmp .ne (.ix (.cal "numbers_along" (.cons (.tup (.cons (.neg (.int 1)) (.cons (.neg (.int 1)) (.cons (.neg (.int 1)) .nil)))) (.cons (.bin .mul (.tup (.cons (.var 4) .nil)) (.int 8)) .nil))) (.int 7)) (.tup (.cons (.neg (.int 1)) (.cons (.int 0) (.cons (.int 0) .nil))))) (.cmp .ne (.cal "numbers_along" (.cons (.tup (.cons (.int 0) (.cons (.int 0) (.cons (.int 0) .nil)))) (.cons (.tup (.cons (.var 3) .nil)) .nil))) (.tup (.cons (.tup (.cons (.int 0) (.cons (.int 0) (.cons (.int 0) .nil)))) .nil)))) (.cons (.ret (.bl false))
    .nil) .nil)
    (.cons (.set 5 (.lc (.tel "_law_error" (.cal "numbers_along" (.cons (.var 8) (.cons .non .nil)))) (.nm 8) (.seq (.tup (.cons .non (.cons (.tup .nil) (.cons (.tup (.cons (.int 1) (.cons (.int 1) .nil))) (.cons (.tup (.cons (.int 1) (.cons (.int 1) (.cons (.int 1) (.cons (.int 1) .nil))))) (.cons (.tup (.cons (.int 9) (.cons (.int 0) (.cons (.int 0) .nil)))) (.cons (.tup (.cons (.int 0) (.cons (.neg (.int 2)) (.cons (.int 0) .nil)))) (.cons (.tup (.cons (.bl true) (.cons (.int 0) (.cons (.int 0) .nil)))) (.cons (.lst (.cons (.int 0) (.cons (.int 0) (.cons (.int 0) .nil)))) .nil)))))))))) .none [8]))
    (.cons (.set 5 (.bin .add (.var 5) (.lc (.tel "_law_error" (.cal "numbers_along" (.cons (.tup (.cons (.int 0) (.cons (.int 0) (.cons (.int 0) .nil)))) (.cons (.var 8) .nil)))) (.nm 8) (.seq (.tup (.cons .non (.cons (.tup .nil) (.cons (.lst (.cons (.var 3) .nil)) (.cons (.tup (.cons (.var 3) (.cons .non .nil))) (.cons (.bin .mul (.tup (.cons (.var 3) .nil)) (.int 9)) (.cons (.var 3) .nil)))))))) .none [8])))
    (.cons (.set 5 (.bin .add (.var 5) (.lc (.tel "_law_error" (.cal "limits_of" (.cons (.var 8) .nil))) (.nm 8) (.seq (.tup (.cons .non (.cons (.sl (.var 3) .none (.some (.int 8))) .nil)))) .none [8])))
    (.cons (.ret (.cmp .eq (.var 5) (.bin .add (.bin .add (.bin .mul (.lst (.cons (.str "numbers") .nil)) (.int 8)) (.bin .mul (.lst (.cons (.str "path") .nil)) (.int 6))) (.bin .mul (.lst (.cons (.str "certificate") .nil)) (.int 2)))))
    .nil)))))))))))
def f0 : Fn := ⟨"law", 1, 11, b0⟩
def d0 : Df := ⟨"law", 79, ["_law_script", "_law_cup_here", "_law_turn", "_law_one", "_law_two", "_law_words_here", "_law_first_here", "_law_path_here", "_law_odd", "_law_own", "_law_at"], ["_law_script"], "law", "law"⟩
def b1 : Ss :=
    (.cons (.expr (.cal "need_certificate" (.cons (.var 0) .nil)))
    (.cons (.ret (.cal "limits_in" (.cons (.var 0) .nil)))
    .nil))
def f1 : Fn := ⟨"limits_of", 1, 1, b1⟩
def d1 : Df := ⟨"limits_of", 63, ["certificate"], ["certificate"], "limits_of", "limits_of"⟩
def b2 : Ss :=
    (.cons (.expr (.cal "need_both" (.cons (.var 0) (.cons (.var 1) .nil))))
    (.cons (.ret (.bi .tuple (.cons (.cal "along" (.cons (.var 0) (.cons (.var 1) .nil))) .nil)))
    .nil))
def f2 : Fn := ⟨"numbers_along", 2, 2, b2⟩
def d2 : Df := ⟨"numbers_along", 64, ["numbers", "path"], ["numbers", "path"], "numbers_along", "numbers_along"⟩
def b3 : Ss :=
    (.cons (.ite (.isi (.var 0) "tuple") (.cons (.ret (.cmp .eq (.lc (.var 1) (.nm 1) (.seq (.var 0)) (.some (.not (.cal "_law_are_plain" (.cons (.var 1) .nil)))) [1]) (.lst .nil)))
    .nil) .nil)
    (.cons (.ret (.and (.isi (.var 0) "int") (.not (.isi (.var 0) "bool"))))
    .nil))
def f3 : Fn := ⟨"_law_are_plain", 1, 2, b3⟩
def d3 : Df := ⟨"_law_are_plain", 77, ["_law_value", "_law_own"], ["_law_value"], "_law_are_plain", "_law_are_plain"⟩
def b4 : Ss :=
    (.cons (.par 1 2 (.cal "_law_part" (.cons (.var 0) (.cons (.str "policylimits") .nil))) (.cal "_law_part" (.cons (.var 0) (.cons (.str "anylimit") .nil))))
    (.cons (.ret (.bin .add (.ite (.cmp .nis (.var 1) .non) (.var 1) (.tup (.cons (.neg (.int 1)) (.cons (.neg (.int 1)) .nil)))) (.tup (.cons (.ite (.cmp .is (.var 2) .non) (.neg (.int 1)) (.var 2)) .nil))))
    .nil))
def f4 : Fn := ⟨"_law_limits", 1, 3, b4⟩
def d4 : Df := ⟨"_law_limits", 75, ["_law_certificate_here", "_law_limits_here", "_law_own"], ["_law_certificate_here"], "_law_limits", "_law_limits"⟩
def b5 : Ss :=
    (.cons (.set 3 (.mls .nil))
    (.cons (.for (.nm 4) (.rng1 (.int 3)) (.cons (.set 5 (.mls .nil))
    (.cons (.for (.tu [6, 7]) (.seq (.bin .add (.lst (.cons (.tup (.cons (.neg (.int 1)) (.cons (.var 0) .nil))) .nil)) (.lc (.tup (.cons (.var 6) (.cons (.cal "_law_limits" (.cons (.var 8) .nil)) .nil))) (.tu [6, 8]) (.enu (.sl (.var 1) .none (.some (.var 2)))) .none [6, 8]))) (.cons (.ite (.cmp .ge (.ix (.var 7) (.var 4)) (.int 0)) (.cons (.expr (.app (.var 5) (.bi .max (.cons (.int 0) (.cons (.bin .sub (.ix (.var 7) (.var 4)) (.bi .len (.cons (.lc (.var 8) (.nm 8) (.seq (.sl (.var 1) (.some (.bin .add (.var 6) (.int 1))) (.some (.var 2)))) (.some (.cmp .ne (.ix (.var 8) (.int 1)) (.ix (.var 8) (.int 2)))) [8]) .nil))) .nil)))))
    .nil) .nil)
    .nil))
    (.cons (.expr (.app (.var 3) (.ite (.cmp .ne (.var 5) (.lst .nil)) (.bi .min (.cons (.var 5) .nil)) (.neg (.int 1)))))
    .nil))))
    (.cons (.ret (.bi .tuple (.cons (.var 3) .nil)))
    .nil)))
def f5 : Fn := ⟨"_law_numbers", 3, 9, b5⟩
def d5 : Df := ⟨"_law_numbers", 76, ["_law_first_here", "_law_path_here", "_law_at", "_law_found", "_law_which", "_law_left", "_law_place", "_law_told", "_law_own"], ["_law_first_here", "_law_path_here", "_law_at"], "_law_numbers", "_law_numbers"⟩
def b6 : Ss :=
    (.cons (.ret (.bi .tuple (.cons (.lc (.cal "_law_certificate" (.cons (.var 0) (.cons (.var 2) .nil))) (.nm 2) (.rng1 (.bin .add (.int 1) (.cal "_law_roll" (.cons (.var 0) (.cons (.var 1) .nil))))) .none [2]) .nil)))
    .nil)
def f6 : Fn := ⟨"_law_path", 2, 3, b6⟩
def d6 : Df := ⟨"_law_path", 73, ["_law_cup_here", "_law_most", "_law_at"], ["_law_cup_here", "_law_most"], "_law_path", "_law_path"⟩
def b7 : Ss :=
    (.cons (.ret (.bi .tuple (.cons (.lc (.cal "_law_some" (.cons (.var 0) (.cons (.lst (.cons (.neg (.int 1)) (.cons (.neg (.int 1)) (.cons (.int 0) (.cons (.int 1) (.cons (.int 2) .nil)))))) .nil))) (.nm 1) (.rng1 (.int 3)) .none [1]) .nil)))
    .nil)
def f7 : Fn := ⟨"_law_first", 1, 2, b7⟩
def d7 : Df := ⟨"_law_first", 74, ["_law_cup_here", "_law_at"], ["_law_cup_here"], "_law_first", "_law_first"⟩
def f8 : Fn := CP.f_law_cup
def d8 : Df := ⟨"_law_cup", 66, ["_law_script", "_law_cell"], ["_law_script"], "_law_cup", "_law_cup"⟩
def b9 : Ss :=
    (.cons (.par 1 2 (.cal "part_in" (.cons (.var 0) (.cons (.str "policylimits") .nil))) (.cal "part_in" (.cons (.var 0) (.cons (.str "anylimit") .nil))))
    (.cons (.setT [3, 4] (.ite (.cmp .nis (.var 1) .non) (.var 1) (.tup (.cons (.glb "NONE") (.cons (.glb "NONE") .nil)))))
    (.cons (.ret (.tup (.cons (.var 3) (.cons (.var 4) (.cons (.ite (.cmp .is (.var 2) .non) (.glb "NONE") (.var 2)) .nil)))))
    .nil)))
def f9 : Fn := ⟨"limits_in", 1, 5, b9⟩
def d9 : Df := ⟨"limits_in", 53, ["certificate", "limits", "own", "ask", "mapped"], ["certificate"], "limits_in", "limits_in"⟩
def f10 : Fn := CP.f_need_certificate
def d10 : Df := ⟨"need_certificate", 49, ["value"], ["value"], "need_certificate", "need_certificate"⟩
def b11 : Ss :=
    (.cons (.set 2 (.mls (.cons (.var 0) .nil)))
    (.cons (.for (.nm 3) (.seq (.sl (.var 1) .none (.some (.neg (.int 1))))) (.cons (.expr (.app (.var 2) (.cal "numbers_behind" (.cons (.ix (.var 2) (.neg (.int 1))) (.cons (.var 3) .nil)))))
    .nil))
    (.cons (.ret (.var 2))
    .nil)))
def f11 : Fn := ⟨"along", 2, 4, b11⟩
def d11 : Df := ⟨"along", 58, ["numbers", "path", "found", "certificate"], ["numbers", "path"], "along", "along"⟩
def b12 : Ss :=
    (.cons (.expr (.cal "need_numbers" (.cons (.var 0) .nil)))
    (.cons (.expr (.cal "need_path" (.cons (.var 1) .nil)))
    .nil))
def f12 : Fn := ⟨"need_both", 2, 2, b12⟩
def d12 : Df := ⟨"need_both", 62, ["numbers", "path"], ["numbers", "path"], "need_both", "need_both"⟩
def f13 : Fn := CP.f_law_part
def d13 : Df := ⟨"_law_part", 69, ["_law_certificate_here", "_law_word"], ["_law_certificate_here", "_law_word"], "_law_part", "_law_part"⟩
def b14 : Ss :=
    (.cons (.par 4 5 .mdc (.cal "_law_words" (.cons (.var 0) (.cons (.int 2) .nil))))
    (.cons (.ite (.and (.cmp .ne (.var 5) (.tup .nil)) (.cmp .gt (.cal "_law_roll" (.cons (.var 0) (.cons (.int 8) .nil))) (.int 0))) (.cons (.sub (.var 4) (.str "policies") (.var 5))
    .nil) .nil)
    (.cons (.ite (.cmp .eq (.cal "_law_roll" (.cons (.var 0) (.cons (.int 3) .nil))) (.int 0)) (.cons (.set 6 (.lc (.tup (.cons (.cal "_law_some" (.cons (.var 0) (.cons (.lst (.cons (.str "p") (.cons (.str "q") (.cons (.str "r") .nil)))) .nil))) (.cons (.cal "_law_some" (.cons (.var 0) (.cons (.lst (.cons (.str "p") (.cons (.str "q") (.cons (.str "r") (.cons (.str "s") .nil))))) .nil))) .nil))) (.nm 7) (.rng1 (.bin .add (.int 1) (.cal "_law_roll" (.cons (.var 0) (.cons (.int 2) .nil))))) .none [7]))
    (.cons (.sub (.var 4) (.str "mappings") (.bi .tuple (.cons (.ssr (.var 6)) .nil)))
    .nil)) .nil)
    (.cons (.set 2 (.tup (.cons (.cal "_law_some" (.cons (.var 0) (.cons (.lst (.cons (.neg (.int 1)) (.cons (.neg (.int 1)) (.cons (.int 0) (.cons (.int 1) (.cons (.int 2) .nil)))))) .nil))) (.cons (.cal "_law_some" (.cons (.var 0) (.cons (.lst (.cons (.neg (.int 1)) (.cons (.neg (.int 1)) (.cons (.int 0) (.cons (.int 1) .nil))))) .nil))) .nil))))
    (.cons (.ite (.and (.cmp .eq (.cal "_law_roll" (.cons (.var 0) (.cons (.int 3) .nil))) (.int 0)) (.cmp .ne (.var 2) (.tup (.cons (.neg (.int 1)) (.cons (.neg (.int 1)) .nil))))) (.cons (.sub (.var 4) (.str "policylimits") (.var 2))
    .nil) .nil)
    (.cons (.ite (.cmp .eq (.cal "_law_roll" (.cons (.var 0) (.cons (.int 4) .nil))) (.int 0)) (.cons (.sub (.var 4) (.str "anylimit") (.cal "_law_roll" (.cons (.var 0) (.cons (.int 3) .nil))))
    .nil) .nil)
    (.cons (.set 3 (.cal "_law_some" (.cons (.var 0) (.cons (.lst (.cons (.tup (.cons (.str "r") .nil)) (.cons (.tup (.cons (.str "r") (.cons (.str "a") .nil))) .nil))) .nil))))
    (.cons (.ret (.tup (.cons (.var 1) (.cons (.var 3) (.cons (.ite (.cmp .eq (.cal "_law_roll" (.cons (.var 0) (.cons (.int 3) .nil))) (.int 0)) (.var 3) (.tup (.cons (.str "s") .nil))) (.cons (.int 1) (.cons (.int 2) (.cons (.int 0) (.cons (.int 9) (.cons (.cal "_law_parts" (.cons (.var 4) .nil)) (.cons (.int 0) .nil)))))))))))
    .nil))))))))
def f14 : Fn := ⟨"_law_certificate", 2, 8, b14⟩
def d14 : Df := ⟨"_law_certificate", 72, ["_law_cup_here", "_law_serial", "_law_limits_here", "_law_issuer", "_law_parts_here", "_law_words_here", "_law_pairs", "_law_turn"], ["_law_cup_here", "_law_serial"], "_law_certificate", "_law_certificate"⟩
def f15 : Fn := CP.f_law_roll
def d15 : Df := ⟨"_law_roll", 67, ["_law_cup_here", "_law_many", "_law_deep", "_law_found"], ["_law_cup_here", "_law_many"], "_law_roll", "_law_roll"⟩
def f16 : Fn := CP.f_law_some
def d16 : Df := ⟨"_law_some", 68, ["_law_cup_here", "_law_things"], ["_law_cup_here", "_law_things"], "_law_some", "_law_some"⟩
def f17 : Fn := CP.f_part_in
def d17 : Df := ⟨"part_in", 48, ["certificate", "word"], ["certificate", "word"], "part_in", "part_in"⟩
def f18 : Fn := CP.f_fits_certificate
def d18 : Df := ⟨"fits_certificate", 47, ["value", "at"], ["value"], "fits_certificate", "fits_certificate"⟩
def b19 : Ss :=
    (.cons (.set 2 (.ite (.cal "is_own" (.cons (.var 1) .nil)) (.var 0) (.bi .tuple (.cons (.lc (.cal "fallen" (.cons (.var 3) .nil)) (.nm 3) (.seq (.var 0)) .none [3]) .nil))))
    (.cons (.ret (.bi .tuple (.cons (.lc (.cal "lesser" (.cons (.var 4) (.cons (.var 5) .nil))) (.tu [4, 5]) (.zip (.var 2) (.cal "limits_in" (.cons (.var 1) .nil))) .none [4, 5]) .nil)))
    .nil))
def f19 : Fn := ⟨"numbers_behind", 2, 6, b19⟩
def d19 : Df := ⟨"numbers_behind", 57, ["numbers", "certificate", "left", "own", "one", "other"], ["numbers", "certificate"], "numbers_behind", "numbers_behind"⟩
def b20 : Ss :=
    (.cons (.ite (.or (.not (.cal "is_tuple_of" (.cons (.var 0) (.cons (.int 1) (.cons (.glb "LONGEST_policyparts") .nil))))) (.not (.bi .all (.cons (.lc (.cal "fits_certificate" (.cons (.var 1) .nil)) (.nm 1) (.seq (.var 0)) .none [1]) .nil)))) (.cons (.raise "InvalidPath")
    .nil) .nil)
    .nil)
def f20 : Fn := ⟨"need_path", 1, 2, b20⟩
def d20 : Df := ⟨"need_path", 61, ["value", "own"], ["value"], "need_path", "need_path"⟩
def b21 : Ss :=
    (.cons (.ite (.not (.cal "fits_numbers" (.cons (.var 0) .nil))) (.cons (.raise "InvalidNumbers")
    .nil) .nil)
    .nil)
def f21 : Fn := ⟨"need_numbers", 1, 1, b21⟩
def d21 : Df := ⟨"need_numbers", 60, ["value"], ["value"], "need_numbers", "need_numbers"⟩
def f22 : Fn := CP.f_law_parts
def d22 : Df := ⟨"_law_parts", 70, ["_law_parts_here", "_law_word"], ["_law_parts_here"], "_law_parts", "_law_parts"⟩
def b23 : Ss :=
    (.cons (.set 2 (.lc (.var 3) (.nm 3) (.seq (.tup (.cons (.str "p") (.cons (.str "q") (.cons (.str "r") .nil))))) (.some (.cmp .eq (.cal "_law_roll" (.cons (.var 0) (.cons (.var 1) .nil))) (.int 0))) [3]))
    (.cons (.ret (.bi .tuple (.cons (.bi .sorted (.cons (.bin .add (.var 2) (.ite (.cmp .eq (.cal "_law_roll" (.cons (.var 0) (.cons (.int 2) .nil))) (.int 0)) (.lst (.cons (.str "any") .nil)) (.lst .nil))) .nil)) .nil)))
    .nil))
def f23 : Fn := ⟨"_law_words", 2, 4, b23⟩
def d23 : Df := ⟨"_law_words", 71, ["_law_cup_here", "_law_most", "_law_some_here", "_law_word"], ["_law_cup_here", "_law_most"], "_law_words", "_law_words"⟩
def f24 : Fn := CP.f_fits_parts
def d24 : Df := ⟨"fits_parts", 46, ["value", "part"], ["value"], "fits_parts", "fits_parts"⟩
def f25 : Fn := CP.f_is_whole
def d25 : Df := ⟨"is_whole", 14, ["value", "low", "high"], ["value", "low", "high"], "is_whole", "is_whole"⟩
def f26 : Fn := CP.f_fits_name "DEEP"
def d26 : Df := ⟨"fits_name", 25, ["value"], ["value"], "fits_name", "fits_name"⟩
def f27 : Fn := CP.f_is_tuple_of
def d27 : Df := ⟨"is_tuple_of", 16, ["value", "low", "high"], ["value", "low", "high"], "is_tuple_of", "is_tuple_of"⟩
def b28 : Ss :=
    (.cons (.ret (.ite (.cmp .eq (.var 0) (.glb "NONE")) (.var 1) (.ite (.cmp .eq (.var 1) (.glb "NONE")) (.var 0) (.bi .min (.cons (.var 0) (.cons (.var 1) .nil))))))
    .nil)
def f28 : Fn := ⟨"lesser", 2, 2, b28⟩
def d28 : Df := ⟨"lesser", 55, ["one", "other"], ["one", "other"], "lesser", "lesser"⟩
def b29 : Ss :=
    (.cons (.ret (.cmp .eq (.ix (.var 0) (.int 1)) (.ix (.var 0) (.int 2))))
    .nil)
def f29 : Fn := ⟨"is_own", 1, 1, b29⟩
def d29 : Df := ⟨"is_own", 54, ["certificate"], ["certificate"], "is_own", "is_own"⟩
def b30 : Ss :=
    (.cons (.ret (.ite (.cmp .gt (.var 0) (.int 0)) (.bin .sub (.var 0) (.int 1)) (.var 0)))
    .nil)
def f30 : Fn := ⟨"fallen", 1, 1, b30⟩
def d30 : Df := ⟨"fallen", 56, ["number"], ["number"], "fallen", "fallen"⟩
def b31 : Ss :=
    (.cons (.ret (.and (.cal "is_tuple_of" (.cons (.var 0) (.cons (.int 3) (.cons (.int 3) .nil)))) (.bi .all (.cons (.lc (.cal "is_whole" (.cons (.var 1) (.cons (.glb "NONE") (.cons (.glb "DEPTH") .nil)))) (.nm 1) (.seq (.var 0)) .none [1]) .nil))))
    .nil)
def f31 : Fn := ⟨"fits_numbers", 1, 2, b31⟩
def d31 : Df := ⟨"fits_numbers", 59, ["value", "own"], ["value"], "fits_numbers", "fits_numbers"⟩
def f32 : Fn := CP.f_is_ascending
def d32 : Df := ⟨"is_ascending", 19, ["values", "one", "other"], ["values"], "is_ascending", "is_ascending"⟩
def f33 : Fn := CP.f_fits_value
def d33 : Df := ⟨"fits_value", 45, ["word", "value", "own", "pair"], ["word", "value"], "fits_value", "fits_value"⟩
def f34 : Fn := CP.f_fits_words
def d34 : Df := ⟨"fits_words", 18, ["value", "low", "high", "word"], ["value", "low", "high"], "fits_words", "fits_words"⟩
def f35 : Fn := CP.f_fits_lot
def d35 : Df := ⟨"fits_lot", 20, ["value", "low", "high", "words", "one"], ["value", "low", "high", "words"], "fits_lot", "fits_lot"⟩
def f36 : Fn := CP.f_fits_limits
def d36 : Df := ⟨"fits_limits", 44, ["value", "own"], ["value"], "fits_limits", "fits_limits"⟩
def f37 : Fn := CP.f_fits_policies
def d37 : Df := ⟨"fits_policies", 42, ["value", "low", "word"], ["value", "low"], "fits_policies", "fits_policies"⟩
def f38 : Fn := CP.f_fits_word "LONGEST_values"
def d38 : Df := ⟨"fits_word", 17, ["value", "sign"], ["value"], "fits_word", "fits_word"⟩
def f39 : Fn := CP.f_is_truth
def d39 : Df := ⟨"is_truth", 15, ["value"], ["value"], "is_truth", "is_truth"⟩
def f40 : Fn := CP.f_fits_others
def d40 : Df := ⟨"fits_others", 28, ["value", "low", "own"], ["value", "low"], "fits_others", "fits_others"⟩
def f41 : Fn := CP.f_fits_mapping
def d41 : Df := ⟨"fits_mapping", 43, ["value", "word"], ["value"], "fits_mapping", "fits_mapping"⟩
def f42 : Fn := CP.f_fits_subtrees
def d42 : Df := ⟨"fits_subtrees", 29, ["value", "low", "own"], ["value", "low"], "fits_subtrees", "fits_subtrees"⟩
def f43 : Fn := CP.f_fits_other "DEEP" "GREATEST"
def d43 : Df := ⟨"fits_other", 26, ["value"], ["value"], "fits_other", "fits_other"⟩
def f44 : Fn := CP.f_fits_subtree "DEEP" "GREATEST"
def d44 : Df := ⟨"fits_subtree", 27, ["value"], ["value"], "fits_subtree", "fits_subtree"⟩
def fns : List Fn := [f0, f1, f2, f3, f4, f5, f6, f7, f8, f9, f10, f11, f12, f13, f14, f15, f16, f17, f18, f19, f20, f21, f22, f23, f24, f25, f26, f27, f28, f29, f30, f31, f32, f33, f34, f35, f36, f37, f38, f39, f40, f41, f42, f43, f44]
def dfs : List Df := [d0, d1, d2, d3, d4, d5, d6, d7, d8, d9, d10, d11, d12, d13, d14, d15, d16, d17, d18, d19, d20, d21, d22, d23, d24, d25, d26, d27, d28, d29, d30, d31, d32, d33, d34, d35, d36, d37, d38, d39, d40, d41, d42, d43, d44]
def cons : List (Str × D) := [("NONE", (.int (-1))), ("TIMES", (.int 1000000000)), ("KEYS", (.int 4294967295)), ("SERIALS", (.int 1000000)), ("LONGEST_policyparts", (.int 8)), ("PARTS", (.tup [(.str "anylimit"), (.str "basic"), (.str "excluded"), (.str "lists"), (.str "mappings"), (.str "names"), (.str "odd"), (.str "permitted"), (.str "policies"), (.str "policylimits"), (.str "purposes"), (.str "uses")])), ("DEEP", (.int 4)), ("DEPTH", (.int 8)), ("PURPOSES", (.tup [(.str "any"), (.str "call"), (.str "serve"), (.str "sign"), (.str "stamp")])), ("USES", (.tup [(.str "agree"), (.str "certs"), (.str "lists"), (.str "sign")])), ("MANY_certificates", (.int 8)), ("HOUSES", (.int 4)), ("SIGNS", (.str "abcdefghijklmnopqrstuvwxyz0123456789")), ("LONGEST_values", (.int 12)), ("MANY_names", (.int 8)), ("ANY", (.str "any")), ("GREATEST", (.int 65535))]
def excs : List Str := ["InvalidCertificate", "InvalidPath", "InvalidNumbers"]
def tels : List Tl := [⟨"_law_error", [("TooMany", (.fn "as")), ("InvalidCertificate", (.str "certificate")), ("InvalidNumbers", (.str "numbers")), ("InvalidPath", (.str "path")), ("InvalidState", (.str "state")), ("InvalidPolicies", (.str "policies")), ("InvalidPolicy", (.str "policy")), ("InvalidTruth", (.str "truth")), ("InvalidRow", (.str "row")), ("ChainError", (.str "other"))], (.str "")⟩]
def tds : List Td := [⟨⟨"_law_error", [("TooMany", (.fn "as")), ("InvalidCertificate", (.str "certificate")), ("InvalidNumbers", (.str "numbers")), ("InvalidPath", (.str "path")), ("InvalidState", (.str "state")), ("InvalidPolicies", (.str "policies")), ("InvalidPolicy", (.str "policy")), ("InvalidTruth", (.str "truth")), ("InvalidRow", (.str "row")), ("ChainError", (.str "other"))], (.str "")⟩, 78, ["_law_call", "e"], "_law_call"⟩]
def subs : List (Str × List Str) := [("InvalidCertificate", ["InvalidCertificate", "ChainError"]), ("InvalidPath", ["InvalidPath", "ChainError"]), ("InvalidNumbers", ["InvalidNumbers", "ChainError"])]
def ren : List (Str × Str) := []
def Q : Pg := ⟨fns, cons, excs, tels, subs, ren⟩
instance : CP.H_law_cup Q := { at_law_cup := rfl }
instance : CP.H_law_part Q := { at_law_part := rfl }
instance : CP.H_law_roll Q := { at_law_roll := rfl }
instance : CP.H_law_some Q := { at_law_some := rfl }
instance : CP.H_part_in Q := { at_part_in := rfl }
instance : CP.H_law_parts Q := { at_law_parts := rfl }
instance : CP.H_is_whole Q := { at_is_whole := rfl }
instance : CP.H_is_tuple_of Q := { at_is_tuple_of := rfl }
instance : CP.H_is_ascending Q := { at_is_ascending := rfl }
instance : CP.H_fits_lot Q := { at_fits_lot := rfl }
instance : CP.H_fits_limits Q := { at_fits_limits := rfl, con_fits_limits_DEPTH := rfl }
instance : CP.H_fits_word Q := { at_fits_word := ⟨"LONGEST_values", rfl, rfl⟩, con_fits_word_SIGNS := rfl }
instance : CP.H_is_truth Q := { at_is_truth := rfl }
instance : CP.H_fits_mapping Q := { at_fits_mapping := rfl, con_fits_mapping_ANY := rfl }
instance : CP.H_fits_words Q := { at_fits_words := rfl }
instance : CP.H_fits_policies Q := { at_fits_policies := rfl, con_fits_policies_MANY_certificates := rfl }
instance : CP.H_fits_other Q := { at_fits_other := ⟨"DEEP", "GREATEST", rfl, rfl, rfl⟩ }
instance : CP.H_fits_subtree Q := { at_fits_subtree := ⟨"DEEP", "GREATEST", rfl, rfl, rfl⟩ }
instance : CP.H_fits_name Q := { at_fits_name := ⟨"DEEP", rfl, rfl⟩ }
instance : CP.H_fits_others Q := { at_fits_others := rfl, con_fits_others_MANY_names := rfl }
instance : CP.H_fits_subtrees Q := { at_fits_subtrees := rfl, con_fits_subtrees_MANY_names := rfl }
instance : CP.H_fits_value Q := { at_fits_value := rfl, con_fits_value_PURPOSES := rfl, con_fits_value_USES := rfl, con_fits_value_MANY_certificates := rfl, con_fits_value_HOUSES := rfl, con_fits_value_DEPTH := rfl }
instance : CP.H_fits_parts Q := { at_fits_parts := rfl, con_fits_parts_PARTS := rfl }
instance : CP.H_fits_certificate Q := { at_fits_certificate := rfl, con_fits_certificate_TIMES := rfl, con_fits_certificate_KEYS := rfl, con_fits_certificate_SERIALS := rfl }
instance : CP.H_need_certificate Q := { at_need_certificate := rfl }
theorem at0 : Q.fn? "law" = some f0 := rfl
theorem at1 : Q.fn? "limits_of" = some f1 := rfl
theorem at2 : Q.fn? "numbers_along" = some f2 := rfl
theorem at3 : Q.fn? "_law_are_plain" = some f3 := rfl
theorem at4 : Q.fn? "_law_limits" = some f4 := rfl
theorem at5 : Q.fn? "_law_numbers" = some f5 := rfl
theorem at6 : Q.fn? "_law_path" = some f6 := rfl
theorem at7 : Q.fn? "_law_first" = some f7 := rfl
theorem at9 : Q.fn? "limits_in" = some f9 := rfl
theorem at11 : Q.fn? "along" = some f11 := rfl
theorem at12 : Q.fn? "need_both" = some f12 := rfl
theorem at14 : Q.fn? "_law_certificate" = some f14 := rfl
theorem at19 : Q.fn? "numbers_behind" = some f19 := rfl
theorem at20 : Q.fn? "need_path" = some f20 := rfl
theorem at21 : Q.fn? "need_numbers" = some f21 := rfl
theorem at23 : Q.fn? "_law_words" = some f23 := rfl
theorem at28 : Q.fn? "lesser" = some f28 := rfl
theorem at29 : Q.fn? "is_own" = some f29 := rfl
theorem at30 : Q.fn? "fallen" = some f30 := rfl
theorem at31 : Q.fn? "fits_numbers" = some f31 := rfl
theorem cov : (Q.fns.all fun f => dfs.any fun d => d.name == f.name) = true := by decide +kernel
theorem ok : (dfs.all fun d => d.ok Q top) = true := by decide +kernel
theorem telOk : (tds.all fun d => d.ok top) = true := by decide +kernel
theorem dl_mem : d0 ∈ dfs := List.mem_cons_self
end K32

set_option Elab.async false
set_option linter.all false
set_option maxRecDepth 100000
set_option autoImplicit false
namespace K32
open PySem CP L2
/-! numbers that fall along a path -/
/-- the numbers that a certificate tells -/
def askOf (d : D) : Int := match getC d "policylimits" with
  | .tup [.int a, _] => a
  | _ => -1
def mapOf (d : D) : Int := match getC d "policylimits" with
  | .tup [_, .int a] => a
  | _ => -1
def anyOf (d : D) : Int := match getC d "anylimit" with
  | .int a => a
  | _ => -1
def limL (d : D) : List Int := [askOf d, mapOf d, anyOf d]
theorem lim_val {d : D} (h : certD d = true) : getC d "policylimits" = .non ∨ ∃ a b : Int, getC d "policylimits" = .tup [.int a, .int b] ∧ -1 ≤ a ∧ a ≤ 8 ∧ -1 ≤ b ∧ b ≤ 8 := by
  rcases get_cases h "policylimits" with e | e
  · exact .inl e
  · right
    generalize getC d "policylimits" = v at e
    have e' : limD v = true := e
    clear e
    cases v with
    | tup xs =>
      simp only [limD, Bool.and_eq_true, decide_eq_true_eq, List.all_eq_true] at e'
      obtain ⟨⟨l1, l2⟩, al, _⟩ := e'
      match xs, l1, l2, al with
      | [a, b], _, _, al =>
        obtain ⟨i, rfl, a1, a2⟩ := whole_int (al a (by simp))
        obtain ⟨j, rfl, b1, b2⟩ := whole_int (al b (by simp))
        exact ⟨i, j, rfl, a1, a2, b1, b2⟩
      | [], l1, _, _ => simp at l1
      | [_], l1, _, _ => simp at l1
      | _ :: _ :: _ :: _, _, l2, _ => simp at l2; omega
    | _ => cases e'
theorem any_val {d : D} (h : certD d = true) : getC d "anylimit" = .non ∨ ∃ a : Int, getC d "anylimit" = .int a ∧ 0 ≤ a ∧ a ≤ 8 := by
  rcases get_cases h "anylimit" with e | e
  · exact .inl e
  · right
    generalize getC d "anylimit" = v at e
    obtain ⟨i, rfl, h1, h2⟩ := whole_int (show wholeD v 0 8 = true from e)
    exact ⟨i, rfl, h1, h2⟩
theorem lim_low {d : D} (h : certD d = true) : ∀ x ∈ limL d, -1 ≤ x ∧ x ≤ 8 := fun x hx => by
  unfold limL at hx
  simp only [List.mem_cons, List.not_mem_nil, or_false] at hx
  rcases hx with rfl | rfl | rfl
  · unfold askOf
    rcases lim_val h with e | ⟨a, b, e, a1, a2, b1, b2⟩ <;> rw [e] <;> simp <;> omega
  · unfold mapOf
    rcases lim_val h with e | ⟨a, b, e, a1, a2, b1, b2⟩ <;> rw [e] <;> simp <;> omega
  · unfold anyOf
    rcases any_val h with e | ⟨a, e, a1, a2⟩ <;> rw [e] <;> simp <;> omega
section
variable (k : Nat) (st : So)
theorem int_non (i : Int) (st : So) : isD (.int i) .non st = .ok false st := rfl
theorem limits_in_spec {d : D} (h : certD d = true) : calN Q (k + 2) "limits_in" [d] st = .ok (.tup ((limL d).map D.int)) st := by
  rw [calN_at at9, run_eq rfl]
  have c1 := fun l st => e_glbP (Q := Q) (k := k + 1) (show Q.con? "NONE" = some (.int (-1)) from rfl) l st
  simp [f9, b9, part_in_cert _ _ h, c1, limL, askOf, mapOf, anyOf]
  rcases lim_val h with e | ⟨a, b, e, _⟩ <;> rcases any_val h with e2 | ⟨c, e2, _⟩ <;> rw [e, e2] <;> simp [is_non_non, is_non_tup, int_non, bindTg, setAll]
theorem law_limits_spec {d : D} (h : certD d = true) : calN Q (k + 2) "_law_limits" [d] st = .ok (.tup ((limL d).map D.int)) st := by
  rw [calN_at at4, run_eq rfl]
  simp [f4, b4, law_part_cert _ _ h, limL, askOf, mapOf, anyOf]
  rcases lim_val h with e | ⟨a, b, e, _⟩ <;> rcases any_val h with e2 | ⟨c, e2, _⟩ <;> rw [e, e2] <;> simp [is_non_non, is_non_tup, int_non]
/-! one number -/
def les (a b : Int) : Int := if a = -1 then b else if b = -1 then a else if b < a then b else a
def fal (a : Int) : Int := if a > 0 then a - 1 else a
def nxt (c : D) (ns : List Int) : List Int := ((if ownC c then ns else ns.map fal).zip (limL c)).map fun p => les p.1 p.2
theorem lesser_spec (a b : Int) : calN Q (k + 1) "lesser" [.int a, .int b] st = .ok (.int (les a b)) st := by
  rw [calN_at at28, run_eq rfl]
  have c1 := fun l st => e_glbP (Q := Q) (k := k) (show Q.con? "NONE" = some (.int (-1)) from rfl) l st
  unfold les
  by_cases e1 : a = -1
  · subst e1
    simp [f28, b28, c1]
  · have n1 : (a == -1) = false := beq_false_of_ne e1
    by_cases e2 : b = -1
    · subst e2
      simp [f28, b28, c1, e1, n1]
    · have n2 : (b == -1) = false := beq_false_of_ne e2
      simp [f28, b28, c1, e1, e2, n1, n2]
theorem fallen_spec (a : Int) : calN Q (k + 1) "fallen" [.int a] st = .ok (.int (fal a)) st := by
  rw [calN_at at30, run_eq rfl]
  unfold fal
  by_cases e : 0 < a <;> simp [f30, b30, e]
theorem is_own_spec {d : D} (h : certD d = true) : calN Q (k + 1) "is_own" [d] st = .ok (.bl (ownC d)) st := by
  rw [calN_at at29, run_eq rfl]
  obtain ⟨a, b, c', e', f, g, h', i', j, ys, ks, ds, rfl, F⟩ := cert_of h
  have e2 := fun st => eqD_dats st (words_good F.wb).1 (words_good F.wc).1 (Nat.le_trans (words_good F.wb).2 (by omega))
  have a1 : atI [a, b, c', e', f, g, h', i', j] 1 = some b := rfl
  have a2 : atI [a, b, c', e', f, g, h', i', j] 2 = some c' := rfl
  simp [f29, b29, CP.ix_tup, ownC, e2, a1, a2]
def tI (ns : List Int) : D := .tup (ns.map D.int)
theorem isD_ints (ns : List Int) : isDats (ns.map D.int) = true := isDats_all.mpr fun d hd => by
  obtain ⟨i, _, rfl⟩ := List.mem_map.mp hd
  rfl
def prF (d : D) : D := match d with
  | .tup [.int a, .int b] => .int (les a b)
  | _ => .non
theorem zip_les (ns ms : List Int) : (pairsD (ns.map D.int) (ms.map D.int)).map prF = ((ns.zip ms).map fun p => les p.1 p.2).map D.int := by
  unfold pairsD
  rw [List.zip_map, List.map_map, List.map_map, List.map_map]
  rfl
theorem behind_spec {d : D} (h : certD d = true) (ns : List Int) : calN Q (k + 3) "numbers_behind" [tI ns, d] st = .ok (tI (nxt d ns)) st := by
  rw [calN_at at19, run_eq rfl]
  have go := fun (st : So) (ms : List Int) => zip_les ms (limL d)
  unfold nxt tI
  cases ho : ownC d with
  | true =>
    simp [f19, b19, is_own_spec _ _ h, ho, limits_in_spec _ _ h, zipD]
    rw [lc_map prF fun x hx => by
      obtain ⟨i, hi⟩ := List.getElem?_of_mem hx
      obtain ⟨u, v, h1, h2, rfl⟩ := pairs_at hi
      obtain ⟨a, _, rfl⟩ := List.mem_map.mp (List.mem_of_getElem? h1)
      obtain ⟨b, _, rfl⟩ := List.mem_map.mp (List.mem_of_getElem? h2)
      exact ⟨_, rfl, rfl, by simp [wipeD, lesser_spec, prF, bindTg, setAll]⟩]
    simp [go st ns]
  | false =>
    simp [f19, b19, is_own_spec _ _ h, ho]
    rw [lc_map (fun x => match x with | .int a => .int (fal a) | _ => .non) fun x hx => by
      obtain ⟨a, _, rfl⟩ := List.mem_map.mp hx
      exact ⟨_, rfl, rfl, by simp [wipeD, fallen_spec]⟩]
    have e : ((ns.map D.int).map fun x => match x with | .int a => D.int (fal a) | _ => .non) = (ns.map fal).map D.int := by
      rw [List.map_map, List.map_map]
      rfl
    rw [e]
    simp [limits_in_spec _ _ h, zipD]
    rw [lc_map prF fun x hx => by
      obtain ⟨i, hi⟩ := List.getElem?_of_mem hx
      obtain ⟨u, v, h1, h2, rfl⟩ := pairs_at hi
      obtain ⟨a, _, rfl⟩ := List.mem_map.mp (List.mem_of_getElem? h1)
      obtain ⟨b, _, rfl⟩ := List.mem_map.mp (List.mem_of_getElem? h2)
      exact ⟨_, rfl, rfl, by simp [wipeD, lesser_spec, prF, bindTg, setAll]⟩]
    have := go st (ns.map fal)
    simp at this ⊢
    exact this
end
end K32

set_option Elab.async false
set_option linter.all false
set_option maxRecDepth 100000
set_option autoImplicit false
namespace K32
open PySem CP L2
/-! one number, by its law -/
def nx (c : Bool) (l v : Int) : Int := les (if c then v - if 0 < v then 1 else 0 else v) l
def mx (x : Int) : Int := if x > 0 then x else 0
def one (v n : Int) : List Int := if 0 ≤ v then [mx (v - n)] else []
/-- certificates as whether they count and what they tell -/
def cntB (cs : List (Bool × Int)) : Int := ((cs.filter fun c => c.1).length : Int)
def goL : List (Bool × Int) → List Int
  | [] => []
  | c :: cs => one c.2 (cntB cs) ++ goL cs
def foldN : Int → List (Bool × Int) → Int
  | v, [] => v
  | v, c :: cs => foldN (nx c.1 c.2 v) cs
theorem cntB_pos (cs : List (Bool × Int)) : 0 ≤ cntB cs := by unfold cntB; omega
theorem cntB_cons (c : Bool × Int) (cs : List (Bool × Int)) : cntB (c :: cs) = cntB cs + if c.1 then 1 else 0 := by
  unfold cntB
  rw [List.filter_cons]
  cases c.1 <;> simp
theorem mx_pos (x : Int) : 0 ≤ mx x := by unfold mx; split <;> omega
theorem fold_min : ∀ (cs : List (Bool × Int)) (v : Int), -1 ≤ v → (∀ c ∈ cs, -1 ≤ c.2) → foldN v cs = minOr (one v (cntB cs) ++ goL cs)
  | [], v, hv, _ => by
    unfold foldN goL one cntB mx
    by_cases h : 0 ≤ v
    · rw [if_pos h]
      show v = minOr [_]
      show v = if v - 0 > 0 then v - 0 else 0
      split <;> omega
    · rw [if_neg h]
      show v = -1
      omega
  | c :: cs, v, hv, hc => by
    have hl := hc c List.mem_cons_self
    have n0 := cntB_pos cs
    have nv : -1 ≤ nx c.1 c.2 v := by
      unfold nx les
      cases c.1 <;> simp <;> split <;> (try split) <;> (try split) <;> omega
    have ih := fold_min cs (nx c.1 c.2 v) nv fun d hd => hc d (List.mem_cons_of_mem _ hd)
    show foldN (nx c.1 c.2 v) cs = _
    rw [ih, cntB_cons]
    rw [show goL (c :: cs) = one c.2 (cntB cs) ++ goL cs from rfl]
    generalize cntB cs = n at *
    generalize goL cs = R at *
    obtain ⟨b, l⟩ := c
    simp only at *
    unfold one
    by_cases h1 : 0 ≤ v
    · by_cases h2 : 0 ≤ l
      · have h3 : 0 ≤ nx b l v := by
          unfold nx les
          cases b <;> simp <;> split <;> (try split) <;> (try split) <;> omega
        rw [if_pos h1, if_pos h2, if_pos h3]
        show minL _ R = minL (if mx (l - n) < mx (v - (n + if b = true then 1 else 0)) then mx (l - n) else mx (v - (n + if b = true then 1 else 0))) R
        congr 1
        unfold nx les mx
        cases b <;> simp <;> split <;> (try split) <;> (try split) <;> (try split) <;> (try split) <;> (try split) <;> omega
      · have e : l = -1 := by omega
        subst e
        have h3 : 0 ≤ nx b (-1) v := by
          unfold nx les
          cases b <;> simp <;> split <;> (try split) <;> (try split) <;> omega
        rw [if_pos h1, if_neg h2, if_pos h3]
        show minL _ R = minL _ R
        congr 1
        unfold nx les mx
        cases b <;> simp <;> split <;> (try split) <;> (try split) <;> (try split) <;> (try split) <;> (try split) <;> omega
    · have e : v = -1 := by omega
      subst e
      have e2 : nx b l (-1) = l := by
        unfold nx les
        cases b <;> simp
      rw [e2, if_neg h1]
      rfl
theorem fold_snoc (cs : List (Bool × Int)) (c : Bool × Int) (v : Int) : foldN v (cs ++ [c]) = nx c.1 c.2 (foldN v cs) := by
  induction cs generalizing v with
  | nil => rfl
  | cons d cs ih => exact ih _
end K32

set_option Elab.async false
set_option linter.all false
set_option maxRecDepth 100000
set_option autoImplicit false
namespace K32
open PySem CP L2
def alongL : List Int → List D → List (List Int)
  | ns, [] => [ns]
  | ns, c :: cs => ns :: alongL (nxt c ns) cs
theorem along_snoc : ∀ (cs : List D) (ns : List Int) (c : D), alongL ns (cs ++ [c]) = alongL ns cs ++ [nxt c (((alongL ns cs).getLast?).getD [])]
  | [], ns, c => rfl
  | d :: cs, ns, c => by
    have ih := along_snoc cs (nxt d ns) c
    show ns :: alongL (nxt d ns) (cs ++ [c]) = _
    rw [ih]
    show _ = ns :: (alongL (nxt d ns) cs ++ [nxt c (((ns :: alongL (nxt d ns) cs).getLast?).getD [])])
    have ne : alongL (nxt d ns) cs ≠ [] := by cases cs <;> simp [alongL]
    congr 3
    rw [List.getLast?_cons_of_ne_nil ne]
structure LA (st : So) (n0 : List Int) (tot : List (List Int)) (p q : D) (ys : List D) (l : Lo) (s : So) : Prop where
  ex : ∃ (acc : List (List Int)) (n : List Int) (x3 : Option D), l = [some p, some q, some (.ref st.length), x3] ∧ s = st ++ [.lst ((acc ++ [n]).map tI)] ∧ acc ++ alongL n ys = tot ∧ acc.length + ys.length ≤ 100 ∧ ∀ d ∈ ys, certD d = true
theorem ix_last (st : So) (acc : List D) (x : D) : ixD (.ref st.length) (.int (-1)) (st ++ [.lst (acc ++ [x])]) = .ok x (st ++ [.lst (acc ++ [x])]) := by
  have e : atI (acc ++ [x]) (-1) = some x := by
    unfold atI ixN
    rw [if_neg (by omega), if_pos (by simp; omega)]
    have : ((((acc ++ [x]).length : Nat) : Int) + -1).toNat = acc.length := by simp; omega
    first
      | rw [Option.bind_some, this]; simp
      | (have t2 : (-1 + (((acc ++ [x]).length : Nat) : Int)).toNat = acc.length := by simp; omega
         rw [Option.bind_some, t2]; simp)
  have e2 : (st ++ [Ob.lst (acc ++ [x])])[st.length]? = some (.lst (acc ++ [x])) := app_end st _
  simp only [ixD, ixO, e2, e]
theorem along_spec (k : Nat) (st : So) {xs : List D} (h : ∀ d ∈ xs, certD d = true) (h8 : xs.length ≤ 90) (ns : List Int) : calN Q (k + 4) "along" [tI ns, .tup xs] st = .ok (.ref st.length) (st ++ [.lst ((alongL ns xs.dropLast).map tI)]) := by
  apply Ok_out
  rw [calN_at at11]
  apply Ok_body rfl
  show WR (evSs (gmN Q (k + 3)) b11 [some (tI ns), some (.tup xs), none, none] st) _ _
  unfold b11
  rw [WR_cons]
  simp [-ss_cons]
  rw [WR_cons, s_for, WR_of, ew_seq]
  simp [-ss_cons, cut_last]
  refine WR_forI (LA st ns (alongL ns xs.dropLast) (tI ns) (.tup xs)) ⟨[], ns, none, rfl, rfl, rfl, by simp; omega, fun d hd => h d (mem_drop hd)⟩ ?_ ?_
  · rintro c ys l s ⟨acc, n, x3, rfl, rfl, e, hz, hc⟩
    refine ⟨_, rfl, ?_⟩
    have cd := hc c List.mem_cons_self
    rw [WR_cons]
    have z : acc.length + 1 < sizeLine := by
      have : acc.length + 2 ≤ sizeLine := le_size (by simp at hz; omega)
      omega
    have bh := fun st => behind_spec k st cd n
    have il := fun (x : D) => ix_last st (acc.map tI) x
    simp [isLstD, appD, il, bh, z, -List.append_assoc]
    refine ⟨acc ++ [n], nxt c n, some c, rfl, by simp, by rw [← e]; simp [alongL], by simp at hz ⊢; omega, fun d hd => hc d (List.mem_cons_of_mem _ hd)⟩
  · rintro l s ⟨acc, n, x3, rfl, rfl, e, _⟩
    simp
    rw [← e]
    simp [alongL]
/-! the law's own numbers -/
def prW (w : Nat) (cs : List D) : List (Bool × Int) := cs.map fun c => (!ownC c, (limL c).getD w 0)
/-- a place, what it tells, and what follows -/
structure En where
  pl : Int
  told : List Int
  rest : List D
def entL : Int → List D → List En
  | _, [] => []
  | i, c :: cs => ⟨i, limL c, cs⟩ :: entL (i + 1) cs
def En.d (e : En) : D := .tup [.int e.pl, tI e.told]
def En.con (w : Nat) (e : En) : List Int := one (e.told.getD w 0) (cntB (prW w e.rest))
theorem ent_con (w : Nat) : ∀ (cs : List D) (i : Int), (entL i cs).flatMap (En.con w) = goL (prW w cs)
  | [], _ => rfl
  | c :: cs, i => by
    have ih := ent_con w cs (i + 1)
    unfold entL
    rw [List.flatMap_cons, ih]
    rfl
theorem ent_ok {cs : List D} : ∀ {ds : List D} {i : Nat}, ds = cs.drop i → ∀ e ∈ entL i ds, ∃ j : Nat, e.pl = j ∧ e.told.length = 3 ∧ e.rest = cs.drop (j + 1)
  | [], _, _, e, he => by cases he
  | c :: ds, i, h, e, he => by
    have h2 : ds = cs.drop (i + 1) := by
      have := congrArg List.tail h
      simpa [List.tail_drop] using this
    rcases List.mem_cons.mp he with rfl | he
    · exact ⟨i, rfl, rfl, h2⟩
    · exact ent_ok (i := i + 1) h2 e (by simpa using he)
end K32

set_option Elab.async false
set_option linter.all false
set_option maxRecDepth 100000
set_option autoImplicit false
namespace K32
open PySem CP L2
theorem own_ev {d : D} (h : certD d = true) : ∃ b c, (∀ st, ixD d (.int 1) st = .ok b st) ∧ (∀ st, ixD d (.int 2) st = .ok c st) ∧ ∀ st, eqD b c st = .ok (ownC d) st := by
  obtain ⟨a, b, c', e', f, g, h', i', j, ys, ks, ds, rfl, F⟩ := cert_of h
  exact ⟨b, c', fun _ => rfl, fun _ => rfl, fun st => by
    rw [eqD_dats st (words_good F.wb).1 (words_good F.wc).1 (Nat.le_trans (words_good F.wb).2 (by omega))]
    rfl⟩
theorem cnt_prW (w : Nat) (cs : List D) : ((cs.filter fun c => !ownC c).length : Int) = cntB (prW w cs) := by
  unfold cntB prW
  rw [List.filter_map, List.length_map]
  rfl
theorem ix_tI {ns : List Int} {w : Nat} (h : w < ns.length) (st : So) : ixD (tI ns) (.int w) st = .ok (.int (ns.getD w 0)) st := by
  unfold tI
  have e : atI (ns.map D.int) (w : Int) = some (.int (ns.getD w 0)) := by
    unfold atI ixN
    rw [if_pos (by omega), if_pos (by simp; omega), Option.bind_some, Int.toNat_natCast, List.getElem?_map, List.getElem?_eq_getElem h]
    simp [List.getD_eq_getElem?_getD, List.getElem?_eq_getElem h]
  rw [CP.ix_tup, e]
def enF (d : D) : D := match d with
  | .tup [.int i, c] => .tup [.int i, tI (limL c)]
  | _ => .non
theorem enu_ent : ∀ (cs : List D) (i : Nat), (enuD i cs).map enF = (entL i cs).map En.d
  | [], _ => rfl
  | c :: cs, i => by
    have ih := enu_ent cs (i + 1)
    show enF _ :: (enuD (i + 1) cs).map enF = _
    rw [ih]
    rfl
theorem ent_len : ∀ (cs : List D) (i : Int), (entL i cs).length = cs.length
  | [], _ => rfl
  | c :: cs, i => by simp [entL, ent_len cs (i + 1)]
theorem cut_mid {xs : List D} {a b : Int} (ha : 0 ≤ a) (hb : 0 ≤ b) : cutD xs (some a) (some b) = (xs.take b.toNat).drop a.toNat := by
  have ea : HT.sIx xs.length 0 (some a) = min a.toNat xs.length := by
    unfold HT.sIx
    simp only
    split <;> omega
  have eb : HT.sIx xs.length xs.length (some b) = min b.toNat xs.length := by
    unfold HT.sIx
    simp only
    split <;> omega
  unfold cutD
  rw [ea, eb, List.drop_take]
  by_cases h : a.toNat ≤ xs.length
  · rw [Nat.min_eq_left h]
    by_cases g : b.toNat ≤ xs.length
    · rw [Nat.min_eq_left g]
    · rw [Nat.min_eq_right (by omega)]
      rw [List.take_of_length_le (by simp), List.take_of_length_le (by simp; omega)]
  · have e1 : min a.toNat xs.length = xs.length := by omega
    rw [e1, List.drop_eq_nil_of_le (Nat.le_refl _), List.drop_eq_nil_of_le (by omega : xs.length ≤ a.toNat)]
    simp
theorem cut_to {xs : List D} {b : Int} (hb : 0 ≤ b) : cutD xs none (some b) = xs.take b.toNat := by
  have eb : HT.sIx xs.length xs.length (some b) = min b.toNat xs.length := by
    unfold HT.sIx
    simp only
    split <;> omega
  unfold cutD
  rw [eb, show HT.sIx xs.length 0 none = 0 from rfl]
  rw [List.drop_zero, Nat.sub_zero]
  by_cases g : b.toNat ≤ xs.length
  · rw [Nat.min_eq_left g]
  · rw [Nat.min_eq_right (by omega), List.take_of_length_le (Nat.le_refl _), List.take_of_length_le (by omega)]
theorem get_mid (st J : So) (o : Ob) : (st ++ o :: J)[st.length]? = some o := by simp
theorem set_mid (st J : So) (o o' : Ob) : (st ++ o :: J).set st.length o' = st ++ o' :: J := by simp
/-- in the inner loop -/
structure LG (S : So) (w : Nat) (fs : List Int) (xs cs : List D) (at_ : Int) (r3 : D) (tot : List Int) (ys : List D) (l : Lo) (s : So) : Prop where
  ex : ∃ (es : List En) (acc : List Int) (x6 x7 : Option D), ys = es.map En.d ∧ l = [some (tI fs), some (.tup xs), some (.int at_), some r3, some (.int w), some (.ref S.length), x6, x7, none] ∧ s = S ++ [.lst (acc.map D.int)] ∧
    acc ++ es.flatMap (En.con w) = tot ∧ (∀ e ∈ es, -1 ≤ e.pl ∧ e.told.length = 3 ∧ e.rest = cs.drop (e.pl + 1).toNat) ∧ acc.length + es.length ≤ 100
def forS (s : S) : Ss := match s with
  | .for _ _ b => b
  | _ => .nil
def inner : Ss := (.cons (.ite (.cmp .ge (.ix (.var 7) (.var 4)) (.int 0)) (.cons (.expr (.app (.var 5) (.bi .max (.cons (.int 0) (.cons (.bin .sub (.ix (.var 7) (.var 4)) (.bi .len (.cons (.lc (.var 8) (.nm 8) (.seq (.sl (.var 1) (.some (.bin .add (.var 6) (.int 1))) (.some (.var 2)))) (.some (.cmp .ne (.ix (.var 8) (.int 1)) (.ix (.var 8) (.int 2)))) [8]) .nil))) .nil)))))
    .nil) .nil)
    .nil)
theorem inner_step (k : Nat) {S : So} {w : Nat} {fs : List Int} {xs cs : List D} {at_ : Int} {r3 : D} {tot : List Int} (h : ∀ d ∈ xs, certD d = true) (a0 : 0 ≤ at_) (hcs : cs = xs.take at_.toNat) (hw : w < 3) {x : D} {ys : List D} {l : Lo} {s : So} (I : LG S w fs xs cs at_ r3 tot (x :: ys) l s) {T : D → So → Prop} :
    ∃ l1, bindTg (.tu [6, 7]) x l = some l1 ∧ WR (evSs (gmN Q k) inner l1 s) (LG S w fs xs cs at_ r3 tot ys) T := by
  obtain ⟨es, acc, x6, x7, e, rfl, rfl, et, he, hz⟩ := I
  cases es with
  | nil => cases e
  | cons en es =>
    injection e with e1 e2
    subst e1 e2
    obtain ⟨p0, p3, pr⟩ := he en List.mem_cons_self
    refine ⟨_, rfl, ?_⟩
    have ixw := fun st => ix_tI (ns := en.told) (w := w) (by omega) st
    have nxt' : ∀ e ∈ es, -1 ≤ e.pl ∧ e.told.length = 3 ∧ e.rest = cs.drop (e.pl + 1).toNat := fun e h => he e (List.mem_cons_of_mem _ h)
    show WR (evSs (gmN Q k) inner [some (tI fs), some (.tup xs), some (.int at_), some r3, some (.int w), some (.ref S.length), some (.int en.pl), some (tI en.told), none] (S ++ [.lst (acc.map D.int)])) _ _
    unfold inner
    rw [WR_cons]
    have cm := cut_mid (xs := xs) (a := en.pl + 1) (b := at_) (by omega) a0
    rw [← hcs, ← pr] at cm
    have z : acc.length < sizeLine := by
      have : acc.length + 1 ≤ sizeLine := le_size (by simp at hz; omega)
      omega
    have ec : En.con w en = one (en.told.getD w 0) (cntB (prW w en.rest)) := rfl
    generalize en.told.getD w 0 = t at *
    have cn := cnt_prW w en.rest
    have cr : ∀ c ∈ en.rest, certD c = true := fun c hc => by
      rw [pr] at hc
      have := List.mem_of_mem_drop hc
      rw [hcs] at this
      exact h c (List.mem_of_mem_take this)
    simp [ixw, isLstD, app_end, cm]
    refine ⟨fun g => ?_, fun g => ?_⟩
    · rw [lc_pure (fun c => !ownC c) id fun c hc => by
        obtain ⟨b, c', e1, e2, e3⟩ := own_ev (cr c hc)
        exact ⟨_, rfl, by simp [wipeD, e1, e2, e3], fun _ => by simp [wipeD]⟩]
      simp [appD, app_end, set_end, z, cn]
      refine ⟨es, acc ++ [mx (t - cntB (prW w en.rest))], _, _, rfl, rfl, ?_, ?_, nxt', by simp at hz ⊢; omega⟩
      · simp [mx]
      · rw [← et, List.flatMap_cons, ec, one, if_pos g]
        simp
    · refine ⟨es, acc, _, _, rfl, rfl, rfl, ?_, nxt', by simp at hz ⊢; omega⟩
      rw [← et, List.flatMap_cons, ec, one, if_neg (by omega)]
      simp
end K32

set_option Elab.async false
set_option linter.all false
set_option maxRecDepth 100000
set_option autoImplicit false
namespace K32
open PySem CP L2
def totL (fs : List Int) (cs : List D) (w : Nat) : List Int := one (fs.getD w 0) (cntB (prW w cs)) ++ goL (prW w cs)
def rowF (fs : List Int) (cs : List D) (n : Nat) : List Int := (List.range n).map fun w => minOr (totL fs cs w)
structure LF (st : So) (fs : List Int) (xs cs : List D) (at_ : Int) (ys : List D) (l : Lo) (s : So) : Prop where
  ex : ∃ (w : Nat) (J : So) (x4 x5 x6 x7 : Option D), w ≤ 3 ∧ ys = rngD w (3 - w) ∧ l = [some (tI fs), some (.tup xs), some (.int at_), some (.ref st.length), x4, x5, x6, x7, none] ∧ s = st ++ .lst ((rowF fs cs w).map D.int) :: J
theorem rowF_succ (fs : List Int) (cs : List D) (w : Nat) : rowF fs cs (w + 1) = rowF fs cs w ++ [minOr (totL fs cs w)] := by
  unfold rowF
  rw [List.range_succ, List.map_append]
  rfl
theorem min_ref (st : So) (ns : List Int) (h : ns ≠ []) : biD .min [.ref st.length] (st ++ [.lst (ns.map D.int)]) = .ok (.int (minOr ns)) (st ++ [.lst (ns.map D.int)]) := by
  cases ns with
  | nil => exact absurd rfl h
  | cons n ns =>
    show (match (lstOf (.ref st.length) (st ++ [.lst ((n :: ns).map D.int)])).bind intsD with
      | some (n :: ns) => R.ok (D.int (minL n ns)) _
      | _ => .bad) = _
    have e : lstOf (.ref st.length) (st ++ [.lst ((n :: ns).map D.int)]) = some ((n :: ns).map D.int) := by
      have := app_end st (.lst ((n :: ns).map D.int))
      simp only [lstOf, this]
    rw [e, Option.bind_some, intsD_map]
    rfl
theorem eq_ref (st : So) (ns : List Int) : eqD (.ref st.length) (.lst []) (st ++ [.lst (ns.map D.int)]) = .ok ns.isEmpty (st ++ [.lst (ns.map D.int)]) := by
  have e : D.see (.ref st.length) (st ++ [.lst (ns.map D.int)]) = .lst (ns.map D.int) := by
    unfold D.see
    simp only [app_end]
  have e2 : D.see (.lst []) (st ++ [.lst (ns.map D.int)]) = .lst [] := rfl
  unfold eqD
  rw [e, e2]
  simp [D.isDat, isDats, isD_ints, D.dep, deps, D.eqv]
  cases ns <;> simp [eqvs]
set_option maxHeartbeats 1000000 in
theorem law_numbers_spec (k : Nat) (st : So) {xs : List D} (h : ∀ d ∈ xs, certD d = true) (h8 : xs.length ≤ 50) {fs : List Int} (hf : fs.length = 3) {at_ : Int} (a0 : 0 ≤ at_) : ∃ J, calN Q (k + 4) "_law_numbers" [tI fs, .tup xs, .int at_] st = .ok (tI (rowF fs (xs.take at_.toNat) 3)) (st ++ J) := by
  obtain ⟨cs, hcs⟩ : ∃ cs, cs = xs.take at_.toNat := ⟨_, rfl⟩
  rw [← hcs]
  have hc : ∀ c ∈ cs, certD c = true := fun c hc => h c (by rw [hcs] at hc; exact List.mem_of_mem_take hc)
  have lc : cs.length ≤ xs.length := by rw [hcs, List.length_take]; omega
  suffices w : Ok (calN Q (k + 4) "_law_numbers" [tI fs, .tup xs, .int at_] st) fun d s => d = tI (rowF fs cs 3) ∧ ∃ J, s = st ++ J by
    cases e : calN Q (k + 4) "_law_numbers" [tI fs, .tup xs, .int at_] st with
    | ok d s =>
      rw [e] at w
      obtain ⟨rfl, J, rfl⟩ := (w : d = _ ∧ _)
      exact ⟨J, rfl⟩
    | exc c p s => rw [e] at w; exact w.elim
    | bad => rw [e] at w; exact w.elim
  rw [calN_at at5]
  apply Ok_body rfl
  show WR (evSs (gmN Q (k + 3)) b5 [some (tI fs), some (.tup xs), some (.int at_), none, none, none, none, none, none] st) _ _
  unfold b5
  rw [WR_cons]
  simp [-ss_cons]
  rw [WR_cons, s_for, WR_of, ew_rng1]
  simp [-ss_cons, rngOk]
  refine WR_forI (LF st fs xs cs at_) ⟨0, [], none, none, none, none, by omega, rfl, rfl, rfl⟩ ?_ ?_
  · rintro x ys l s ⟨w, J, x4, x5, x6, x7, hw, e, rfl, rfl⟩
    have w3 : w < 3 := by
      by_cases g : w < 3
      · exact g
      · have : 3 - w = 0 := by omega
        rw [this] at e
        cases e
    have er : rngD (w : Int) (3 - w) = .int w :: rngD ((w + 1 : Nat) : Int) (3 - (w + 1)) := by
      have : 3 - w = (3 - (w + 1)) + 1 := by omega
      rw [this, rngD_cons]
      rfl
    rw [er] at e
    injection e with e1 e2
    subst e1 e2
    refine ⟨_, rfl, ?_⟩
    generalize hS : st ++ Ob.lst ((rowF fs cs w).map D.int) :: J = S
    show WR (evSs (gmN Q (k + 3)) _ [some (tI fs), some (.tup xs), some (.int at_), some (.ref st.length), some (.int w), x5, x6, x7, none] S) _ _
    rw [WR_cons]
    simp [-ss_cons]
    rw [WR_cons, s_for, WR_of, ew_seq]
    have ct := cut_to (xs := xs) a0
    rw [← hcs] at ct
    simp [-ss_cons, ct]
    rw [lc_map enF fun x hx => by
      obtain ⟨j, c, rfl, hcx⟩ := enu_mem hx
      exact ⟨_, rfl, rfl, by simp [wipeD, law_limits_spec _ _ (hc c hcx), enF, tI]⟩]
    rw [enu_ent]
    have z : 1 + (entL 0 cs).length ≤ sizeLine := le_size (by rw [ent_len]; omega)
    have z' : [D.tup [.int (-1), tI fs]].length + ((entL ((0 : Nat) : Int) cs).map En.d).length ≤ sizeLine := by simpa using z
    rw [Ok_ok, op_add_lst, if_pos z', Ok_ok]
    show Ok (R.ok (((⟨-1, fs, cs⟩ : En) :: entL ((0 : Nat) : Int) cs).map En.d) (S ++ [Ob.lst []])) _
    rw [Ok_ok]
    refine WR_forI (LG S w fs xs cs at_ (.ref st.length) (totL fs cs w)) ⟨⟨-1, fs, cs⟩ :: entL ((0 : Nat) : Int) cs, [], x6, x7, rfl, rfl, rfl, ?_, ?_, ?_⟩ (fun x ys l s I => inner_step (k + 3) h a0 hcs w3 I) ?_
    · rw [List.flatMap_cons, ent_con]
      rfl
    · intro e he
      rcases List.mem_cons.mp he with rfl | he
      · exact ⟨by simp, hf, rfl⟩
      · obtain ⟨j, e1, e2, e3⟩ := ent_ok (cs := cs) (ds := cs) (i := 0) rfl e he
        refine ⟨by omega, e2, ?_⟩
        rw [e3, e1]
        congr 1
    · rw [List.length_cons, ent_len]
      simp
      omega
    · rintro l s ⟨es, acc, y6, y7, e, rfl, rfl, et, _, _⟩
      have e0 : es = [] := by cases es <;> first | rfl | cases e
      subst e0
      have et' : acc = totL fs cs w := by rw [← et]; simp
      subst et'
      generalize hT : totL fs cs w = T
      rw [WR_cons]
      have eqr := eq_ref S T
      have mnr := fun h => min_ref S T h
      have il : isLstD (.ref st.length) (S ++ [.lst (T.map D.int)]) = true := by
        unfold isLstD
        have : (S ++ [Ob.lst (T.map D.int)])[st.length]? = some (.lst ((rowF fs cs w).map D.int)) := by
          rw [← hS]
          simp
        simp only [this]
      have zf : (rowF fs cs w).length < sizeLine := by
        have : (rowF fs cs w).length + 1 ≤ sizeLine := le_size (by unfold rowF; simp; omega)
        omega
      have ap : ∀ v : Int, appD (.ref st.length) (.int v) (S ++ [.lst (T.map D.int)]) = .ok .non (st ++ Ob.lst ((rowF fs cs w ++ [v]).map D.int) :: (J ++ [.lst (T.map D.int)])) := fun v => by
        unfold appD
        have e1 : (S ++ [Ob.lst (T.map D.int)])[st.length]? = some (.lst ((rowF fs cs w).map D.int)) := by
          rw [← hS]
          simp
        simp only [e1]
        rw [if_pos (by simpa using zf), ← hS]
        simp
      have fin : LF st fs xs cs at_ (rngD ((w : Int) + 1) (2 - w)) [some (tI fs), some (.tup xs), some (.int at_), some (.ref st.length), some (.int w), some (.ref S.length), y6, y7, none] (st ++ Ob.lst ((rowF fs cs w ++ [minOr T]).map D.int) :: (J ++ [.lst (T.map D.int)])) := by
        refine ⟨w + 1, J ++ [.lst (T.map D.int)], _, _, _, _, by omega, ?_, rfl, ?_⟩
        · have : 3 - (w + 1) = 2 - w := by omega
          rw [this]
          congr 1
        · rw [rowF_succ, hT]
      cases T with
      | nil =>
        have il' : isLstD (.ref st.length) (S ++ [.lst []]) = true := il
        have eq' : eqD (.ref S.length) (.lst []) (S ++ [.lst []]) = .ok true (S ++ [.lst []]) := eqr
        have ap' := ap (-1)
        simp only [List.map_nil] at ap'
        simp [il', eq', ap', -List.map_append]
        exact fin
      | cons t T =>
        have il' : isLstD (.ref st.length) (S ++ [.lst (.int t :: T.map D.int)]) = true := il
        have eq' : eqD (.ref S.length) (.lst []) (S ++ [.lst (.int t :: T.map D.int)]) = .ok false (S ++ [.lst (.int t :: T.map D.int)]) := eqr
        have mn' : biD .min [.ref S.length] (S ++ [.lst (.int t :: T.map D.int)]) = .ok (.int (minOr (t :: T))) (S ++ [.lst (.int t :: T.map D.int)]) := mnr (by simp)
        have ap' := ap (minOr (t :: T))
        simp only [List.map_cons] at ap'
        simp [il', eq', mn', ap', -List.map_append]
        exact fin
  · rintro l s ⟨w, J, x4, x5, x6, x7, hw, e, rfl, rfl⟩
    have w3 : w = 3 := by
      by_cases g : w = 3
      · exact g
      · have : 3 - w = (3 - (w + 1)) + 1 := by omega
        rw [this, rngD_cons] at e
        cases e
    subst w3
    have gm := get_mid st J (.lst ((rowF fs cs 3).map D.int))
    have bt : biD .tuple [.ref st.length] (st ++ Ob.lst ((rowF fs cs 3).map D.int) :: J) = .ok (tI (rowF fs cs 3)) (st ++ Ob.lst ((rowF fs cs 3).map D.int) :: J) := by
      simp [biD, lstOf, gm, tI, seqOf]
    simp [bt]
end K32

set_option Elab.async false
set_option linter.all false
set_option maxRecDepth 100000
set_option autoImplicit false
namespace K32
open PySem CP L2
def row3 (fs : List Int) (cs : List D) : List Int := (List.range 3).map fun w => foldN (fs.getD w 0) (prW w cs)
theorem nxt_get {fs : List Int} (hf : fs.length = 3) (c : D) : ∀ w < 3, (nxt c fs).getD w 0 = nx (!ownC c) ((limL c).getD w 0) (fs.getD w 0) := by
  match fs, hf with
  | [a, b, e], _ =>
    intro w hw
    have fe : ∀ v : Int, fal v = v - if 0 < v then 1 else 0 := fun v => by unfold fal; by_cases g : 0 < v <;> simp [g]
    match w, hw with
    | 0, _ => cases ho : ownC c <;> simp [nxt, nx, limL, ho, fe]
    | 1, _ => cases ho : ownC c <;> simp [nxt, nx, limL, ho, fe]
    | 2, _ => cases ho : ownC c <;> simp [nxt, nx, limL, ho, fe]
theorem nxt_len {fs : List Int} (hf : fs.length = 3) (c : D) : (nxt c fs).length = 3 := by
  unfold nxt
  cases ownC c <;> simp [limL, hf]
theorem row3_nil {fs : List Int} (hf : fs.length = 3) : row3 fs [] = fs := by
  match fs, hf with
  | [a, b, e], _ => rfl
theorem row3_cons {fs : List Int} (hf : fs.length = 3) (c : D) (cs : List D) : row3 fs (c :: cs) = row3 (nxt c fs) cs := by
  unfold row3
  refine List.map_congr_left fun w hw => ?_
  have hw : w < 3 := List.mem_range.mp hw
  rw [nxt_get hf c w hw]
  rfl
theorem along_rows : ∀ (ds : List D) {fs : List Int}, fs.length = 3 → alongL fs ds = (List.range (ds.length + 1)).map fun i => row3 fs (ds.take i)
  | [], fs, hf => by
    show [fs] = _
    simp [row3_nil hf]
  | c :: ds, fs, hf => by
    have ih := along_rows ds (nxt_len hf c)
    show fs :: alongL (nxt c fs) ds = _
    rw [ih, List.length_cons, List.range_succ_eq_map (n := ds.length + 1), List.map_cons, List.map_map]
    congr 1
    · simp [row3_nil hf]
    · refine List.map_congr_left fun i _ => ?_
      simp only [Function.comp, List.take_succ_cons]
      rw [row3_cons hf]
theorem row3_F {fs : List Int} (hf : ∀ x ∈ fs, -1 ≤ x) {cs : List D} (hc : ∀ c ∈ cs, certD c = true) : row3 fs cs = rowF fs cs 3 := by
  unfold row3 rowF
  refine List.map_congr_left fun w hw => ?_
  have low : -1 ≤ fs.getD w 0 := by
    rw [List.getD_eq_getElem?_getD]
    cases e : fs[w]? with
    | none => simp
    | some v => exact hf v (List.mem_of_getElem? e)
  refine fold_min _ _ low fun p hp => ?_
  unfold prW at hp
  obtain ⟨c, h1, rfl⟩ := List.mem_map.mp hp
  have ll := lim_low (hc c h1)
  show -1 ≤ (limL c).getD w 0
  rw [List.getD_eq_getElem?_getD]
  cases e : (limL c)[w]? with
  | none => simp
  | some v => exact (ll v (List.mem_of_getElem? e)).1
/-- the rows that both tell -/
def allR (fs : List Int) (xs : List D) : List D := (List.range xs.length).map fun i => tI (rowF fs (xs.take i) 3)
theorem along_all {fs : List Int} (hf : fs.length = 3) (hl : ∀ x ∈ fs, -1 ≤ x) {xs : List D} (h : ∀ d ∈ xs, certD d = true) (h1 : 1 ≤ xs.length) : (alongL fs xs.dropLast).map tI = allR fs xs := by
  rw [along_rows _ hf, List.map_map]
  have e : xs.dropLast.length + 1 = xs.length := by simp; omega
  rw [e]
  refine List.map_congr_left fun i hi => ?_
  have hi : i < xs.length := List.mem_range.mp hi
  have e2 : xs.dropLast.take i = xs.take i := by
    rw [List.dropLast_eq_take, List.take_take]
    congr 1
    omega
  simp only [Function.comp]
  rw [e2, row3_F hl fun c hc => h c (List.mem_of_mem_take hc)]
section
variable (k : Nat) (st : So)
structure NumOk (fs : List Int) : Prop where
  len : fs.length = 3
  lo : ∀ x ∈ fs, -1 ≤ x ∧ x ≤ 8
theorem fits_numbers_spec {fs : List Int} (hf : NumOk fs) : calN Q (k + 2) "fits_numbers" [tI fs] st = .ok (.bl true) st := by
  rw [calN_at at31, run_eq rfl]
  have c1 := fun l st => e_glbP (Q := Q) (k := k + 1) (show Q.con? "NONE" = some (.int (-1)) from rfl) l st
  have c2 := fun l st => e_glbP (Q := Q) (k := k + 1) (show Q.con? "DEPTH" = some (.int 8) from rfl) l st
  have dd : (tI fs).isDat = true := by
    unfold tI
    simp only [D.isDat]
    exact isD_ints fs
  have t3 : tupD (tI fs) 3 3 = true := by
    unfold tI
    simp [tupD, hf.len]
  simp [f31, b31, is_tuple_of_spec _ _ _ _ dd, t3]
  unfold tI
  simp
  rw [lc_all _ (fun _ => true) fun x hx => by
    obtain ⟨i, hi, rfl⟩ := List.mem_map.mp hx
    have := hf.lo i hi
    simp [wipeD, c1, c2, is_whole_spec _ _ _ _ (show (D.int i).isDat = true from rfl), wholeD, this.1, this.2]]
  have ao := all_of (st := st) (fun _ => true) (fs.map D.int)
  have e1 : (fs.map D.int).all (fun _ => true) = true := by simp
  rw [e1] at ao
  simp only [bind_ok, ao]
  rfl
theorem need_both_spec {fs : List Int} (hf : NumOk fs) {xs : List D} (h : ∀ d ∈ xs, certD d = true) (h1 : 1 ≤ xs.length) (h8 : xs.length ≤ 8) : calN Q (k + 10) "need_both" [tI fs, .tup xs] st = .ok .non st := by
  rw [calN_at at12, run_eq rfl]
  have n1 : ∀ st, calN Q (k + 9) "need_numbers" [tI fs] st = .ok .non st := fun st => by
    rw [calN_at at21, run_eq rfl]
    simp [f21, b21, fits_numbers_spec _ _ hf]
  have n2 : ∀ st, calN Q (k + 9) "need_path" [.tup xs] st = .ok .non st := fun st => by
    rw [calN_at at20, run_eq rfl]
    have c1 := fun l st => e_glbP (Q := Q) (k := k + 8) (show Q.con? "LONGEST_policyparts" = some (.int 8) from rfl) l st
    have dd : (D.tup xs).isDat = true := dat_tup fun x hx => (cert_good (h x hx)).1
    have t3 : tupD (.tup xs) 1 8 = true := by simp [tupD]; omega
    simp [f20, b20, is_tuple_of_spec _ _ _ _ dd, t3, c1]
    rw [lc_all _ (fun _ => true) fun x hx => by
      simp [wipeD, fits_certificate_spec _ _ (cert_good (h x hx)).1, h x hx]]
    have e1 : xs.all (fun _ => true) = true := by simp
    simp [all_of, e1]
  simp [f12, b12, n1, n2]
theorem numbers_along_spec {fs : List Int} (hf : NumOk fs) {xs : List D} (h : ∀ d ∈ xs, certD d = true) (h1 : 1 ≤ xs.length) (h8 : xs.length ≤ 8) : ∃ J, calN Q (k + 11) "numbers_along" [tI fs, .tup xs] st = .ok (.tup (allR fs xs)) (st ++ J) := by
  have al := along_spec (k + 6) st h (by omega) fs
  rw [along_all hf.len (fun x hx => (hf.lo x hx).1) h h1] at al
  refine ⟨[.lst (allR fs xs)], ?_⟩
  rw [calN_at at2, run_eq rfl]
  have bt : biD .tuple [.ref st.length] (st ++ [Ob.lst (allR fs xs)]) = .ok (.tup (allR fs xs)) (st ++ [Ob.lst (allR fs xs)]) := by
    have := app_end st (.lst (allR fs xs))
    simp [biD, lstOf, this, seqOf]
  simp [f2, b2, need_both_spec _ _ hf h h1 h8, al, bt]
theorem plain_int (i : Int) : calN Q (k + 1) "_law_are_plain" [.int i] st = .ok (.bl true) st := by
  rw [calN_at at3, run_eq rfl]
  simp [f3, b3, isiR, isiD]
theorem plain_row (ns : List Int) : calN Q (k + 2) "_law_are_plain" [tI ns] st = .ok (.bl true) st := by
  rw [calN_at at3, run_eq rfl]
  simp [f3, b3, isiR, isiD, tI]
  rw [lc_pure (fun _ => false) id fun x hx => by
    obtain ⟨i, _, rfl⟩ := List.mem_map.mp hx
    exact ⟨_, rfl, by simp [wipeD, plain_int], fun z => by cases z⟩]
  have : (ns.map D.int).filter (fun _ => false) = [] := List.filter_eq_nil_iff.mpr fun _ _ => by simp
  rw [this]
  simp [eqD_nil (xs := []) rfl]
theorem plain_rows (fs : List Int) (xs : List D) : calN Q (k + 3) "_law_are_plain" [.tup (allR fs xs)] st = .ok (.bl true) st := by
  rw [calN_at at3, run_eq rfl]
  simp [f3, b3, isiR, isiD]
  rw [lc_pure (fun _ => false) id fun x hx => by
    unfold allR at hx
    obtain ⟨i, _, rfl⟩ := List.mem_map.mp hx
    exact ⟨_, rfl, by simp [wipeD, plain_row], fun z => by cases z⟩]
  have : (allR fs xs).filter (fun _ => false) = [] := List.filter_eq_nil_iff.mpr fun _ _ => by simp
  rw [this]
  simp [eqD_nil (xs := []) rfl]
theorem limits_of_spec {d : D} (h : certD d = true) : calN Q (k + 9) "limits_of" [d] st = .ok (tI (limL d)) st := by
  rw [calN_at at1, run_eq rfl]
  simp [f1, b1, need_certificate_spec _ _ (cert_good h).1, h, limits_in_spec _ _ h, tI]
end
end K32

set_option Elab.async false
set_option linter.all false
set_option maxRecDepth 100000
set_option autoImplicit false
namespace K32
open PySem CP L2
/-! random certificates -/
section
variable {k : Nat} {rest st : So} {K : D → So → Prop}
theorem nd3 : [D.str "p", D.str "q", D.str "r"].Nodup := by
  show ((["p", "q", "r"] : List Str).map D.str).Nodup
  exact List.Pairwise.map _ (fun a b n z => n (by injection z)) (show (["p", "q", "r"] : List Str).Nodup by decide +kernel)
def l8 : List (List D) := [[], [.str "p"], [.str "q"], [.str "r"], [.str "p", .str "q"], [.str "p", .str "r"], [.str "q", .str "r"], [.str "p", .str "q", .str "r"]]
theorem filt8 (p : D → Bool) : [D.str "p", D.str "q", D.str "r"].filter p ∈ l8 := by
  cases h1 : p (.str "p") <;> cases h2 : p (.str "q") <;> cases h3 : p (.str "r") <;> simp only [List.filter, h1, h2, h3] <;> simp [l8]
theorem sort8 {F : List D} (h : F ∈ l8) {G : List D} (g : G = [.str "any"] ∨ G = []) (st : So) : ∃ ws, sortR (F ++ G) st = .ok (.lst ws) st ∧ (ws = [] ∨ valueD "policies" (.tup ws) = true) ∧ isDats ws = true ∧ (F ++ G).length ≤ 4 := by
  unfold l8 at h
  simp only [List.mem_cons, List.not_mem_nil, or_false] at h
  rcases g with rfl | rfl <;> rcases h with rfl | rfl | rfl | rfl | rfl | rfl | rfl | rfl <;> first
    | exact ⟨isortD _, sortR_of (by decide +kernel) st, .inr (by decide +kernel), by decide +kernel, by decide⟩
    | exact ⟨isortD _, sortR_of (by decide +kernel) st, .inl rfl, rfl, by decide⟩
theorem law_words_rule (c : Cup rest st) (q : ∀ ws st1, (ws = [] ∨ valueD "policies" (.tup ws) = true) → isDats ws = true → Cup rest st1 → K (.tup ws) st1) : Ok (calN Q (k + 2) "_law_words" [.ref 0, .int 2] st) K := by
  rw [calN_at at23]
  apply Ok_body rfl
  show WR (evSs (gmN Q (k + 1)) b23 [some (.ref 0), some (.int 2), none, none] st) _ _
  unfold b23
  rw [WR_cons]
  simp [-ss_cons]
  refine pick_rule (rest := rest) nd3 c (fun x hx => ⟨_, rfl, ?_, ?_⟩) fun p st1 c => ?_
  · intro st c
    simp [wipeD]
    refine roll_rule c (by omega) (by omega) fun r st3 r0 r1 c => ?_
    simpa using c
  · intro st
    simp [wipeD]
  have h8 := filt8 p
  generalize [D.str "p", D.str "q", D.str "r"].filter p = F at *
  have z : ∀ n : Nat, n ≤ 1 → F.length + n ≤ sizeLine := fun n hn => le_size (by
    obtain ⟨ws, _, _, _, hl⟩ := sort8 h8 (.inr rfl) st1
    simp at hl
    omega)
  rw [WR_cons]
  simp [-ss_cons]
  refine roll_rule c (by omega) (by omega) fun r st3 r0 r1 c => ?_
  by_cases r2 : r = 0
  · obtain ⟨ws, e, v, d, _⟩ := sort8 h8 (.inl rfl) st3
    simp [r2, z, sorted_lst, e]
    exact q ws _ v d c
  · obtain ⟨ws, e, v, d, _⟩ := sort8 h8 (.inr rfl) st3
    have z0 := z 0 (by omega)
    simp at z0 e
    simp [r2, z0, sorted_lst, e]
    exact q ws _ v d c
end
end K32

set_option Elab.async false
set_option linter.all false
set_option maxRecDepth 100000
set_option autoImplicit false
namespace K32
open PySem CP L2
def ppL : List D := [D.str "p", .str "q", .str "r"].flatMap fun a => [D.str "p", .str "q", .str "r", .str "s"].map fun b => .tup [a, b]
def okM (l : List D) : Bool := sortOk l && decide (deps l ≤ 7) && decide (l.length < 64) && l.all D.tupB && valueD "mappings" (.tup (isortD (ddD l)))
theorem okM1 : ppL.all (fun x => okM [x]) = true := by decide +kernel
theorem okM2 : ppL.all (fun x => ppL.all fun y => okM [x, y]) = true := by decide +kernel
theorem okM_of {l : List D} (h : ∀ x ∈ l, x ∈ ppL) (h1 : 1 ≤ l.length) (h2 : l.length ≤ 2) : okM l = true := by
  match l, h1, h2 with
  | [x], _, _ => exact List.all_eq_true.mp okM1 x (h x (by simp))
  | [x, y], _, _ => exact List.all_eq_true.mp (List.all_eq_true.mp okM2 x (h x (by simp))) y (h y (by simp))
  | [], h1, _ => simp at h1
  | _ :: _ :: _ :: _, _, h2 => simp at h2
theorem ssr_m {l : List D} (h : okM l = true) (st : So) : ssrL (.lst l) st = .ok (.lst (isortD (ddD l))) st ∧ valueD "mappings" (.tup (isortD (ddD l))) = true := by
  unfold okM at h
  simp only [Bool.and_eq_true] at h
  obtain ⟨⟨⟨⟨h1, h2⟩, h3⟩, h4⟩, h5⟩ := h
  refine ⟨?_, h5⟩
  rw [ssrL_lst h4]
  unfold ssrR
  rw [if_pos (by simp only [h1, h2, h3, h4, Bool.true_or, Bool.and_self])]
theorem lim_ok {x y : D} (hx : x ∈ [D.int (-1), .int (-1), .int 0, .int 1, .int 2]) (hy : y ∈ [D.int (-1), .int (-1), .int 0, .int 1]) : (D.tup [x, y]).eqv (.tup [.int (-1), .int (-1)]) = true ∨ valueD "policylimits" (.tup [x, y]) = true := by
  simp only [List.mem_cons, List.not_mem_nil, or_false] at hx hy
  rcases hx with rfl | rfl | rfl | rfl | rfl <;> rcases hy with rfl | rfl | rfl | rfl <;> first
    | exact .inl (by decide +kernel)
    | exact .inr (by decide +kernel)
section
variable {k : Nat} {rest st : So} {K : D → So → Prop}
/-- the parts so far -/
structure KI (rest : So) (i : Int) (wl : List D) (n : Nat) (ws : List Str) (x2 : Option D) (l : Lo) (st : So) : Prop where
  ex : ∃ ks ds x6, PartsOk ks ds ∧ (∀ w ∈ ks, w ∈ ws) ∧ ks.length ≤ n ∧ l = [some (.ref 0), some (.int i), x2, none, some (.ref (rest.length + 1)), some (.tup wl), x6, none] ∧ DCup rest ks ds st
theorem KI.put {i : Int} {wl : List D} {n : Nat} {ws : List Str} {x2 : Option D} {ks : List Str} {ds : List D} (po : PartsOk ks ds) (hk : ∀ w ∈ ks, w ∈ ws) (hl : ks.length ≤ n) (hn : n < 10) (hd : DCup rest ks ds st) {w : Str} (nw : w ∉ ws) (hw : inD (.str w) partsW = true) {v : D} (hv : valueD w v = true) (x6 : Option D) :
    ∃ st1, putOb (rest.length + 1) (.str w) v st = some st1 ∧ KI rest i wl (n + 1) (ws ++ [w]) x2 [some (.ref 0), some (.int i), x2, none, some (.ref (rest.length + 1)), some (.tup wl), x6, none] st1 := by
  obtain ⟨st1, e, h7, _⟩ := hd.put (Nat.lt_of_le_of_lt hl (Nat.lt_of_lt_of_le (by omega : n < 100000) (le_size (Nat.le_refl _)))) w v
  have nk : w ∉ ks := fun z => nw (hk w z)
  refine ⟨st1, e, ks ++ [w], ds ++ [v], x6, po.snoc nk (by omega) hw hv, fun u hu => ?_, by simp; omega, rfl, h7 (dget_no nk)⟩
  rcases List.mem_append.mp hu with hu | hu
  · exact List.mem_append_left _ (hk u hu)
  · exact List.mem_append_right _ hu
theorem KI.up {i : Int} {wl : List D} {n : Nat} {ws : List Str} {x2 : Option D} {ks : List Str} {ds : List D} (po : PartsOk ks ds) (hk : ∀ w ∈ ks, w ∈ ws) (hl : ks.length ≤ n) (hd : DCup rest ks ds st) (w : Str) (x6 : Option D) :
    KI rest i wl (n + 1) (ws ++ [w]) x2 [some (.ref 0), some (.int i), x2, none, some (.ref (rest.length + 1)), some (.tup wl), x6, none] st :=
  ⟨ks, ds, x6, po, fun u hu => List.mem_append_left _ (hk u hu), by omega, rfl, hd⟩
structure KL (rest : So) (i : Int) (wl : List D) (l : Lo) (st : So) : Prop where
  ex : ∃ x y, x ∈ [D.int (-1), .int (-1), .int 0, .int 1, .int 2] ∧ y ∈ [D.int (-1), .int (-1), .int 0, .int 1] ∧ KI rest i wl 2 ["policies", "mappings"] (some (.tup [x, y])) l st
structure PI2 (rest : So) (ks : List Str) (ds : List D) (n : Nat) (xs acc : List D) (st : So) : Prop where
  len : xs.length + acc.length = n
  ok : ∀ x ∈ acc, x ∈ ppL
  cup : DCup rest ks ds st
set_option maxHeartbeats 1000000 in
theorem law_certificate_rule (c : Cup rest st) {i : Int} (i0 : 0 ≤ i) (i1 : i ≤ 100) (q : ∀ d st1 rest1, certD d = true → Cup (rest ++ rest1) st1 → K d st1) : Ok (calN Q (k + 3) "_law_certificate" [.ref 0, .int i] st) K := by
  rw [calN_at at14]
  apply Ok_body rfl
  show WR (evSs (gmN Q (k + 2)) b14 [some (.ref 0), some (.int i), none, none, none, none, none, none] st) _ _
  unfold b14
  have el : st.length = rest.length + 1 := cup_len c
  rw [WR_cons]
  simp [-ss_cons]
  refine law_words_rule (DCup.new c).ex fun wl st1 hv hdw c1 => ?_
  have hd : DCup rest [] [] st1 := ⟨c1⟩
  try simp [-ss_cons]
  rw [el]
  refine WR_step (KI rest i wl 1 ["policies"] none) ?_ ?_
  · have en := fun st => eqD_tnil (xs := wl) hdw st
    simp [en]
    refine ⟨fun e => ⟨fun _ => KI.up (n := 0) (ws := []) PartsOk.nil (by simp) (by simp) hd "policies" none, fun z => absurd e z⟩, fun ne => ?_⟩
    refine roll_rule hd.ex (by omega) (by omega) fun r st2 r0 r1 c => ?_
    have hd : DCup rest [] [] st2 := ⟨c⟩
    simp
    refine ⟨fun _ => ?_, fun _ => KI.up (n := 0) (ws := []) PartsOk.nil (by simp) (by simp) hd "policies" none⟩
    obtain ⟨st3, e3, k3⟩ := KI.put (i := i) (wl := wl) (x2 := none) (n := 0) (ws := []) (w := "policies") PartsOk.nil (by simp) (by simp) (by omega) hd (by simp) (by decide +kernel) (hv.resolve_left ne) none
    rw [e3]
    exact k3
  rintro _ st2 ⟨ks, ds, x6, po, hk, hl, rfl, hd⟩
  refine WR_step (KI rest i wl 2 ["policies", "mappings"] none) ?_ ?_
  · simp
    refine roll_rule hd.ex (by omega) (by omega) fun r st3 r0 r1 c => ?_
    have hd : DCup rest ks ds st3 := ⟨c⟩
    simp
    refine ⟨fun _ => ?_, fun _ => KI.up (n := 1) (ws := ["policies"]) po hk hl hd "mappings" x6⟩
    refine roll_rule hd.ex (by omega) (by omega) fun r2 st4 r20 r21 c => ?_
    have hd : DCup rest ks ds st4 := ⟨c⟩
    have ro : rngOk 0 (1 + r2) = true := by
      have : (1 + r2 - 0).toNat ≤ sizeLine := le_size (by omega)
      simp only [rngOk, this, decide_true, Bool.and_true, Bool.and_eq_true, decide_eq_true_eq]
      omega
    simp [ro]
    refine Ok_lcI (PI2 rest ks ds (1 + r2).toNat) ⟨by simp [rngD], by simp, hd⟩ ?_ ?_
    · rintro x xs acc st ⟨l1, ok, hd⟩
      refine ⟨_, rfl, ?_⟩
      simp [wipeD]
      refine some_rule hd.ex (by simp) (by simp) fun a ha st5 c => ?_
      try simp
      refine some_rule c (by simp) (by simp) fun b hb st6 c => ?_
      try simp
      refine ⟨by simp at l1 ⊢; omega, fun y hy => ?_, ⟨c⟩⟩
      rcases List.mem_append.mp hy with hy | hy
      · exact ok y hy
      · rw [List.mem_singleton.mp hy]
        exact List.mem_flatMap.mpr ⟨a, ha, List.mem_map.mpr ⟨b, hb, rfl⟩⟩
    · rintro acc st ⟨l1, ok, hd⟩
      simp at l1
      obtain ⟨sm, vm⟩ := ssr_m (okM_of ok (by omega) (by omega)) st
      simp [sm]
      obtain ⟨st3, e3, k3⟩ := KI.put (i := i) (wl := wl) (x2 := none) (n := 1) (ws := ["policies"]) (w := "mappings") po hk hl (by omega) hd (by decide +kernel) (by decide +kernel) vm (some (.lst acc))
      rw [e3]
      exact k3
  rintro _ st3 ⟨ks, ds, x6, po, hk, hl, rfl, hd⟩
  refine WR_step (KL rest i wl) ?_ ?_
  · simp
    refine some_rule hd.ex (by simp) (by simp) fun x hx st4 c => ?_
    try simp
    refine some_rule c (by simp) (by simp) fun y hy st5 c => ?_
    try simp
    exact ⟨x, y, hx, hy, ⟨ks, ds, x6, po, hk, hl, rfl, ⟨c⟩⟩⟩
  rintro _ st4 ⟨x, y, hx, hy, ⟨ks, ds, x6, po, hk, hl, rfl, hd⟩⟩
  have xy : (D.tup [x, y]).isDat = true ∧ (D.tup [x, y]).dep ≤ 1 := by
    simp only [List.mem_cons, List.not_mem_nil, or_false] at hx hy
    rcases hx with rfl | rfl | rfl | rfl | rfl <;> rcases hy with rfl | rfl | rfl | rfl <;> exact ⟨rfl, by simp [D.dep, deps]⟩
  refine WR_step (KI rest i wl 3 ["policies", "mappings", "policylimits"] (some (.tup [x, y]))) ?_ ?_
  · simp
    refine roll_rule hd.ex (by omega) (by omega) fun r st5 r0 r1 c => ?_
    have hd : DCup rest ks ds st5 := ⟨c⟩
    have eq2 := fun st => eqD_dats (x := .tup [x, y]) (y := .tup [.int (-1), .int (-1)]) st xy.1 rfl (Nat.le_trans xy.2 (by omega))
    have up := KI.up (i := i) (wl := wl) (x2 := some (.tup [x, y])) (n := 2) (ws := ["policies", "mappings"]) po hk hl hd "policylimits" x6
    rcases lim_ok hx hy with z | z
    · rw [z] at eq2
      by_cases r2 : r = 0
      · simp [r2, eq2]
        exact up
      · simp [r2]
        exact up
    · obtain ⟨st6, e6, k6⟩ := KI.put (i := i) (wl := wl) (x2 := some (.tup [x, y])) (n := 2) (ws := ["policies", "mappings"]) (w := "policylimits") po hk hl (by omega) hd (by decide +kernel) (by decide +kernel) z x6
      by_cases r2 : r = 0
      · cases ev : (D.tup [x, y]).eqv (.tup [.int (-1), .int (-1)]) with
        | true =>
          rw [ev] at eq2
          simp [r2, eq2]
          exact up
        | false =>
          rw [ev] at eq2
          simp [r2, eq2, e6]
          exact k6
      · simp [r2]
        exact up
  rintro _ st5 ⟨ks, ds, x6, po, hk, hl, rfl, hd⟩
  refine WR_step (KI rest i wl 4 ["policies", "mappings", "policylimits", "anylimit"] (some (.tup [x, y]))) ?_ ?_
  · simp
    refine roll_rule hd.ex (by omega) (by omega) fun r st6 r0 r1 c => ?_
    have hd : DCup rest ks ds st6 := ⟨c⟩
    simp
    refine ⟨fun _ => ?_, fun _ => KI.up (n := 3) (ws := ["policies", "mappings", "policylimits"]) po hk hl hd "anylimit" x6⟩
    refine roll_rule hd.ex (by omega) (by omega) fun r2 st7 r20 r21 c => ?_
    have hd : DCup rest ks ds st7 := ⟨c⟩
    obtain ⟨st8, e8, k8⟩ := KI.put (i := i) (wl := wl) (x2 := some (.tup [x, y])) (n := 3) (ws := ["policies", "mappings", "policylimits"]) (w := "anylimit") (v := .int r2) po hk hl (by omega) hd (by decide +kernel) (by decide +kernel) (by
      show wholeD (.int r2) 0 8 = true
      simp [wholeD]
      omega) x6
    simp [e8]
    exact k8
  rintro _ st6 ⟨ks, ds, x6, po, hk, hl, rfl, hd⟩
  simp
  refine some_rule hd.ex (by simp) (by simp) fun nm hnm st7 c => ?_
  have gn : wordsD nm 1 4 = true := by
    simp only [List.mem_cons, List.not_mem_nil, or_false] at hnm
    rcases hnm with rfl | rfl <;> decide +kernel
  try simp
  refine roll_rule c (by omega) (by omega) fun r st8 r0 r1 c => ?_
  try simp
  have hd : DCup rest ks ds st8 := ⟨c⟩
  have lp : calN Q (k + 2) "_law_parts" [.ref (rest.length + 1)] st8 = _ := law_parts_spec (P := Q) (k := k + 1) hd (by omega) (strs_sortOk ks) po.len
  have pp := po.parts
  have cert : ∀ sb, wordsD sb 1 4 = true → certD (.tup [.int i, nm, sb, .int 1, .int 2, .int 0, .int 9, .tup (pairsOf ks ds), .int 0]) = true := fun sb gs => by
    simp only [certD, gn, gs, pp]
    simp [wholeD]
    omega
  refine ⟨fun _ => ?_, fun _ => ?_⟩
  · rw [lp]
    exact q _ _ [.dct (keysS ks) ds] (cert nm gn) c
  · rw [lp]
    exact q _ _ [.dct (keysS ks) ds] (cert _ (by decide +kernel)) c
end
end K32

set_option Elab.async false
set_option linter.all false
set_option maxRecDepth 100000
set_option autoImplicit false
namespace K32
open PySem CP L2
theorem list_ints : ∀ {ds : List D}, (∀ d ∈ ds, ∃ i : Int, d = .int i) → ∃ ns : List Int, ds = ns.map D.int
  | [], _ => ⟨[], rfl⟩
  | d :: ds, h => by
    obtain ⟨i, rfl⟩ := h d List.mem_cons_self
    obtain ⟨ns, rfl⟩ := list_ints fun e he => h e (List.mem_cons_of_mem _ he)
    exact ⟨i :: ns, rfl⟩
section
variable {rest st : So} {K : D → So → Prop}
structure FI (rest : So) (xs acc : List D) (st : So) : Prop where
  len : xs.length + acc.length = 3
  ok : ∀ d ∈ acc, ∃ i : Int, d = .int i ∧ -1 ≤ i ∧ i ≤ 8
  cup : Cup rest st
theorem law_first_rule (c : Cup rest st) (q : ∀ fs st1, NumOk fs → Cup rest st1 → K (tI fs) st1) : Ok (calN Q 199 "_law_first" [.ref 0] st) K := by
  rw [show (199 : Nat) = 198 + 1 from rfl, calN_at at7]
  apply Ok_body rfl
  show WR (evSs (gmN Q 198) b7 [some (.ref 0), none] st) _ _
  unfold b7
  rw [WR_cons]
  simp [-ss_cons, rngOk]
  refine Ok_lcI (FI rest) ⟨by simp [rngD], by simp, c⟩ ?_ ?_
  · rintro x xs acc st ⟨l1, ok, c⟩
    refine ⟨_, rfl, ?_⟩
    simp [wipeD]
    refine some_rule c (by simp) (by simp) fun a ha st5 c => ?_
    refine ⟨by simp at l1 ⊢; omega, fun y hy => ?_, c⟩
    rcases List.mem_append.mp hy with hy | hy
    · exact ok y hy
    · rw [List.mem_singleton.mp hy]
      simp only [List.mem_cons, List.not_mem_nil, or_false] at ha
      rcases ha with rfl | rfl | rfl | rfl | rfl <;> exact ⟨_, rfl, by omega, by omega⟩
  · rintro acc st ⟨l1, ok, c⟩
    obtain ⟨ns, rfl⟩ := list_ints fun d hd => by
      obtain ⟨i, rfl, _⟩ := ok d hd
      exact ⟨i, rfl⟩
    simp
    refine q ns st ⟨by simpa using l1, fun x hx => ?_⟩ c
    obtain ⟨i, e, h1, h2⟩ := ok (.int x) (List.mem_map.mpr ⟨x, hx, rfl⟩)
    injection e with e
    subst e
    exact ⟨h1, h2⟩
structure GI (rest : So) (n : Nat) (xs acc : List D) (st : So) : Prop where
  ex : ∃ (i : Nat) (rest1 : So), i ≤ n ∧ xs = rngD (i : Int) (n - i) ∧ acc.length = i ∧ (∀ d ∈ acc, certD d = true) ∧ Cup (rest ++ rest1) st
theorem law_path_rule (c : Cup rest st) (q : ∀ xs st1 rest1, 1 ≤ xs.length → xs.length ≤ 5 → (∀ d ∈ xs, certD d = true) → Cup (rest ++ rest1) st1 → K (.tup xs) st1) : Ok (calN Q 199 "_law_path" [.ref 0, .int 5] st) K := by
  rw [show (199 : Nat) = 198 + 1 from rfl, calN_at at6]
  apply Ok_body rfl
  show WR (evSs (gmN Q 198) b6 [some (.ref 0), some (.int 5), none] st) _ _
  unfold b6
  rw [WR_cons]
  simp [-ss_cons]
  refine roll_rule c (by omega) (by omega) fun r st3 r0 r1 c => ?_
  have ro : rngOk 0 (1 + r) = true := by
    have : (1 + r - 0).toNat ≤ sizeLine := le_size (by omega)
    simp only [rngOk, this, decide_true, Bool.and_true, Bool.and_eq_true, decide_eq_true_eq]
    omega
  simp [ro]
  refine Ok_lcI (GI rest (1 + r).toNat) ⟨0, [], by omega, rfl, rfl, by simp, by simpa using c⟩ ?_ ?_
  · rintro x xs acc st ⟨i, rest1, hi, e, hl, ok, c⟩
    have lt : i < (1 + r).toNat := by
      by_cases g : i < (1 + r).toNat
      · exact g
      · have : (1 + r).toNat - i = 0 := by omega
        rw [this] at e
        cases e
    have er : rngD (i : Int) ((1 + r).toNat - i) = .int i :: rngD ((i + 1 : Nat) : Int) ((1 + r).toNat - (i + 1)) := by
      have : (1 + r).toNat - i = ((1 + r).toNat - (i + 1)) + 1 := by omega
      rw [this, rngD_cons]
      rfl
    rw [er] at e
    injection e with e1 e2
    subst e1 e2
    refine ⟨_, rfl, ?_⟩
    simp [wipeD]
    refine law_certificate_rule (k := 195) c (by omega) (by omega) fun d st1 rest2 hd c => ?_
    refine ⟨i + 1, rest1 ++ rest2, by omega, rfl, by simp [hl], fun y hy => ?_, by rw [← List.append_assoc]; exact c⟩
    rcases List.mem_append.mp hy with hy | hy
    · exact ok y hy
    · rw [List.mem_singleton.mp hy]; exact hd
  · rintro acc st ⟨i, rest1, hi, e, hl, ok, c⟩
    have lt : i = (1 + r).toNat := by
      by_cases g : i = (1 + r).toNat
      · exact g
      · have : (1 + r).toNat - i = ((1 + r).toNat - (i + 1)) + 1 := by omega
        rw [this, rngD_cons] at e
        cases e
    simp
    exact q acc st rest1 (by omega) (by omega) ok c
end
theorem cup_more : ∀ {J rest st : So}, Cup rest st → Cup (rest ++ J) (st ++ J)
  | [], rest, st, c => by simpa using c
  | o :: J, rest, st, c => by
    have := cup_more (J := J) (cup_app c o)
    simpa [List.append_assoc] using this
structure QI (rest : So) (fs : List Int) (ps : List D) (xs acc : List D) (st : So) : Prop where
  ex : ∃ (i : Nat) (rest1 : So), i ≤ ps.length ∧ xs = rngD (i : Int) (ps.length - i) ∧ acc = (List.range i).map (fun j => tI (rowF fs (ps.take j) 3)) ∧ Cup (rest ++ rest1) st
structure I (l : Lo) (st : So) : Prop where
  ex : ∃ sc t x6 x7 rest, l = [sc, some (.ref 0), t, none, none, none, x6, x7, none, none, none] ∧ Cup rest st
theorem all_good (fs : List Int) (ps : List D) : isDats (allR fs ps) = true ∧ deps (allR fs ps) ≤ 3 := by
  refine ⟨isDats_all.mpr fun d hd => ?_, deps_le.mpr fun d hd => ?_⟩ <;> (unfold allR at hd; obtain ⟨i, _, rfl⟩ := List.mem_map.mp hd)
  · unfold tI; simp only [D.isDat]; exact isD_ints _
  · unfold tI
    have : deps ((rowF fs (ps.take i) 3).map D.int) ≤ 0 := deps_le.mpr fun d hd => by
      obtain ⟨j, _, rfl⟩ := List.mem_map.mp hd
      exact Nat.le_refl _
    simp only [D.dep]
    omega
def v3 : D := (.tup [.int 1, .tup [.str "r"], .tup [.str "r"], .int 1, .int 2, .int 0, .int 9, .tup [], .int 0])
def v4 : D := (.tup [.int 2, .tup [.str "r"], .tup [.str "s"], .int 1, .int 2, .int 0, .int 9, .tup [.tup [.str "anylimit", .int 0], .tup [.str "policylimits", .tup [.int (-1), .int 3]]], .int 0])
theorem c3 : certD v3 = true := by decide +kernel
theorem c4 : certD v4 = true := by decide +kernel
theorem t0 (sc t x6 x7 : Option D) (st : So) : evSs (gmN Q 199) (takeSs 3 (skipSs 2 b0)) [sc, some (.ref 0), t, none, none, none, x6, x7, none, none, none] st = .nx [sc, some (.ref 0), t, some v3, some v4, none, x6, x7, none, none, none] st := by kernel_rfl
theorem t9 (sc t x6 x7 : Option D) (st : So) : evSs (gmN Q 199) (skipSs 7 b0) [sc, some (.ref 0), t, some v3, some v4, none, x6, x7, none, none, none] st = .rt (.bl true) st := by kernel_rfl
theorem tail {K : Lo → So → Prop} (sc t x6 x7 : Option D) (st : So) : WR (evSs (gmN Q 199) (skipSs 2 b0) [sc, some (.ref 0), t, none, none, none, x6, x7, none, none, none] st) K fun d _ => d = .bl true := by
  refine WR_take (n := 3) (t0 sc t x6 x7 st) ?_
  have na := fun {fs : List Int} (hf : NumOk fs) {xs : List D} (h : ∀ d ∈ xs, certD d = true) (h1 : 1 ≤ xs.length) (h8 : xs.length ≤ 8) (st : So) => numbers_along_spec 188 st hf h h1 h8
  have e : skipSs 3 (skipSs 2 b0) = skipSs 5 b0 := rfl
  rw [e]
  unfold b0
  simp only [skipSs]
  rw [WR_cons]
  obtain ⟨J1, e1⟩ := na (fs := [1, 2, 8]) ⟨rfl, by simp⟩ (xs := [v3, v3, v4, v3, v4, v3]) (fun d hd => by
    simp only [List.mem_cons, List.not_mem_nil, or_false] at hd
    rcases hd with rfl | rfl | rfl | rfl | rfl | rfl <;> first | exact c3 | exact c4) (by simp) (by simp) st
  have e1' : calN Q 199 "numbers_along" [.tup [.int 1, .int 2, .int 8], .tup [v3, v3, v4, v3, v4, v3]] st = .ok (.tup (allR [1, 2, 8] [v3, v3, v4, v3, v4, v3])) (st ++ J1) := e1
  have q1 : ∀ st, eqD (.tup (allR [1, 2, 8] [v3, v3, v4, v3, v4, v3])) (.tup [.tup [.int 1, .int 2, .int 8], .tup [.int 1, .int 2, .int 8], .tup [.int 1, .int 2, .int 8], .tup [.int 0, .int 1, .int 0], .tup [.int 0, .int 1, .int 0], .tup [.int 0, .int 0, .int 0]]) st = .ok true st := fun st => by kernel_rfl
  simp [-ss_cons, e1', q1]
  generalize st ++ J1 = st1
  rw [WR_cons]
  obtain ⟨J2, e2⟩ := na (fs := [-1, -1, -1]) ⟨rfl, by simp⟩ (xs := [v4, v4, v4, v4, v4, v4, v4, v4]) (fun d hd => by
    simp only [List.mem_cons, List.not_mem_nil, or_false, or_self] at hd
    rw [hd]; exact c4) (by simp) (by simp) st1
  have e2' : calN Q 199 "numbers_along" [.tup [.int (-1), .int (-1), .int (-1)], .tup [v4, v4, v4, v4, v4, v4, v4, v4]] st1 = .ok (.tup (allR [-1, -1, -1] [v4, v4, v4, v4, v4, v4, v4, v4])) (st1 ++ J2) := e2
  have m2 : ∀ st, opD .mul (.tup [v4]) (.int 8) st = .ok (.tup [v4, v4, v4, v4, v4, v4, v4, v4]) st := fun st => by kernel_rfl
  have i2 : ∀ st, ixD (.tup (allR [-1, -1, -1] [v4, v4, v4, v4, v4, v4, v4, v4])) (.int 7) st = .ok (.tup [.int (-1), .int 0, .int 0]) st := fun st => by kernel_rfl
  have q2 : ∀ st, eqD (.tup [.int (-1), .int 0, .int 0]) (.tup [.int (-1), .int 0, .int 0]) st = .ok true st := fun st => by kernel_rfl
  obtain ⟨J3, e3⟩ := na (fs := [0, 0, 0]) ⟨rfl, by simp⟩ (xs := [v3]) (fun d hd => by rw [List.mem_singleton.mp hd]; exact c3) (by simp) (by simp) (st1 ++ J2)
  have e3' : calN Q 199 "numbers_along" [.tup [.int 0, .int 0, .int 0], .tup [v3]] (st1 ++ J2) = .ok (.tup (allR [0, 0, 0] [v3])) (st1 ++ J2 ++ J3) := e3
  have q3 : ∀ st, eqD (.tup (allR [0, 0, 0] [v3])) (.tup [.tup [.int 0, .int 0, .int 0]]) st = .ok true st := fun st => by kernel_rfl
  simp [-ss_cons, e2', m2, i2, q2, e3', q3]
  generalize st1 ++ (J2 ++ J3) = st2
  have := t9 sc t x6 x7 st2
  unfold b0 at this
  simp only [skipSs] at this
  rw [this]
  exact rfl
theorem rng_len (n : Nat) (h : n ≤ 1000) (st : So) : rngR (.int 0) (.int (n : Int)) st = .ok (rngD 0 n) st := by
  have ro : rngOk 0 (n : Int) = true := by
    have : ((n : Int) - 0).toNat ≤ sizeLine := le_size (by omega)
    simp only [rngOk, this, decide_true, Bool.and_true, Bool.and_eq_true, decide_eq_true_eq]
    omega
  unfold rngR
  simp [ro]
def rowsE : E := .bi .tuple (.cons (.lc (.cal "_law_numbers" (.cons (.var 6) (.cons (.var 7) (.cons (.var 10) .nil)))) (.nm 10) (.rng1 (.bi .len (.cons (.var 7) .nil))) .none [10]) .nil)
theorem rows_ex {rest st : So} (c : Cup rest st) {sc t : Option D} {fs : List Int} (hf : NumOk fs) {xs : List D} (hx : ∀ d ∈ xs, certD d = true) (l5 : xs.length ≤ 5) :
    ∃ rest1 st1, evE (gmN Q 199) rowsE [sc, some (.ref 0), t, none, none, none, some (tI fs), some (.tup xs), none, none, none] st = .ok (.tup (allR fs xs)) st1 ∧ Cup (rest ++ rest1) st1 := by
  suffices w : Ok (evE (gmN Q 199) rowsE [sc, some (.ref 0), t, none, none, none, some (tI fs), some (.tup xs), none, none, none] st) (fun d s => d = .tup (allR fs xs) ∧ ∃ rest1, Cup (rest ++ rest1) s) by
    generalize evE (gmN Q 199) rowsE [sc, some (.ref 0), t, none, none, none, some (tI fs), some (.tup xs), none, none, none] st = r at w
    cases r with
    | ok d s =>
      obtain ⟨rfl, rest1, c⟩ := (w : d = _ ∧ _)
      exact ⟨rest1, s, rfl, c⟩
    | exc c p s => exact w.elim
    | bad => exact w.elim
  have hw : evW (gmN Q 199) (.rng1 (.bi .len (.cons (.var 7) .nil))) [sc, some (.ref 0), t, none, none, none, some (tI fs), some (.tup xs), none, none, none] st = .ok (rngD 0 xs.length) st := by
    rw [ew_rng1]
    have e1 : evE (gmN Q 199) (.bi .len (.cons (.var 7) .nil)) [sc, some (.ref 0), t, none, none, none, some (tI fs), some (.tup xs), none, none, none] st = .ok (.int xs.length) st := by simp
    rw [e1, bind_ok]
    exact rng_len _ (by omega) st
  unfold rowsE
  rw [e_bi, Ok_bind, es_cons, Ok_bind, e_lc, hw, bind_ok]
  refine Ok_lcI (QI rest fs xs) ⟨0, [], by omega, rfl, rfl, by simpa using c⟩ ?_ ?_
  · rintro x ys acc st ⟨i, rest2, hi, e, rfl, c⟩
    have lt : i < xs.length := by
      by_cases g : i < xs.length
      · exact g
      · have : xs.length - i = 0 := by omega
        rw [this] at e
        cases e
    have er : rngD (i : Int) (xs.length - i) = .int i :: rngD ((i + 1 : Nat) : Int) (xs.length - (i + 1)) := by
      have : xs.length - i = (xs.length - (i + 1)) + 1 := by omega
      rw [this, rngD_cons]
      rfl
    rw [er] at e
    injection e with e1 e2
    subst e1 e2
    refine ⟨_, rfl, ?_⟩
    obtain ⟨J2, e⟩ := law_numbers_spec 195 st hx (by omega) hf.len (at_ := (i : Int)) (by omega)
    have e' : calN Q 199 "_law_numbers" [tI fs, .tup xs, .int (i : Int)] st = .ok (tI (rowF fs (xs.take i) 3)) (st ++ J2) := e
    simp [wipeD, e']
    refine ⟨i + 1, rest2 ++ J2, by omega, rfl, by rw [List.range_succ, List.map_append]; rfl, by rw [← List.append_assoc]; exact cup_more c⟩
  · rintro acc st ⟨i, rest2, hi, e, rfl, c⟩
    have lt : i = xs.length := by
      by_cases g : i = xs.length
      · exact g
      · have : xs.length - i = (xs.length - (i + 1)) + 1 := by omega
        rw [this, rngD_cons] at e
        cases e
    subst lt
    exact ⟨rfl, rest2, c⟩
theorem step2 {sc x : Option D} {fs : List Int} {xs : List D} {st3 st4 J : So} {K : Lo → So → Prop} {T : D → So → Prop} (e' : calN Q 199 "numbers_along" [tI fs, .tup xs] st3 = .ok (.tup (allR fs xs)) (st3 ++ J))
    (er : evE (gmN Q 199) rowsE [sc, some (.ref 0), x, none, none, none, some (tI fs), some (.tup xs), none, none, none] (st3 ++ J) = .ok (.tup (allR fs xs)) st4) (same : ∀ st, eqD (.tup (allR fs xs)) (.tup (allR fs xs)) st = .ok true st)
    (q : K [sc, some (.ref 0), x, none, none, none, some (tI fs), some (.tup xs), none, none, none] st4) : WR (evS (gmN Q 199) (.ite (.cmp .ne (.cal "numbers_along" (.cons (.var 6) (.cons (.var 7) .nil))) rowsE) (.cons (.ret (.bl false)) .nil) .nil) [sc, some (.ref 0), x, none, none, none, some (tI fs), some (.tup xs), none, none, none] st3) K T := by
  generalize rowsE = R at *
  have ea : evE (gmN Q 199) (.cal "numbers_along" (.cons (.var 6) (.cons (.var 7) .nil))) [sc, some (.ref 0), x, none, none, none, some (tI fs), some (.tup xs), none, none, none] st3 = .ok (.tup (allR fs xs)) (st3 ++ J) := by
    simp
    exact e'
  have ec : evB (gmN Q 199) (.cmp .ne (.cal "numbers_along" (.cons (.var 6) (.cons (.var 7) .nil))) R) [sc, some (.ref 0), x, none, none, none, some (tI fs), some (.tup xs), none, none, none] st3 = .ok false st4 := by
    rw [eb_eq, e_cmp, ea, bind_ok, er, bind_ok]
    simp only [cmpB, same]
    rfl
  rw [s_ite, ec]
  exact q
theorem main (ns : List Int) (h : ns.length ≤ 63) : ∃ st, calN Q 200 "law" [.scr (ns.map D.int)] [] = .ok (.bl true) st := by
  have w : Ok (calN Q 200 "law" [.scr (ns.map D.int)] []) fun d _ => d = .bl true := by
    rw [show (200 : Nat) = 199 + 1 from rfl, calN_at at0]
    apply Ok_body rfl
    show WR (evSs (gmN Q 199) b0 [some (.scr (ns.map D.int)), none, none, none, none, none, none, none, none, none, none] []) _ _
    unfold b0
    rw [WR_cons]
    simp [-ss_cons]
    refine cup_rule h fun st1 c => ?_
    refine WR_step I ?_ ?_
    · simp [-ss_cons, rngOk]
      refine WR_for (I := I) ⟨_, _, _, _, _, rfl, c⟩ ?_ (fun l st h => h)
      rintro x _ l st ⟨sc, t, x6, x7, rest, rfl, c⟩
      refine ⟨_, rfl, ?_⟩
      rw [WR_cons]
      simp [-ss_cons]
      refine law_first_rule c fun fs st2 hf c => ?_
      try simp [-ss_cons]
      refine law_path_rule c fun xs st3 rest1 l1 l5 hx c => ?_
      try simp [-ss_cons, setAll, bindTg]
      generalize rest ++ rest1 = rest at c
      obtain ⟨ag, ad⟩ := all_good fs xs
      have same : ∀ st, eqD (.tup (allR fs xs)) (.tup (allR fs xs)) st = .ok true st := fun st => eqD_same (by simp only [D.isDat]; exact ag) (by simp only [D.dep]; omega) st
      -- the rows
      rw [WR_cons]
      obtain ⟨J, e⟩ := numbers_along_spec 188 st3 hf hx l1 (by omega)
      have e' : calN Q 199 "numbers_along" [tI fs, .tup xs] st3 = .ok (.tup (allR fs xs)) (st3 ++ J) := e
      show WR (evS (gmN Q 199) (.ite (.cmp .ne (.cal "numbers_along" (.cons (.var 6) (.cons (.var 7) .nil))) rowsE) (.cons (.ret (.bl false)) .nil) .nil) _ _) _ _
      have cj : Cup (rest ++ J) (st3 ++ J) := cup_more c
      have hle : xs.length ≤ 5 := by omega
      obtain ⟨rest2, st4, er, c⟩ := rows_ex (sc := sc) (t := some x) cj hf hx hle
      · refine step2 e' er same ?_
        generalize rest ++ J ++ rest2 = rest at c
        rw [WR_cons]
        simp [-ss_cons]
        rw [lc_pure (fun _ => false) id fun d hd => by
          have cd := hx d hd
          have sm : ∀ st, eqD (tI (limL d)) (tI (limL d)) st = .ok true st := fun st => eqD_same (by unfold tI; simp only [D.isDat]; exact isD_ints _) (by
            unfold tI
            have : deps ((limL d).map D.int) ≤ 0 := deps_le.mpr fun d hd => by
              obtain ⟨j, _, rfl⟩ := List.mem_map.mp hd
              exact Nat.le_refl _
            simp only [D.dep]
            omega) st
          have ll : ∀ st, calN Q 199 "_law_limits" [d] st = .ok (tI (limL d)) st := fun st => law_limits_spec 197 st cd
          have lo : ∀ st, calN Q 199 "limits_of" [d] st = .ok (tI (limL d)) st := fun st => limits_of_spec 190 st cd
          have pl : ∀ st, calN Q 199 "_law_are_plain" [tI (limL d)] st = .ok (.bl true) st := fun st => plain_row 197 st _
          exact ⟨_, rfl, by simp [wipeD, lo, ll, sm, pl], fun z => by cases z⟩]
        have nf : xs.filter (fun _ => false) = [] := List.filter_eq_nil_iff.mpr fun _ _ => by simp
        rw [nf]
        simp [-ss_cons, eqD_nil (xs := []) rfl]
        rw [WR_cons]
        obtain ⟨J3, e3⟩ := numbers_along_spec 188 st4 hf hx l1 (by omega)
        have e3' : calN Q 199 "numbers_along" [tI fs, .tup xs] st4 = .ok (.tup (allR fs xs)) (st4 ++ J3) := e3
        have pr : ∀ st, calN Q 199 "_law_are_plain" [.tup (allR fs xs)] st = .ok (.bl true) st := fun st => plain_rows 196 st fs xs
        simp [-ss_cons, e3', pr]
        exact ⟨_, _, _, _, _, rfl, cup_more c⟩
    · rintro l st ⟨sc, t, x6, x7, rest, rfl, c⟩
      exact tail sc t x6 x7 st
  cases e : calN Q 200 "law" [.scr (ns.map D.int)] [] with
  | ok d st => rw [e] at w; exact ⟨st, by rw [show d = .bl true from w]⟩
  | exc c p st => rw [e] at w; exact w.elim
  | bad => rw [e] at w; exact w.elim
end K32

open PySem PySem.W PyProof.Rows
set_option Elab.async false
set_option linter.all false
set_option maxRecDepth 100000
set_option maxHeartbeats 0 in
theorem PySem.Challenge.cw_chainpapers_k32_limits_and_numbers_holds : PySem.Challenge.rw_chainpapers_k32_limits_and_numbers.Holds := by
  w_on; o_law; k_head; (case hw => w_witness2)
  k_fill
  refine CP.walk_ofL (l := PySem.Challenge.rw_chainpapers_k32_limits_and_numbers) (k := 200) (x := "_law_script") rfl rfl ⟨rfl, by decide, by decide⟩ (fun w h Y => PySem.W.km_in_of Y) ?F
  case F =>
    intro w mg mb fa h loose' mean T KX G hmg
    refine' CP.law_at T KX ?rec K32.ok K32.cov K32.dl_mem rfl K32.main hmg ?hG ?hL ?hat
    case rec => exact CP.all_cons ⟨_, rfl⟩ (CP.all_nil)
    case hL =>
      refine' CP.lamK_mk (.cons ?l0 (CP.Lms.nil)) ?nd ?tel ?cat
      case l0 => refine' CP.tbAt_mk KX G ?a ?l ?c1 ?l2 ?v ?no; (case a => k_is); (case l => k_is); (case c1 => rfl); (case l2 => k_is); (case v => rfl); (case no => rfl)
      case nd => simp
      case tel =>
        refine' CP.all_cons ?t0 (CP.all_nil)
        case t0 =>
          refine' CP.telAt_mk (d := K32.tds[0]) (List.all_eq_true.mp K32.telOk _ (List.getElem_mem (by decide))) KX G ?a ?l ?c ?k (fun _ _ _ _ _ _ us hl => match us, hl with | [_], _ => rfl) ?hs; (case a => k_is); (case l => k_is); (case c => k_is); (case k => k_is)
          case hs =>
            refine' CP.all_cons ?s0 (CP.all_cons ?s1 (CP.all_cons ?s2 (CP.all_cons ?s3 (CP.all_cons ?s4 (CP.all_cons ?s5 (CP.all_cons ?s6 (CP.all_cons ?s7 (CP.all_cons ?s8 (CP.all_cons ?s9 (CP.all_nil))))))))))
            case s0 => refine' CP.cls_mk KX G ?a; (case a => k_is)
            case s1 => refine' CP.cls_mk KX G ?a; (case a => k_is)
            case s2 => refine' CP.cls_mk KX G ?a; (case a => k_is)
            case s3 => refine' CP.cls_mk KX G ?a; (case a => k_is)
            case s4 => refine' CP.cls_mk KX G ?a; (case a => k_is)
            case s5 => refine' CP.cls_mk KX G ?a; (case a => k_is)
            case s6 => refine' CP.cls_mk KX G ?a; (case a => k_is)
            case s7 => refine' CP.cls_mk KX G ?a; (case a => k_is)
            case s8 => refine' CP.cls_mk KX G ?a; (case a => k_is)
            case s9 => refine' CP.cls_mk KX G ?a; (case a => k_is)
      case cat =>
        refine' CP.all_cons ?t0 (CP.all_nil)
        case t0 =>
          refine' CP.all_cons ?s0 (CP.all_cons ?s1 (CP.all_cons ?s2 (CP.all_cons ?s3 (CP.all_cons ?s4 (CP.all_cons ?s5 (CP.all_cons ?s6 (CP.all_cons ?s7 (CP.all_cons ?s8 (CP.all_cons ?s9 (CP.all_nil))))))))))
          case s0 =>
            refine' CP.all_cons ?v0 (CP.all_cons ?v1 (CP.all_cons ?v2 (CP.all_nil)))
            case v0 => refine' CP.cat_mk (b := false) KX G ?a ?b ?c rfl; (case a => k_is); (case b => k_is); (case c => kts_exm)
            case v1 => refine' CP.cat_mk (b := false) KX G ?a ?b ?c rfl; (case a => k_is); (case b => k_is); (case c => kts_exm)
            case v2 => refine' CP.cat_mk (b := false) KX G ?a ?b ?c rfl; (case a => k_is); (case b => k_is); (case c => kts_exm)
          case s1 =>
            refine' CP.all_cons ?v0 (CP.all_cons ?v1 (CP.all_cons ?v2 (CP.all_nil)))
            case v0 => refine' CP.cat_mk (b := true) KX G ?a ?b ?c rfl; (case a => k_is); (case b => k_is); (case c => kts_exm)
            case v1 => refine' CP.cat_mk (b := false) KX G ?a ?b ?c rfl; (case a => k_is); (case b => k_is); (case c => kts_exm)
            case v2 => refine' CP.cat_mk (b := false) KX G ?a ?b ?c rfl; (case a => k_is); (case b => k_is); (case c => kts_exm)
          case s2 =>
            refine' CP.all_cons ?v0 (CP.all_cons ?v1 (CP.all_cons ?v2 (CP.all_nil)))
            case v0 => refine' CP.cat_mk (b := false) KX G ?a ?b ?c rfl; (case a => k_is); (case b => k_is); (case c => kts_exm)
            case v1 => refine' CP.cat_mk (b := false) KX G ?a ?b ?c rfl; (case a => k_is); (case b => k_is); (case c => kts_exm)
            case v2 => refine' CP.cat_mk (b := true) KX G ?a ?b ?c rfl; (case a => k_is); (case b => k_is); (case c => kts_exm)
          case s3 =>
            refine' CP.all_cons ?v0 (CP.all_cons ?v1 (CP.all_cons ?v2 (CP.all_nil)))
            case v0 => refine' CP.cat_mk (b := false) KX G ?a ?b ?c rfl; (case a => k_is); (case b => k_is); (case c => kts_exm)
            case v1 => refine' CP.cat_mk (b := true) KX G ?a ?b ?c rfl; (case a => k_is); (case b => k_is); (case c => kts_exm)
            case v2 => refine' CP.cat_mk (b := false) KX G ?a ?b ?c rfl; (case a => k_is); (case b => k_is); (case c => kts_exm)
          case s4 =>
            refine' CP.all_cons ?v0 (CP.all_cons ?v1 (CP.all_cons ?v2 (CP.all_nil)))
            case v0 => refine' CP.cat_mk (b := false) KX G ?a ?b ?c rfl; (case a => k_is); (case b => k_is); (case c => kts_exm)
            case v1 => refine' CP.cat_mk (b := false) KX G ?a ?b ?c rfl; (case a => k_is); (case b => k_is); (case c => kts_exm)
            case v2 => refine' CP.cat_mk (b := false) KX G ?a ?b ?c rfl; (case a => k_is); (case b => k_is); (case c => kts_exm)
          case s5 =>
            refine' CP.all_cons ?v0 (CP.all_cons ?v1 (CP.all_cons ?v2 (CP.all_nil)))
            case v0 => refine' CP.cat_mk (b := false) KX G ?a ?b ?c rfl; (case a => k_is); (case b => k_is); (case c => kts_exm)
            case v1 => refine' CP.cat_mk (b := false) KX G ?a ?b ?c rfl; (case a => k_is); (case b => k_is); (case c => kts_exm)
            case v2 => refine' CP.cat_mk (b := false) KX G ?a ?b ?c rfl; (case a => k_is); (case b => k_is); (case c => kts_exm)
          case s6 =>
            refine' CP.all_cons ?v0 (CP.all_cons ?v1 (CP.all_cons ?v2 (CP.all_nil)))
            case v0 => refine' CP.cat_mk (b := false) KX G ?a ?b ?c rfl; (case a => k_is); (case b => k_is); (case c => kts_exm)
            case v1 => refine' CP.cat_mk (b := false) KX G ?a ?b ?c rfl; (case a => k_is); (case b => k_is); (case c => kts_exm)
            case v2 => refine' CP.cat_mk (b := false) KX G ?a ?b ?c rfl; (case a => k_is); (case b => k_is); (case c => kts_exm)
          case s7 =>
            refine' CP.all_cons ?v0 (CP.all_cons ?v1 (CP.all_cons ?v2 (CP.all_nil)))
            case v0 => refine' CP.cat_mk (b := false) KX G ?a ?b ?c rfl; (case a => k_is); (case b => k_is); (case c => kts_exm)
            case v1 => refine' CP.cat_mk (b := false) KX G ?a ?b ?c rfl; (case a => k_is); (case b => k_is); (case c => kts_exm)
            case v2 => refine' CP.cat_mk (b := false) KX G ?a ?b ?c rfl; (case a => k_is); (case b => k_is); (case c => kts_exm)
          case s8 =>
            refine' CP.all_cons ?v0 (CP.all_cons ?v1 (CP.all_cons ?v2 (CP.all_nil)))
            case v0 => refine' CP.cat_mk (b := false) KX G ?a ?b ?c rfl; (case a => k_is); (case b => k_is); (case c => kts_exm)
            case v1 => refine' CP.cat_mk (b := false) KX G ?a ?b ?c rfl; (case a => k_is); (case b => k_is); (case c => kts_exm)
            case v2 => refine' CP.cat_mk (b := false) KX G ?a ?b ?c rfl; (case a => k_is); (case b => k_is); (case c => kts_exm)
          case s9 =>
            refine' CP.all_cons ?v0 (CP.all_cons ?v1 (CP.all_cons ?v2 (CP.all_nil)))
            case v0 => refine' CP.cat_mk (b := true) KX G ?a ?b ?c rfl; (case a => k_is); (case b => k_is); (case c => kts_exm)
            case v1 => refine' CP.cat_mk (b := true) KX G ?a ?b ?c rfl; (case a => k_is); (case b => k_is); (case c => kts_exm)
            case v2 => refine' CP.cat_mk (b := true) KX G ?a ?b ?c rfl; (case a => k_is); (case b => k_is); (case c => kts_exm)
    case hG =>
      refine' ⟨?con, ?bi, ?isi, ?rng, ?zip, ?tys, ?oth, ?exc⟩
      case con =>
        refine' CP.con_cons ?c0 (CP.con_cons ?c1 (CP.con_cons ?c2 (CP.con_cons ?c3 (CP.con_cons ?c4 (CP.con_cons ?c5 (CP.con_cons ?c6 (CP.con_cons ?c7 (CP.con_cons ?c8 (CP.con_cons ?c9 (CP.con_cons ?c10 (CP.con_cons ?c11 (CP.con_cons ?c12 (CP.con_cons ?c13 (CP.con_cons ?c14 (CP.con_cons ?c15 (CP.con_cons ?c16 (CP.con_nil)))))))))))))))))
        case c0 =>
          refine' CP.conAt_int KX G ?a; (case a => k_is)
        case c1 =>
          refine' CP.conAt_int KX G ?a; (case a => k_is)
        case c2 =>
          refine' CP.conAt_int KX G ?a; (case a => k_is)
        case c3 =>
          refine' CP.conAt_int KX G ?a; (case a => k_is)
        case c4 =>
          refine' CP.conAt_int KX G ?a; (case a => k_is)
        case c5 =>
          refine' CP.conAt_kd KX G ?kca1 ?kck1
          case kca1 => k_is
          case kck1 =>
            refine' CP.KD.tup ?kl2 ?kn2 ?km2 ?kz2; (case kl2 => k_is); (case kn2 => rfl); (case km2 => decide)
            case kz2 =>
              refine' CP.kz_cons ?ky2_0 (CP.kz_cons ?ky2_1 (CP.kz_cons ?ky2_2 (CP.kz_cons ?ky2_3 (CP.kz_cons ?ky2_4 (CP.kz_cons ?ky2_5 (CP.kz_cons ?ky2_6 (CP.kz_cons ?ky2_7 (CP.kz_cons ?ky2_8 (CP.kz_cons ?ky2_9 (CP.kz_cons ?ky2_10 (CP.kz_cons ?ky2_11 (CP.kz_nil))))))))))))
              case ky2_0 =>
                exact .str _ (by decide +kernel)
              case ky2_1 =>
                exact .str _ (by decide +kernel)
              case ky2_2 =>
                exact .str _ (by decide +kernel)
              case ky2_3 =>
                exact .str _ (by decide +kernel)
              case ky2_4 =>
                exact .str _ (by decide +kernel)
              case ky2_5 =>
                exact .str _ (by decide +kernel)
              case ky2_6 =>
                exact .str _ (by decide +kernel)
              case ky2_7 =>
                exact .str _ (by decide +kernel)
              case ky2_8 =>
                exact .str _ (by decide +kernel)
              case ky2_9 =>
                exact .str _ (by decide +kernel)
              case ky2_10 =>
                exact .str _ (by decide +kernel)
              case ky2_11 =>
                exact .str _ (by decide +kernel)
        case c6 =>
          refine' CP.conAt_int KX G ?a; (case a => k_is)
        case c7 =>
          refine' CP.conAt_int KX G ?a; (case a => k_is)
        case c8 =>
          refine' CP.conAt_kd KX G ?kca3 ?kck3
          case kca3 => k_is
          case kck3 =>
            refine' CP.KD.tup ?kl4 ?kn4 ?km4 ?kz4; (case kl4 => k_is); (case kn4 => rfl); (case km4 => decide)
            case kz4 =>
              refine' CP.kz_cons ?ky4_0 (CP.kz_cons ?ky4_1 (CP.kz_cons ?ky4_2 (CP.kz_cons ?ky4_3 (CP.kz_cons ?ky4_4 (CP.kz_nil)))))
              case ky4_0 =>
                exact .str _ (by decide +kernel)
              case ky4_1 =>
                exact .str _ (by decide +kernel)
              case ky4_2 =>
                exact .str _ (by decide +kernel)
              case ky4_3 =>
                exact .str _ (by decide +kernel)
              case ky4_4 =>
                exact .str _ (by decide +kernel)
        case c9 =>
          refine' CP.conAt_kd KX G ?kca5 ?kck5
          case kca5 => k_is
          case kck5 =>
            refine' CP.KD.tup ?kl6 ?kn6 ?km6 ?kz6; (case kl6 => k_is); (case kn6 => rfl); (case km6 => decide)
            case kz6 =>
              refine' CP.kz_cons ?ky6_0 (CP.kz_cons ?ky6_1 (CP.kz_cons ?ky6_2 (CP.kz_cons ?ky6_3 (CP.kz_nil))))
              case ky6_0 =>
                exact .str _ (by decide +kernel)
              case ky6_1 =>
                exact .str _ (by decide +kernel)
              case ky6_2 =>
                exact .str _ (by decide +kernel)
              case ky6_3 =>
                exact .str _ (by decide +kernel)
        case c10 =>
          refine' CP.conAt_int KX G ?a; (case a => k_is)
        case c11 =>
          refine' CP.conAt_int KX G ?a; (case a => k_is)
        case c12 =>
          refine' CP.conAt_str KX G (by decide +kernel) ?a; (case a => k_is)
        case c13 =>
          refine' CP.conAt_int KX G ?a; (case a => k_is)
        case c14 =>
          refine' CP.conAt_int KX G ?a; (case a => k_is)
        case c15 =>
          refine' CP.conAt_str KX G (by decide +kernel) ?a; (case a => k_is)
        case c16 =>
          refine' CP.conAt_int KX G ?a; (case a => k_is)
      case bi => intro f; cases f <;> (refine PySem.W.mg_none_of KX G ?_; k_is)
      case isi => refine PySem.W.mg_none_of KX G ?_; k_is
      case rng => refine PySem.W.mg_none_of KX G ?_; k_is
      case zip => refine PySem.W.mg_none_of KX G ?_; k_is
      case tys =>
        intro t ht
        simp only [CP.isiNames, List.mem_cons, List.not_mem_nil, or_false] at ht
        rcases ht with rfl | rfl | rfl | rfl | rfl <;> (refine PySem.W.mg_none_of KX G ?_; k_is)
      case oth =>
        intro t ht
        simp only [CP.othN, List.mem_cons, List.not_mem_nil, or_false] at ht
        rcases ht with rfl | rfl | rfl <;> (refine PySem.W.mg_none_of KX G ?_; k_is)
      case exc =>
        refine' CP.exc_of (CP.all_cons ?x0 (CP.all_cons ?x1 (CP.all_cons ?x2 (CP.all_nil))))
        case x0 => refine' CP.excAt_mk KX G ?g ?x ?k ?b ?t; (case g => k_is); (case x => k_exc); (case k => k_is); (case b => k_is); (case t => k_is)
        case x1 => refine' CP.excAt_mk KX G ?g ?x ?k ?b ?t; (case g => k_is); (case x => k_exc); (case k => k_is); (case b => k_is); (case t => k_is)
        case x2 => refine' CP.excAt_mk KX G ?g ?x ?k ?b ?t; (case g => k_is); (case x => k_exc); (case k => k_is); (case b => k_is); (case t => k_is)
    case hat =>
      refine' CP.hat_cons ?h0 (CP.hat_cons ?h1 (CP.hat_cons ?h2 (CP.hat_cons ?h3 (CP.hat_cons ?h4 (CP.hat_cons ?h5 (CP.hat_cons ?h6 (CP.hat_cons ?h7 (CP.hat_cons ?h8 (CP.hat_cons ?h9 (CP.hat_cons ?h10 (CP.hat_cons ?h11 (CP.hat_cons ?h12 (CP.hat_cons ?h13 (CP.hat_cons ?h14 (CP.hat_cons ?h15 (CP.hat_cons ?h16 (CP.hat_cons ?h17 (CP.hat_cons ?h18 (CP.hat_cons ?h19 (CP.hat_cons ?h20 (CP.hat_cons ?h21 (CP.hat_cons ?h22 (CP.hat_cons ?h23 (CP.hat_cons ?h24 (CP.hat_cons ?h25 (CP.hat_cons ?h26 (CP.hat_cons ?h27 (CP.hat_cons ?h28 (CP.hat_cons ?h29 (CP.hat_cons ?h30 (CP.hat_cons ?h31 (CP.hat_cons ?h32 (CP.hat_cons ?h33 (CP.hat_cons ?h34 (CP.hat_cons ?h35 (CP.hat_cons ?h36 (CP.hat_cons ?h37 (CP.hat_cons ?h38 (CP.hat_cons ?h39 (CP.hat_cons ?h40 (CP.hat_cons ?h41 (CP.hat_cons ?h42 (CP.hat_cons ?h43 (CP.hat_cons ?h44 (CP.hat_nil)))))))))))))))))))))))))))))))))))))))))))))
      case h0 => refine' CP.dfAt_mk KX G ?a ?l ?c ?k (fun _ _ _ _ _ _ us hl => match us, hl with | [_], _ => rfl); (case a => k_is); (case l => k_is); (case c => k_is); (case k => k_is)
      case h1 => refine' CP.dfAt_mk KX G ?a ?l ?c ?k (fun _ _ _ _ _ _ us hl => match us, hl with | [_], _ => rfl); (case a => k_is); (case l => k_is); (case c => k_is); (case k => k_is)
      case h2 => refine' CP.dfAt_mk KX G ?a ?l ?c ?k (fun _ _ _ _ _ _ us hl => match us, hl with | [_, _], _ => rfl); (case a => k_is); (case l => k_is); (case c => k_is); (case k => k_is)
      case h3 => refine' CP.dfAt_mk KX G ?a ?l ?c ?k (fun _ _ _ _ _ _ us hl => match us, hl with | [_], _ => rfl); (case a => k_is); (case l => k_is); (case c => k_is); (case k => k_is)
      case h4 => refine' CP.dfAt_mk KX G ?a ?l ?c ?k (fun _ _ _ _ _ _ us hl => match us, hl with | [_], _ => rfl); (case a => k_is); (case l => k_is); (case c => k_is); (case k => k_is)
      case h5 => refine' CP.dfAt_mk KX G ?a ?l ?c ?k (fun _ _ _ _ _ _ us hl => match us, hl with | [_, _, _], _ => rfl); (case a => k_is); (case l => k_is); (case c => k_is); (case k => k_is)
      case h6 => refine' CP.dfAt_mk KX G ?a ?l ?c ?k (fun _ _ _ _ _ _ us hl => match us, hl with | [_, _], _ => rfl); (case a => k_is); (case l => k_is); (case c => k_is); (case k => k_is)
      case h7 => refine' CP.dfAt_mk KX G ?a ?l ?c ?k (fun _ _ _ _ _ _ us hl => match us, hl with | [_], _ => rfl); (case a => k_is); (case l => k_is); (case c => k_is); (case k => k_is)
      case h8 => refine' CP.dfAt_mk KX G ?a ?l ?c ?k (fun _ _ _ _ _ _ us hl => match us, hl with | [_], _ => rfl); (case a => k_is); (case l => k_is); (case c => k_is); (case k => k_is)
      case h9 => refine' CP.dfAt_mk KX G ?a ?l ?c ?k (fun _ _ _ _ _ _ us hl => match us, hl with | [_], _ => rfl); (case a => k_is); (case l => k_is); (case c => k_is); (case k => k_is)
      case h10 => refine' CP.dfAt_mk KX G ?a ?l ?c ?k (fun _ _ _ _ _ _ us hl => match us, hl with | [_], _ => rfl); (case a => k_is); (case l => k_is); (case c => k_is); (case k => k_is)
      case h11 => refine' CP.dfAt_mk KX G ?a ?l ?c ?k (fun _ _ _ _ _ _ us hl => match us, hl with | [_, _], _ => rfl); (case a => k_is); (case l => k_is); (case c => k_is); (case k => k_is)
      case h12 => refine' CP.dfAt_mk KX G ?a ?l ?c ?k (fun _ _ _ _ _ _ us hl => match us, hl with | [_, _], _ => rfl); (case a => k_is); (case l => k_is); (case c => k_is); (case k => k_is)
      case h13 => refine' CP.dfAt_mk KX G ?a ?l ?c ?k (fun _ _ _ _ _ _ us hl => match us, hl with | [_, _], _ => rfl); (case a => k_is); (case l => k_is); (case c => k_is); (case k => k_is)
      case h14 => refine' CP.dfAt_mk KX G ?a ?l ?c ?k (fun _ _ _ _ _ _ us hl => match us, hl with | [_, _], _ => rfl); (case a => k_is); (case l => k_is); (case c => k_is); (case k => k_is)
      case h15 => refine' CP.dfAt_mk KX G ?a ?l ?c ?k (fun _ _ _ _ _ _ us hl => match us, hl with | [_, _], _ => rfl); (case a => k_is); (case l => k_is); (case c => k_is); (case k => k_is)
      case h16 => refine' CP.dfAt_mk KX G ?a ?l ?c ?k (fun _ _ _ _ _ _ us hl => match us, hl with | [_, _], _ => rfl); (case a => k_is); (case l => k_is); (case c => k_is); (case k => k_is)
      case h17 => refine' CP.dfAt_mk KX G ?a ?l ?c ?k (fun _ _ _ _ _ _ us hl => match us, hl with | [_, _], _ => rfl); (case a => k_is); (case l => k_is); (case c => k_is); (case k => k_is)
      case h18 => refine' CP.dfAt_mk KX G ?a ?l ?c ?k (fun _ _ _ _ _ _ us hl => match us, hl with | [_], _ => rfl); (case a => k_is); (case l => k_is); (case c => k_is); (case k => k_is)
      case h19 => refine' CP.dfAt_mk KX G ?a ?l ?c ?k (fun _ _ _ _ _ _ us hl => match us, hl with | [_, _], _ => rfl); (case a => k_is); (case l => k_is); (case c => k_is); (case k => k_is)
      case h20 => refine' CP.dfAt_mk KX G ?a ?l ?c ?k (fun _ _ _ _ _ _ us hl => match us, hl with | [_], _ => rfl); (case a => k_is); (case l => k_is); (case c => k_is); (case k => k_is)
      case h21 => refine' CP.dfAt_mk KX G ?a ?l ?c ?k (fun _ _ _ _ _ _ us hl => match us, hl with | [_], _ => rfl); (case a => k_is); (case l => k_is); (case c => k_is); (case k => k_is)
      case h22 => refine' CP.dfAt_mk KX G ?a ?l ?c ?k (fun _ _ _ _ _ _ us hl => match us, hl with | [_], _ => rfl); (case a => k_is); (case l => k_is); (case c => k_is); (case k => k_is)
      case h23 => refine' CP.dfAt_mk KX G ?a ?l ?c ?k (fun _ _ _ _ _ _ us hl => match us, hl with | [_, _], _ => rfl); (case a => k_is); (case l => k_is); (case c => k_is); (case k => k_is)
      case h24 => refine' CP.dfAt_mk KX G ?a ?l ?c ?k (fun _ _ _ _ _ _ us hl => match us, hl with | [_], _ => rfl); (case a => k_is); (case l => k_is); (case c => k_is); (case k => k_is)
      case h25 => refine' CP.dfAt_mk KX G ?a ?l ?c ?k (fun _ _ _ _ _ _ us hl => match us, hl with | [_, _, _], _ => rfl); (case a => k_is); (case l => k_is); (case c => k_is); (case k => k_is)
      case h26 => refine' CP.dfAt_mk KX G ?a ?l ?c ?k (fun _ _ _ _ _ _ us hl => match us, hl with | [_], _ => rfl); (case a => k_is); (case l => k_is); (case c => k_is); (case k => k_is)
      case h27 => refine' CP.dfAt_mk KX G ?a ?l ?c ?k (fun _ _ _ _ _ _ us hl => match us, hl with | [_, _, _], _ => rfl); (case a => k_is); (case l => k_is); (case c => k_is); (case k => k_is)
      case h28 => refine' CP.dfAt_mk KX G ?a ?l ?c ?k (fun _ _ _ _ _ _ us hl => match us, hl with | [_, _], _ => rfl); (case a => k_is); (case l => k_is); (case c => k_is); (case k => k_is)
      case h29 => refine' CP.dfAt_mk KX G ?a ?l ?c ?k (fun _ _ _ _ _ _ us hl => match us, hl with | [_], _ => rfl); (case a => k_is); (case l => k_is); (case c => k_is); (case k => k_is)
      case h30 => refine' CP.dfAt_mk KX G ?a ?l ?c ?k (fun _ _ _ _ _ _ us hl => match us, hl with | [_], _ => rfl); (case a => k_is); (case l => k_is); (case c => k_is); (case k => k_is)
      case h31 => refine' CP.dfAt_mk KX G ?a ?l ?c ?k (fun _ _ _ _ _ _ us hl => match us, hl with | [_], _ => rfl); (case a => k_is); (case l => k_is); (case c => k_is); (case k => k_is)
      case h32 => refine' CP.dfAt_mk KX G ?a ?l ?c ?k (fun _ _ _ _ _ _ us hl => match us, hl with | [_], _ => rfl); (case a => k_is); (case l => k_is); (case c => k_is); (case k => k_is)
      case h33 => refine' CP.dfAt_mk KX G ?a ?l ?c ?k (fun _ _ _ _ _ _ us hl => match us, hl with | [_, _], _ => rfl); (case a => k_is); (case l => k_is); (case c => k_is); (case k => k_is)
      case h34 => refine' CP.dfAt_mk KX G ?a ?l ?c ?k (fun _ _ _ _ _ _ us hl => match us, hl with | [_, _, _], _ => rfl); (case a => k_is); (case l => k_is); (case c => k_is); (case k => k_is)
      case h35 => refine' CP.dfAt_mk KX G ?a ?l ?c ?k (fun _ _ _ _ _ _ us hl => match us, hl with | [_, _, _, _], _ => rfl); (case a => k_is); (case l => k_is); (case c => k_is); (case k => k_is)
      case h36 => refine' CP.dfAt_mk KX G ?a ?l ?c ?k (fun _ _ _ _ _ _ us hl => match us, hl with | [_], _ => rfl); (case a => k_is); (case l => k_is); (case c => k_is); (case k => k_is)
      case h37 => refine' CP.dfAt_mk KX G ?a ?l ?c ?k (fun _ _ _ _ _ _ us hl => match us, hl with | [_, _], _ => rfl); (case a => k_is); (case l => k_is); (case c => k_is); (case k => k_is)
      case h38 => refine' CP.dfAt_mk KX G ?a ?l ?c ?k (fun _ _ _ _ _ _ us hl => match us, hl with | [_], _ => rfl); (case a => k_is); (case l => k_is); (case c => k_is); (case k => k_is)
      case h39 => refine' CP.dfAt_mk KX G ?a ?l ?c ?k (fun _ _ _ _ _ _ us hl => match us, hl with | [_], _ => rfl); (case a => k_is); (case l => k_is); (case c => k_is); (case k => k_is)
      case h40 => refine' CP.dfAt_mk KX G ?a ?l ?c ?k (fun _ _ _ _ _ _ us hl => match us, hl with | [_, _], _ => rfl); (case a => k_is); (case l => k_is); (case c => k_is); (case k => k_is)
      case h41 => refine' CP.dfAt_mk KX G ?a ?l ?c ?k (fun _ _ _ _ _ _ us hl => match us, hl with | [_], _ => rfl); (case a => k_is); (case l => k_is); (case c => k_is); (case k => k_is)
      case h42 => refine' CP.dfAt_mk KX G ?a ?l ?c ?k (fun _ _ _ _ _ _ us hl => match us, hl with | [_, _], _ => rfl); (case a => k_is); (case l => k_is); (case c => k_is); (case k => k_is)
      case h43 => refine' CP.dfAt_mk KX G ?a ?l ?c ?k (fun _ _ _ _ _ _ us hl => match us, hl with | [_], _ => rfl); (case a => k_is); (case l => k_is); (case c => k_is); (case k => k_is)
      case h44 => refine' CP.dfAt_mk KX G ?a ?l ?c ?k (fun _ _ _ _ _ _ us hl => match us, hl with | [_], _ => rfl); (case a => k_is); (case l => k_is); (case c => k_is); (case k => k_is)
