import PyProof.Rows.All
import Wide.All
import OpenK.AllK
import Wide.FinOn
import HandS.ForMost
import HandS.Walk
import HandS.Exc
import HandS.HeadHook1
import HandS.TupAny
import HandS.Style
import HandS.Wide
import HandS.Deep
import HandS.Flow
import HandS.CallSlots
import HandS.TupSets
import HandS.Defaults
import HandS.IsInst
import HandS.List
import HandS.TryOnly
import HandS.Iter
import HandS.Zip
import HandS.Zip0
import KE.GoesMore
import KE.KDictZip
import HandS.More
import HandS.ExcInit
import HandS.ExcBuiltin
import HandS.TryMany
import HandS.ExcIs
import HandS.ExcField
import KE.KExcInit
import HandS.ExcValue
import HandS.HeadEnd
import HandS.Head0
import HandS.Head1
import HandS.Head2
import HandS.HeadHook2
import PySem.Challenge.RW_grudgecote_k07_the_first_unlike_line
set_option Elab.async false
set_option linter.all false
set_option autoImplicit false
set_option maxRecDepth 100000
namespace G

/-- values: lists that are never changed any more are values (fl); what may change stands in the store -/
inductive PV where
  | non | bl (b : Bool) | int (i : Int) | str (s : List Nat) | tup (l : List PV) | fl (l : List PV) | loc (n : Nat) | exc (c : Nat) (fs : List PV)
  /-- the script -/
  | scr (l : List PV)

mutual
def PV.dec : (a b : PV) → Decidable (a = b)
  | .non, b => by cases b <;> first | exact isTrue rfl | exact isFalse (fun h => nomatch h)
  | .bl x, b => by
    cases b with
    | bl y => exact if h : x = y then isTrue (by rw [h]) else isFalse (fun e => h (PV.bl.inj e))
    | _ => exact isFalse (fun h => nomatch h)
  | .int x, b => by
    cases b with
    | int y => exact if h : x = y then isTrue (by rw [h]) else isFalse (fun e => h (PV.int.inj e))
    | _ => exact isFalse (fun h => nomatch h)
  | .str x, b => by
    cases b with
    | str y => exact if h : x = y then isTrue (by rw [h]) else isFalse (fun e => h (PV.str.inj e))
    | _ => exact isFalse (fun h => nomatch h)
  | .tup x, b => by
    cases b with
    | tup y => exact match PV.decL x y with
      | isTrue h => isTrue (by rw [h])
      | isFalse h => isFalse (fun e => h (PV.tup.inj e))
    | _ => exact isFalse (fun h => nomatch h)
  | .fl x, b => by
    cases b with
    | fl y => exact match PV.decL x y with
      | isTrue h => isTrue (by rw [h])
      | isFalse h => isFalse (fun e => h (PV.fl.inj e))
    | _ => exact isFalse (fun h => nomatch h)
  | .scr x, b => by
    cases b with
    | scr y => exact match PV.decL x y with
      | isTrue h => isTrue (by rw [h])
      | isFalse h => isFalse (fun e => h (PV.scr.inj e))
    | _ => exact isFalse (fun h => nomatch h)
  | .loc x, b => by
    cases b with
    | loc y => exact if h : x = y then isTrue (by rw [h]) else isFalse (fun e => h (PV.loc.inj e))
    | _ => exact isFalse (fun h => nomatch h)
  | .exc c x, b => by
    cases b with
    | exc d y => exact if h : c = d then match PV.decL x y with
        | isTrue k => isTrue (by rw [h, k])
        | isFalse k => isFalse (fun e => k (PV.exc.inj e).2)
      else isFalse (fun e => h (PV.exc.inj e).1)
    | _ => exact isFalse (fun h => nomatch h)
def PV.decL : (a b : List PV) → Decidable (a = b)
  | [], [] => isTrue rfl
  | [], _ :: _ => isFalse (fun h => nomatch h)
  | _ :: _, [] => isFalse (fun h => nomatch h)
  | x :: xs, y :: ys => match PV.dec x y with
    | isTrue h => match PV.decL xs ys with
      | isTrue k => isTrue (by rw [h, k])
      | isFalse k => isFalse (fun e => k (List.cons.inj e).2)
    | isFalse h => isFalse (fun e => h (List.cons.inj e).1)
end
instance : DecidableEq PV := PV.dec

inductive Cell where
  | lst (l : List PV) | dct (kvs : List (PV × PV)) | ins (c : Nat) (fs : List (Nat × PV))
  deriving DecidableEq
abbrev Store := List Cell
abbrev Env := List (Option PV)

inductive R (α : Type) where
  | ok (a : α) (S : Store) | ex (e : PV) (S : Store) | bad
def R.bind {α β : Type} (r : R α) (f : α → Store → R β) : R β :=
  match r with
  | .ok a S => f a S
  | .ex e S => .ex e S
  | .bad => .bad

/-- the most that a list, a tuple, a text may hold -/
def sizeL : Nat := 16777216

/-! ### syntax -/
inductive Op2 where | add | sub | mul | fdiv | mod | pow
  deriving DecidableEq
inductive Cp where | lt | le | gt | ge | eq | ne | in_ | nin | is_ | isn
  deriving DecidableEq
inductive Ty where | bool | int | str | list | tuple | own (c : Nat) | base (b : Nat)
  deriving DecidableEq
/-- built-in functions -/
inductive Bi where | len | tuple | list | abs | int | all | any | sum | max | min | max2 | min2 | sorted | lenset | sortset | str | repr | dict | divmod
  deriving DecidableEq
/-- methods of built-in types -/
inductive Bm where | append | pop | popAt | insert | remove | index | count | extend | reverse | clear | get | get2 | join | split | strip1 | replace | find | update
  deriving DecidableEq

mutual
inductive ME where
  | var (i : Nat)
  | int (i : Int) | bl (b : Bool) | non | str (s : List Nat)
  | glb (n : Nat)
  | bin (m : Bool) (o : Op2) (a b : ME)
  | neg (a : ME)
  | cmp (o : Cp) (a b : ME)
  | ch2 (o p : Cp) (a b c : ME)
  | ch3 (o p q : Cp) (a b c d : ME)
  | and (a b : ME) | or (a b : ME) | not (a : ME)
  | ite (c a b : ME)
  | tup (l : List ME)
  | lst (m : Bool) (l : List ME)
  | dct (ks vs : List ME)
  | ix (a i : ME)
  | sl (m : Bool) (a : ME) (lo hi : Option ME)
  | rv (m : Bool) (a : ME)
  | call (f : Nat) (l : List ME) (perm : List Nat) (dfl : List PV)
  | b (f : Bi) (m : Bool) (l : List ME)
  | blist (m : Bool) (i : MI)
  | isi (a : ME) (ts : List Ty)
  | meth (o : ME) (n : Nat) (l : List ME) (perm : List Nat) (dfl : List PV)
  | bm (f : Bm) (m : Bool) (o : ME) (l : List ME)
  | fld (o : ME) (n : Nat)
  | new (c : Nat) (l : List ME) (perm : List Nat) (dfl : List PV)
  | lc (m : Bool) (own : List Nat) (e : ME) (t : MT) (i : MI) (cs : List ME)
  | lc2 (m : Bool) (own : List Nat) (e : ME) (t : MT) (i : MI) (cs : List ME) (own2 : List Nat) (t2 : MT) (i2 : MI) (cs2 : List ME)
  | dc (own : List Nat) (k v : ME) (t : MT) (i : MI) (cs : List ME)
  | fstr (l : List ME)
  | never
inductive MI where
  | ex (e : ME) | rng (l : List ME) | enu (e : ME) | zip2 (a b : ME) | enz (a b : ME) | zip (l : List ME) (strict : Bool) | rvd (e : ME) | vals (e : ME) | items (e : ME)
inductive MT where
  | nm (i : Nat) | tup (l : List MT) | sub (o i : ME) | fld (o : ME) (n : Nat) | star1 (a b : MT)
end
inductive MS where
  | expr (e : ME)
  | ret (e : ME)
  | asg (t : MT) (e : ME)
  | aug (o : Op2) (i : Nat) (e : ME)
  | augS (o : Op2) (a i e : ME)
  | ite (c : ME) (a b : List MS)
  | whl (c : ME) (b : List MS)
  | for_ (t : MT) (i : MI) (b : List MS)
  | brk | cont | pass
  | raise (c : Nat) (l : List ME)
  | try_ (w : List Nat) (b : List MS) (cs : List (Bool × Nat)) (slot : Nat) (su : List MS)
  | never

/-! ### values -/
def lstOf (S : Store) : PV → Option (List PV)
  | .fl l => some l
  | .loc n => match S[n]? with
    | some (.lst l) => some l
    | _ => none
  | _ => none
def seqOf (S : Store) : PV → Option (List PV)
  | .tup l => some l
  | .fl l => some l
  | .loc n => match S[n]? with
    | some (.lst l) => some l
    | _ => none
  | _ => none
def alloc (c : Cell) (S : Store) : R PV := .ok (.loc S.length) (S ++ [c])
def newList (m : Bool) (l : List PV) (S : Store) : R PV :=
  if l.length ≤ sizeL then (if m then alloc (.lst l) S else .ok (.fl l) S) else .bad
def newTup (l : List PV) (S : Store) : R PV := if l.length ≤ sizeL then .ok (.tup l) S else .bad

/-- as plain data (lists of the store as they stand) -/
def dataOf (S : Store) : Nat → PV → Option PV
  | 0, _ => none
  | _ + 1, .non => some .non
  | _ + 1, .bl b => some (.bl b)
  | _ + 1, .int i => some (.int i)
  | _ + 1, .str s => some (.str s)
  | n + 1, .tup l => (l.mapM (dataOf S n)).map .tup
  | n + 1, .fl l => (l.mapM (dataOf S n)).map .fl
  | n + 1, .loc k => match S[k]? with
    | some (.lst l) => (l.mapM (dataOf S n)).map .fl
    | _ => none
  | _ + 1, .exc .. => none
  | _ + 1, .scr .. => none
def depthL : Nat := 24
mutual
/-- == of plain data -/
def peq : PV → PV → Bool
  | .non, .non => true
  | .bl a, .bl b => a == b
  | .int a, .int b => a == b
  | .bl a, .int b => (if a then 1 else 0) == b
  | .int a, .bl b => a == (if b then 1 else 0)
  | .str a, .str b => a == b
  | .tup a, .tup b => peqL a b
  | .fl a, .fl b => peqL a b
  | _, _ => false
def peqL : List PV → List PV → Bool
  | [], [] => true
  | x :: xs, y :: ys => peq x y && peqL xs ys
  | _, _ => false
end
def eqS (S : Store) (x y : PV) : Option Bool :=
  match dataOf S depthL x, dataOf S depthL y with
  | some a, some b => some (peq a b)
  | _, _ => none
def numOf : PV → Option Int
  | .int i => some i
  | .bl b => some (if b then 1 else 0)
  | _ => none
mutual
/-- <: of ints, texts, tuples of these -/
def plt : PV → PV → Option Bool
  | .int a, .int b => some (decide (a < b))
  | .str a, .str b => some (decide (a < b))
  | .tup a, .tup b => pltL a b
  | .fl a, .fl b => pltL a b
  | _, _ => none
def pltL : List PV → List PV → Option Bool
  | [], [] => some false
  | [], _ :: _ => some true
  | _ :: _, [] => some false
  | x :: xs, y :: ys => if peq x y then pltL xs ys else plt x y
end
def ixN (n : Nat) (i : Int) : Option Nat := if 0 ≤ i then (if i < n then some i.toNat else none) else if -(n : Int) ≤ i then some (i + n).toNat else none
def atI {α : Type} (xs : List α) (i : Int) : Option α := (ixN xs.length i).bind fun j => xs[j]?
def sIx (n d : Nat) : Option Int → Nat
  | none => d
  | some v => if v < 0 then (v + n).toNat else min v.toNat n
def cutL {α : Type} (xs : List α) (lo hi : Option Int) : List α := (xs.drop (sIx xs.length 0 lo)).take (sIx xs.length xs.length hi - sIx xs.length 0 lo)
def dGet (S : Store) (k : PV) : List (PV × PV) → Option (Option PV)
  | [] => some none
  | (a, v) :: r => match eqS S a k with
    | some true => some (some v)
    | some false => dGet S k r
    | none => none
def dPut (S : Store) (k v : PV) : List (PV × PV) → Option (List (PV × PV))
  | [] => some [(k, v)]
  | (a, w) :: r => match eqS S a k with
    | some true => some ((a, v) :: r)
    | some false => (dPut S k v r).map ((a, w) :: ·)
    | none => none
def dDel (S : Store) (k : PV) : List (PV × PV) → Option (List (PV × PV))
  | [] => none
  | (a, w) :: r => match eqS S a k with
    | some true => some r
    | some false => (dDel S k r).map ((a, w) :: ·)
    | none => none
def lift {α : Type} (o : Option α) (S : Store) : R α := match o with
  | some a => .ok a S
  | none => .bad
def truthy (S : Store) : PV → Option Bool
  | .non => some false
  | .bl b => some b
  | .int i => some (i != 0)
  | .str s => some (!s.isEmpty)
  | .tup l => some (!l.isEmpty)
  | .fl l => some (!l.isEmpty)
  | .loc n => match S[n]? with
    | some (.lst l) => some (!l.isEmpty)
    | some (.dct l) => some (!l.isEmpty)
    | _ => none
  | .exc .. => none
  | .scr .. => none

def mulOk (i j : Int) : Bool := (i.natAbs < 2 ^ 64) || (j.natAbs < 2 ^ 64) || (i.natAbs < 2 ^ 4000 && j.natAbs < 2 ^ 4000)
def addL (m : Bool) (x y : PV) (S : Store) : R PV := match lstOf S x, lstOf S y with
  | some a, some b => newList m (a ++ b) S
  | _, _ => .bad
def mulL (m : Bool) (x : PV) (k : Int) (S : Store) : R PV := match lstOf S x with
  | some a => if a.length * k.toNat ≤ sizeL ∧ k < 2 ^ 62 ∧ -(2 ^ 62) < k then newList m (List.replicate k.toNat a).flatten S else .bad
  | none => .bad
def binop (m : Bool) (o : Op2) (x y : PV) (S : Store) : R PV :=
  match o, x, y with
  | .add, .int i, .int j => .ok (.int (i + j)) S
  | .sub, .int i, .int j => .ok (.int (i - j)) S
  | .mul, .int i, .int j => if mulOk i j then .ok (.int (i * j)) S else .bad
  | .fdiv, .int i, .int j => if 0 < j ∧ j < 1073741824 then .ok (.int (i / j)) S else .bad
  | .mod, .int i, .int j => if 0 < j then .ok (.int (i % j)) S else .bad
  | .pow, .int i, .int j => if 0 ≤ j ∧ j ≤ 1000 ∧ i.natAbs < 2 ^ 64 then .ok (.int (i ^ j.toNat)) S else .bad
  | .add, .str a, .str b => if a.length + b.length ≤ sizeL then .ok (.str (a ++ b)) S else .bad
  | .add, .tup a, .tup b => newTup (a ++ b) S
  | .mul, .int .., _ => .bad
  | .add, x, y => addL m x y S
  | .mul, x, .int k => mulL m x k S
  | _, _, _ => .bad
def isPre : List Nat → List Nat → Bool
  | [], _ => true
  | _, [] => false
  | a :: l, b :: r => a == b && isPre l r
/-- x in l, by == -/
def inSeq (S : Store) (x : PV) (l : List PV) : Option Bool := match dataOf S depthL x, l.mapM (dataOf S depthL) with
  | some d, some ds => some (ds.any fun y => peq y d)
  | _, _ => none
def flatP : PV → Bool
  | .non => true
  | .bl _ => true
  | .int _ => true
  | .str _ => true
  | _ => false
def inOp (x y : PV) (S : Store) : Option Bool := match y with
  | .str b => match x with
    | .str [c] => some (decide (c ∈ b))
    | _ => none
  | .loc n => match S[n]? with
    | some (.lst l) => inSeq S x l
    | some (.dct l) => inSeq S x (l.map Prod.fst)
    | _ => none
  | .tup l => if flatP x && l.all flatP then some (l.any fun y => peq y x) else none
  | .fl l => inSeq S x l
  | _ => none
def isOp (x y : PV) : Option Bool := match y with
  | .non => some (match x with | .non => true | _ => false)
  | .bl b => match x with | .bl c => some (c == b) | _ => none
  | _ => none
def numCmp (fi : Int → Int → Bool) (fs : List Nat → List Nat → Bool) (x y : PV) : Option Bool := match x, y with
  | .int i, .int j => some (fi i j)
  | .str i, .str j => some (fs i j)
  | _, _ => none
def cmpop (o : Cp) (x y : PV) (S : Store) : Option Bool :=
  match o with
  | .eq => eqS S x y
  | .ne => (eqS S x y).map (!·)
  | .lt => numCmp (fun i j => decide (i < j)) (fun i j => decide (i < j)) x y
  | .gt => numCmp (fun i j => decide (j < i)) (fun i j => decide (j < i)) x y
  | .le => numCmp (fun i j => decide (i ≤ j)) (fun i j => decide (i ≤ j)) x y
  | .ge => numCmp (fun i j => decide (j ≤ i)) (fun i j => decide (j ≤ i)) x y
  | .is_ => isOp x y
  | .isn => (isOp x y).map (!·)
  | .in_ => inOp x y S
  | .nin => (inOp x y S).map (!·)
def getIx (x i : PV) (S : Store) : R PV :=
  match x, i with
  | .str s, .int k => (lift (atI s k) S).bind fun c S => .ok (.str [c]) S
  | .tup l, .int k => lift (atI l k) S
  | .fl l, .int k => lift (atI l k) S
  | .loc n, k => match S[n]? with
    | some (.lst l) => match k with
      | .int k => lift (atI l k) S
      | _ => .bad
    | some (.dct l) => match dGet S k l with
      | some (some v) => .ok v S
      | _ => .bad
    | _ => .bad
  | _, _ => .bad
def setIx (x i v : PV) (S : Store) : R Unit :=
  match x with
  | .loc n => match S[n]? with
    | some (.lst l) => match i with
      | .int k => match ixN l.length k with
        | some j => .ok () (S.set n (.lst (l.set j v)))
        | none => .bad
      | _ => .bad
    | some (.dct l) => match dPut S i v l with
      | some l' => if l.length < sizeL then .ok () (S.set n (.dct l')) else .bad
      | none => .bad
    | _ => .bad
  | _ => .bad
def partOf : PV → Option Int
  | .int i => some i
  | _ => none
def slice (m : Bool) (x : PV) (lo hi : Option Int) (S : Store) : R PV :=
  match x with
  | .scr l => newList m (cutL l lo hi) S
  | .str s => .ok (.str (cutL s lo hi)) S
  | .tup l => .ok (.tup (cutL l lo hi)) S
  | x => match lstOf S x with
    | some l => newList m (cutL l lo hi) S
    | none => .bad
def revOf (m : Bool) (x : PV) (S : Store) : R PV :=
  match x with
  | .str _ => .bad
  | .tup l => .ok (.tup l.reverse) S
  | x => match lstOf S x with
    | some l => newList m l.reverse S
    | none => .bad
def insSort (lt : PV → PV → Option Bool) (x : PV) : List PV → Option (List PV)
  | [] => some [x]
  | y :: r => match lt x y with
    | some true => some (x :: y :: r)
    | some false => (insSort lt x r).map (y :: ·)
    | none => none
/-- sorted, from the right: stable -/
def psort : List PV → Option (List PV)
  | [] => some []
  | x :: r => match psort r with
    | some l => insLeft x l
    | none => none
where
  insLeft (x : PV) : List PV → Option (List PV)
    | [] => some [x]
    | y :: r => match plt y x with
      | some true => (insLeft x r).map (y :: ·)
      | some false => some (x :: y :: r)
      | none => none
def dedup (l : List PV) : List PV := l.foldl (fun acc x => if acc.any (fun y => peq y x) then acc else acc ++ [x]) []
def bools : List PV → Option (List Bool)
  | [] => some []
  | .bl b :: r => (bools r).map (b :: ·)
  | _ => none
def intsOf : List PV → Option (List Int)
  | [] => some []
  | .int i :: r => (intsOf r).map (i :: ·)
  | _ => none
def minOf : List PV → Option PV
  | [] => none
  | [x] => some x
  | x :: r => match minOf r with
    | some y => match plt y x with
      | some true => some y
      | some false => some x
      | none => none
    | none => none
def maxOf : List PV → Option PV
  | [] => none
  | [x] => some x
  | x :: r => match maxOf r with
    | some y => match plt x y with
      | some true => some y
      | some false => some x
      | none => none
    | none => none
def isIns (x : Int) : List Int → List Int
  | [] => [x]
  | y :: r => if x ≤ y then x :: y :: r else y :: isIns x r
def isort : List Int → List Int
  | [] => []
  | x :: r => isIns x (isort r)
/-- pairs of small numbers -/
def pairLim : Int := 1048576
def pairsOf : List PV → Option (List (Int × Int))
  | [] => some []
  | .tup [.int i, .int j] :: r => if 0 ≤ i ∧ i < pairLim ∧ 0 ≤ j ∧ j < pairLim then (pairsOf r).map ((i, j) :: ·) else none
  | _ => none
def pairV (p : Int × Int) : PV := .tup [.int p.1, .int p.2]
def pcode (p : Int × Int) : Int := p.1 * pairLim + p.2
def isIns2 (x : Int × Int) : List (Int × Int) → List (Int × Int)
  | [] => [x]
  | y :: r => if pcode x ≤ pcode y then x :: y :: r else y :: isIns2 x r
def psort2 : List (Int × Int) → List (Int × Int)
  | [] => []
  | x :: r => isIns2 x (psort2 r)
def digits (n : Nat) : List Nat := (Nat.toDigits 10 n).map Char.toNat
def intText (i : Int) : List Nat := if i < 0 then 45 :: digits i.natAbs else digits i.natAbs
def joinL (sep : List Nat) : List (List Nat) → List Nat
  | [] => []
  | [x] => x
  | x :: r => x ++ sep ++ joinL sep r
mutual
/-- a text that tells plain data -/
def preprF : PV → List Nat
  | .non => [78, 111, 110, 101]
  | .bl true => [84, 114, 117, 101]
  | .bl false => [70, 97, 108, 115, 101]
  | .int i => intText i
  | .str s => [39] ++ s ++ [39]
  | .tup [] => [40, 41]
  | .tup [x] => [40] ++ preprF x ++ [44, 41]
  | .tup l => [40] ++ preprL l ++ [41]
  | .fl l => [91] ++ preprL l ++ [93]
  | _ => []
def preprL : List PV → List Nat
  | [] => []
  | [x] => preprF x
  | x :: r => preprF x ++ [44, 32] ++ preprL r
end
def splitOn1 (c : Nat) : List Nat → List (List Nat)
  | [] => [[]]
  | a :: r => if a = c then [] :: splitOn1 c r else match splitOn1 c r with
    | [] => [[a]]
    | w :: ws => (a :: w) :: ws
/-- split by a text, from the left -/
def splitBy (sep : List Nat) : Nat → List Nat → List Nat → List (List Nat)
  | 0, acc, _ => [acc.reverse]
  | _ + 1, acc, [] => [acc.reverse]
  | n + 1, acc, a :: r => if isPre sep (a :: r) then acc.reverse :: splitBy sep n [] ((a :: r).drop sep.length) else splitBy sep n (a :: acc) r
def strsOf : List PV → Option (List (List Nat))
  | [] => some []
  | .str s :: r => (strsOf r).map (s :: ·)
  | _ => none
def callB (f : Bi) (m : Bool) (xs : List PV) (S : Store) : R PV :=
  match f, xs with
  | .len, [.str s] => .ok (.int s.length) S
  | .len, [.loc n] => match S[n]? with
    | some (.lst l) => .ok (.int l.length) S
    | some (.dct l) => .ok (.int l.length) S
    | _ => .bad
  | .len, [x] => (lift (seqOf S x) S).bind fun l S => .ok (.int l.length) S
  | .tuple, [x] => (lift (seqOf S x) S).bind fun l S => .ok (.tup l) S
  | .list, [x] => (lift (seqOf S x) S).bind fun l S => newList m l S
  | .abs, [.int i] => .ok (.int (if i < 0 then -i else i)) S
  | .int, [.int i] => .ok (.int i) S
  | .int, [.bl b] => .ok (.int (if b then 1 else 0)) S
  | .all, [x] => (lift ((lstOf S x).bind bools) S).bind fun l S => .ok (.bl (l.all id)) S
  | .any, [x] => (lift ((lstOf S x).bind bools) S).bind fun l S => .ok (.bl (l.any id)) S
  | .sum, [x] => (lift ((lstOf S x).bind intsOf) S).bind fun l S => .ok (.int l.sum) S
  | .max, [x] => (lift ((seqOf S x).bind maxOf) S)
  | .min, [x] => (lift ((seqOf S x).bind minOf) S)
  | .max2, [.int i, .int j] => .ok (.int (if j > i then j else i)) S
  | .min2, [.int i, .int j] => .ok (.int (if j < i then j else i)) S
  | .sorted, [x] => match (lstOf S x).bind pairsOf with
    | some (p :: l) => if (p :: l).length < 64 then newList m ((psort2 (p :: l)).map pairV) S else .bad
    | _ => (lift ((lstOf S x).bind intsOf) S).bind fun l S => if l.length < 64 then newList m ((isort l).map .int) S else .bad
  | .lenset, [x] => (lift ((seqOf S x).bind (·.mapM (dataOf S depthL))) S).bind fun l S => .ok (.int (dedup l).length) S
  | .sortset, [x] => (lift (((seqOf S x).bind (·.mapM (dataOf S depthL))).bind (fun l => psort (dedup l))) S).bind fun l S => newList m l S
  | .str, [.int i] => if i.natAbs < 2 ^ 1900 then .ok (.str (intText i)) S else .bad
  | .str, [.str s] => .ok (.str s) S
  | .repr, [x] => (lift (dataOf S depthL x) S).bind fun d S => .ok (.str (preprF d)) S
  | .dict, [.loc n] => match S[n]? with
    | some (.dct l) => alloc (.dct l) S
    | _ => .bad
  | .divmod, [.int i, .int j] => if 0 < j ∧ j < 1073741824 then .ok (.tup [.int (i / j), .int (i % j)]) S else .bad
  | _, _ => .bad
def findIx (S : Store) (x : PV) : Nat → List PV → Option Nat
  | _, [] => none
  | n, y :: r => match eqS S y x with
    | some true => some n
    | some false => findIx S x (n + 1) r
    | none => none
def findD (d : PV) : Nat → List PV → Option Nat
  | _, [] => none
  | n, y :: r => if peq y d then some n else findD d (n + 1) r
def countL (S : Store) (x : PV) : List PV → Option Nat
  | [] => some 0
  | y :: r => match eqS S y x, countL S x r with
    | some true, some n => some (n + 1)
    | some false, some n => some n
    | _, _ => none
def findText (x : List Nat) : Nat → List Nat → Int
  | n, [] => if x.isEmpty then n else -1
  | n, b :: r => if isPre x (b :: r) then n else findText x (n + 1) r
def dPutAll (S : Store) : List (PV × PV) → List (PV × PV) → Option (List (PV × PV))
  | [], d => some d
  | (k, v) :: r, d => (dPut S k v d).bind (dPutAll S r)
def insAt {α : Type} (l : List α) (k : Int) (x : α) : List α :=
  let j := if k < 0 then (k + l.length).toNat else min k.toNat l.length
  l.take j ++ [x] ++ l.drop j
def callM (f : Bm) (m : Bool) (o : PV) (xs : List PV) (S : Store) : R PV :=
  match f, o, xs with
  | .append, .loc n, [v] => match S[n]? with
    | some (.lst l) => if l.length < sizeL then .ok .non (S.set n (.lst (l ++ [v]))) else .bad
    | _ => .bad
  | .pop, .loc n, [] => match S[n]? with
    | some (.lst l) => match l.getLast? with
      | some v => .ok v (S.set n (.lst l.dropLast))
      | none => .bad
    | _ => .bad
  | .popAt, .loc n, [k] => match S[n]? with
    | some (.lst l) => match k with
      | .int k => match ixN l.length k with
        | some j => match l[j]? with
          | some v => .ok v (S.set n (.lst (l.eraseIdx j)))
          | none => .bad
        | none => .bad
      | _ => .bad
    | some (.dct l) => match dGet S k l, dDel S k l with
      | some (some v), some l' => .ok v (S.set n (.dct l'))
      | _, _ => .bad
    | _ => .bad
  | .insert, .loc n, [.int k, v] => match S[n]? with
    | some (.lst l) => if l.length < sizeL ∧ k < 2 ^ 62 ∧ 0 ≤ k then .ok .non (S.set n (.lst (l.take k.toNat ++ [v] ++ l.drop k.toNat))) else .bad
    | _ => .bad
  | .remove, .loc n, [v] => match S[n]? with
    | some (.lst l) => match findIx S v 0 l with
      | some j => .ok .non (S.set n (.lst (l.eraseIdx j)))
      | none => .bad
    | _ => .bad
  | .extend, .loc n, [v] => match S[n]?, lstOf S v with
    | some (.lst l), some r => if l.length + r.length ≤ sizeL then .ok .non (S.set n (.lst (l ++ r))) else .bad
    | _, _ => .bad
  | .reverse, .loc n, [] => match S[n]? with
    | some (.lst l) => .ok .non (S.set n (.lst l.reverse))
    | _ => .bad
  | .clear, .loc n, [] => match S[n]? with
    | some (.lst _) => .ok .non (S.set n (.lst []))
    | _ => .bad
  | .index, o, [v] => match (lstOf S o).bind (·.mapM (dataOf S depthL)), dataOf S depthL v with
    | some ds, some d => match findD d 0 ds with
      | some j => .ok (.int j) S
      | none => .bad
    | _, _ => .bad
  | .count, .str a, [.str b] => .ok (.int ((splitBy b (a.length + 1) [] a).length - 1)) S
  | .count, o, [v] => match seqOf S o with
    | some l => match countL S v l with
      | some j => .ok (.int j) S
      | none => .bad
    | none => .bad
  | .get, .loc n, [k] => match S[n]? with
    | some (.dct l) => match dGet S k l with
      | some o => .ok (o.getD .non) S
      | none => .bad
    | _ => .bad
  | .get2, .loc n, [k, d] => match S[n]? with
    | some (.dct l) => match dGet S k l with
      | some o => .ok (o.getD d) S
      | none => .bad
    | _ => .bad
  | .join, .str sep, [x] => match (seqOf S x).bind strsOf with
    | some l => .ok (.str (joinL sep l)) S
    | none => .bad
  | .split, .str a, [.str sep] => if sep.isEmpty then .bad else newList m ((splitBy sep (a.length + 1) [] a).map .str) S
  | .strip1, .str a, [.str cs] => .ok (.str ((a.dropWhile (fun c => cs.contains c)).reverse.dropWhile (fun c => cs.contains c)).reverse) S
  | .replace, .str a, [.str b, .str c] => if b.isEmpty then .bad else .ok (.str (joinL c (splitBy b (a.length + 1) [] a))) S
  | .find, .str a, [.str b] => .ok (.int (findText b 0 a)) S
  | .update, .loc n, [.loc k] => match S[n]?, S[k]? with
    | some (.dct l), some (.dct r) => match dPutAll S r l with
      | some d => .ok .non (S.set n (.dct d))
      | none => .bad
    | _, _ => .bad
  | _, _, _ => .bad

/-- is the receiver of a kind that has the method? (looked at ahead of the arguments) -/
def bmPre (f : Bm) (S : Store) (x : PV) : Option Unit := match f with
  | .append | .pop | .popAt | .insert | .remove | .index | .count | .extend | .reverse | .clear => (lstOf S x).map fun _ => ()
  | _ => some ()

/-! ### a program -/
structure Def where
  np : Nat
  ns : Nat
  gc : Nat
  body : List MS
structure Prog where
  fn : Nat → Option Def
  meth : Nat → Nat → Option Nat
  ini : Nat → Option Nat
  base : Nat → Nat
  flds : Nat → List Nat
  glb : Nat → PV
def hasTy (P : Prog) (S : Store) (x : PV) : Ty → Bool
  | .bool => match x with | .bl _ => true | _ => false
  | .int => match x with | .bl _ => true | .int _ => true | _ => false
  | .str => match x with | .str _ => true | _ => false
  | .tuple => match x with | .tup _ => true | _ => false
  | .list => match x with
    | .fl _ => true
    | .loc n => match S[n]? with | some (.lst _) => true | _ => false
    | _ => false
  | .own c => match x with
    | .exc d _ => c == d
    | .loc n => match S[n]? with | some (.ins d _) => c == d | _ => false
    | _ => false
  | .base b => match x with
    | .exc d _ => b == P.base d
    | _ => false

inductive Fl where
  | nx (e : Env) | rt (v : PV) | bk (e : Env) | ct (e : Env)
/-- what is walked: the items, and lists of the store that must stay as they are meanwhile -/
structure Its where
  xs : List PV
  w : List (Nat × Cell)
def Its.ok (i : Its) (S : Store) : Bool := i.w.all fun p => decide (S[p.1]? = some p.2)
def wOf (S : Store) : PV → List (Nat × Cell)
  | .loc n => match S[n]? with
    | some c => [(n, c)]
    | none => []
  | _ => []
def rangeL (lo : Int) (n : Nat) : List PV := (List.range n).map fun (k : Nat) => .int (lo + (k : Int))
def rangeDown (lo : Int) (n : Nat) : List PV := (List.range n).map fun (k : Nat) => .int (lo - (k : Int))
def enumL : Nat → List PV → List PV
  | _, [] => []
  | n, x :: r => .tup [.int n, x] :: enumL (n + 1) r
def zipL2 : List PV → List PV → List PV
  | x :: xs, y :: ys => .tup [x, y] :: zipL2 xs ys
  | _, _ => []
def zipL3 : List PV → List PV → List PV → List PV
  | x :: xs, y :: ys, z :: zs => .tup [x, y, z] :: zipL3 xs ys zs
  | _, _, _ => []
/-- the items of a plain walked value -/
def itemsOf (x : PV) (S : Store) : R Its :=
  match x with
  | .str s => .ok ⟨s.map fun c => .str [c], []⟩ S
  | .loc n => match S[n]? with
    | some (.lst l) => .ok ⟨l, [(n, .lst l)]⟩ S
    | some (.dct l) => .ok ⟨l.map (·.1), [(n, .dct l)]⟩ S
    | _ => .bad
  | .tup l => .ok ⟨l, []⟩ S
  | .fl l => .ok ⟨l, []⟩ S
  | _ => .bad
def bnd62 (i : Int) : Bool := decide (-(2 ^ 62) ≤ i) && decide (i < 2 ^ 62)
def rangeIts (xs : List PV) (S : Store) : R Its :=
  match xs with
  | [.int j] => if bnd62 j then .ok ⟨rangeL 0 j.toNat, []⟩ S else .bad
  | [.int i, .int j] => if bnd62 i && bnd62 j then .ok ⟨rangeL i (j - i).toNat, []⟩ S else .bad
  | [.int i, .int j, .int (-1)] => if bnd62 i && bnd62 j then .ok ⟨rangeDown i (i - j).toNat, []⟩ S else .bad
  | _ => .bad
def forL (w : Store → Bool) (body : PV → Env → Store → R Fl) : List PV → Env → Store → R Fl
  | [], env, S => if w S then .ok (.nx env) S else .bad
  | x :: xs, env, S => if w S then match body x env S with
      | .ok (.nx env') S' => forL w body xs env' S'
      | .ok (.ct env') S' => forL w body xs env' S'
      | .ok (.bk env') S' => .ok (.nx env') S'
      | .ok (.rt v) S' => .ok (.rt v) S'
      | .ex e S' => .ex e S'
      | .bad => .bad
    else .bad
/-- a comprehension's turns: each gives a row of results -/
def compL (w : Store → Bool) (body : PV → Store → R (List PV)) : List PV → Store → R (List PV)
  | [], S => if w S then .ok [] S else .bad
  | x :: xs, S => if w S then (body x S).bind fun a S => (compL w body xs S).bind fun r S => .ok (a ++ r) S else .bad
def whileL (c : Env → Store → R Bool) (body : Env → Store → R Fl) : Nat → Env → Store → R Fl
  | 0, _, _ => .bad
  | n + 1, env, S => match c env S with
    | .ok false S' => .ok (.nx env) S'
    | .ok true S' => match body env S' with
      | .ok (.nx env') S'' => whileL c body n env' S''
      | .ok (.ct env') S'' => whileL c body n env' S''
      | .ok (.bk env') S'' => .ok (.nx env') S''
      | .ok (.rt v) S'' => .ok (.rt v) S''
      | .ex e S'' => .ex e S''
      | .bad => .bad
    | .ex e S' => .ex e S'
    | .bad => .bad
def whileFuel : Nat := 1000000
def wipeE (env : Env) : List Nat → Env
  | [] => env
  | v :: vs => (wipeE env vs).set v none
def dPairs (S : Store) : List PV → List PV → Option (List (PV × PV))
  | [], [] => some []
  | k :: ks, v :: vs => (dPairs S ks vs).map ((k, v) :: ·)
  | _, _ => none
def mkDict (kvs : List (PV × PV)) (S : Store) : R PV := match dPutAll S kvs [] with
  | some d => alloc (.dct d) S
  | none => .bad
def permArgs (vs : List PV) (perm : List Nat) (dfl : List PV) : List PV := perm.map fun k => (vs ++ dfl).getD k .non
def evB (r : R PV) : R Bool := r.bind fun v S => lift (truthy S v) S
def tstEach (f : ME → Env → Store → R PV) (env : Env) : List ME → Store → R Bool
  | [], S => .ok true S
  | c :: r, S => (evB (f c env S)).bind fun b S => if b then tstEach f env r S else .ok false S
def strOk (v : PV) : Option (List Nat) := match v with
  | .str s => some s
  | .int i => some (intText i)
  | _ => none

def getVar (env : Env) (i : Nat) (S : Store) : R PV := match env[i]? with
  | some (some v) => .ok v S
  | _ => .bad
def negV (x : PV) (S : Store) : R PV := match x with
  | .int i => .ok (.int (-i)) S
  | _ => .bad
def dctV (xs ys : List PV) (S : Store) : R PV := match dPairs S xs ys with
  | some kvs => mkDict kvs S
  | none => .bad
/-- which class the instance is of -/
def clsOf (x : PV) (S : Store) : Option Nat := match x with
  | .loc k => match S[k]? with
    | some (.ins c _) => some c
    | _ => none
  | _ => none
def methV (P : Prog) (C : Nat → List PV → Store → R PV) (n : Nat) (perm : List Nat) (dfl : List PV) (x : PV) (xs : List PV) (S : Store) : R PV := match clsOf x S with
  | some c => match P.meth c n with
    | some f => C f (permArgs (x :: xs) perm dfl) S
    | none => .bad
  | none => .bad
def isOwnT : Ty → Bool
  | .own _ => true
  | .base _ => true
  | _ => false
def isiV (P : Prog) (ts : List Ty) (x : PV) (S : Store) : R PV := match x with
  | .scr _ => .bad
  | .exc c l => if ts.all isOwnT && P.base c != 0 then .ok (.bl (ts.any (hasTy P S (.exc c l)))) S else .bad
  | x => .ok (.bl (ts.any (hasTy P S x))) S
def fldV (P : Prog) (n : Nat) (x : PV) (S : Store) : R PV := match x with
  | .loc k => match S[k]? with
    | some (.ins _ fs) => lift (fs.lookup n) S
    | _ => .bad
  | .exc c vs => if P.base c = 0 then .bad else lift (((P.flds c).zip vs).lookup n) S
  | _ => .bad
def newV (P : Prog) (C : Nat → List PV → Store → R PV) (c : Nat) (perm : List Nat) (dfl : List PV) (xs : List PV) (S : Store) : R PV := match P.ini c with
  | some f => (C f (permArgs (.loc S.length :: xs) perm dfl) (S ++ [.ins c []])).bind fun _ S' => .ok (.loc S.length) S'
  | none => .bad
def fstrV (xs : List PV) (S : Store) : R PV := match xs.mapM strOk with
  | some ss => .ok (.str ss.flatten) S
  | none => .bad
def optI (x : PV) (S : Store) : R (Option Int) := match x with
  | .int i => .ok (some i) S
  | _ => .bad
def enuV (x : PV) (S : Store) : R Its := match seqOf S x with
  | some l => .ok ⟨enumL 0 l, wOf S x⟩ S
  | none => .bad
def zip2V (x y : PV) (S : Store) : R Its := match x, y with
  | .tup a, .tup b => .ok ⟨zipL2 a b, []⟩ S
  | x, y => match lstOf S x, lstOf S y with
    | some a, some b => .ok ⟨zipL2 a b, wOf S x ++ wOf S y⟩ S
    | _, _ => .bad
def enzV (x y : PV) (S : Store) : R Its := match x, y with
  | .tup a, .tup b => .ok ⟨enumL 0 (zipL2 a b), []⟩ S
  | _, _ => .bad
def zipV (st : Bool) (xs : List PV) (S : Store) : R Its := match xs with
  | [x, y] => match seqOf S x, seqOf S y with
    | some a, some b => if st && a.length != b.length then .bad else .ok ⟨zipL2 a b, wOf S x ++ wOf S y⟩ S
    | _, _ => .bad
  | [x, y, z] => match seqOf S x, seqOf S y, seqOf S z with
    | some a, some b, some c => if st && (a.length != b.length || a.length != c.length) then .bad else .ok ⟨zipL3 a b c, wOf S x ++ wOf S y ++ wOf S z⟩ S
    | _, _, _ => .bad
  | _ => .bad
def rvdV (x : PV) (S : Store) : R Its := match seqOf S x with
  | some l => .ok ⟨l.reverse, wOf S x⟩ S
  | none => .bad
def valsV (x : PV) (S : Store) : R Its := match x with
  | .loc n => match S[n]? with
    | some (.dct l) => .ok ⟨l.map (·.2), [(n, .dct l)]⟩ S
    | _ => .bad
  | _ => .bad
def itemsV (x : PV) (S : Store) : R Its := match x with
  | .loc n => match S[n]? with
    | some (.dct l) => .ok ⟨l.map fun p => .tup [p.1, p.2], [(n, .dct l)]⟩ S
    | _ => .bad
  | _ => .bad
def putFld (fs : List (Nat × PV)) (n : Nat) (v : PV) : List (Nat × PV) := if (fs.lookup n).isSome then fs.map (fun p => if p.1 = n then (n, v) else p) else fs ++ [(n, v)]
def setFld (n : Nat) (v x : PV) (env : Env) (S : Store) : R Env := match x with
  | .loc k => match S[k]? with
    | some (.ins c fs) => .ok env (S.set k (.ins c (putFld fs n v)))
    | _ => .bad
  | _ => .bad
def cmpV (o : Cp) (x y : PV) (S : Store) : R Bool := lift (cmpop o x y S) S
def augV (o : Op2) (env : Env) (i : Nat) (y : PV) (S : Store) : R Fl := match env[i]? with
  | some (some x) => (binop false o x y S).bind fun z S => .ok (.nx (env.set i (some z))) S
  | _ => .bad
/-- no exception leaves a comprehension -/
def noEx {α : Type} (r : R α) : R α := match r with
  | .ex .. => .bad
  | r => r

section
variable (P : Prog) (C : Nat → List PV → Store → R PV)
mutual
def ev : ME → Env → Store → R PV
  | .var i, env, S => getVar env i S
  | .int i, _, S => .ok (.int i) S
  | .bl b, _, S => .ok (.bl b) S
  | .non, _, S => .ok .non S
  | .str s, _, S => .ok (.str s) S
  | .glb n, _, S => .ok (P.glb n) S
  | .bin m o a b, env, S => (ev a env S).bind fun x S => (ev b env S).bind fun y S => binop m o x y S
  | .neg a, env, S => (ev a env S).bind fun x S => negV x S
  | .cmp o a b, env, S => (ev a env S).bind fun x S => (ev b env S).bind fun y S => (cmpV o x y S).bind fun k S => .ok (.bl k) S
  | .ch2 o p a b c, env, S => (ev a env S).bind fun x S => (ev b env S).bind fun y S => (cmpV o x y S).bind fun k S =>
      if k then (ev c env S).bind fun z S => (cmpV p y z S).bind fun k S => .ok (.bl k) S else .ok (.bl false) S
  | .ch3 o p q a b c d, env, S => (ev a env S).bind fun x S => (ev b env S).bind fun y S => (cmpV o x y S).bind fun k S =>
      if k then (ev c env S).bind fun z S => (cmpV p y z S).bind fun k S =>
        if k then (ev d env S).bind fun u S => (cmpV q z u S).bind fun k S => .ok (.bl k) S else .ok (.bl false) S
      else .ok (.bl false) S
  | .and a b, env, S => (ev a env S).bind fun x S => (lift (truthy S x) S).bind fun k S => if k then ev b env S else .ok x S
  | .or a b, env, S => (ev a env S).bind fun x S => (lift (truthy S x) S).bind fun k S => if k then .ok x S else ev b env S
  | .not a, env, S => (evB (ev a env S)).bind fun k S => .ok (.bl (!k)) S
  | .ite c a b, env, S => (evB (ev c env S)).bind fun k S => if k then ev a env S else ev b env S
  | .tup l, env, S => (evL l env S).bind fun xs S => newTup xs S
  | .lst m l, env, S => (evL l env S).bind fun xs S => newList m xs S
  | .dct ks vs, env, S => (evL ks env S).bind fun xs S => (evL vs env S).bind fun ys S => dctV xs ys S
  | .ix a i, env, S => (ev a env S).bind fun x S => (ev i env S).bind fun y S => getIx x y S
  | .sl m a lo hi, env, S => (ev a env S).bind fun x S => (evO lo env S).bind fun l S => (evO hi env S).bind fun h S => slice m x l h S
  | .rv m a, env, S => (ev a env S).bind fun x S => revOf m x S
  | .call f l perm dfl, env, S => (evL l env S).bind fun xs S => C f (permArgs xs perm dfl) S
  | .b f m l, env, S => (evL l env S).bind fun xs S => callB f m xs S
  | .blist m i, env, S => (evI i env S).bind fun its S => newList m its.xs S
  | .isi a ts, env, S => (ev a env S).bind fun x S => isiV P ts x S
  | .meth o n l perm dfl, env, S => (ev o env S).bind fun x S => (evL l env S).bind fun xs S => methV P C n perm dfl x xs S
  | .bm f m o l, env, S => (ev o env S).bind fun x S => (lift (bmPre f S x) S).bind fun _ S => (evL l env S).bind fun xs S => callM f m x xs S
  | .fld o n, env, S => (ev o env S).bind fun x S => fldV P n x S
  | .new c l perm dfl, env, S => (evL l env S).bind fun xs S => newV P C c perm dfl xs S
  | .lc m own e t i cs, env, S => (evI i env S).bind fun its S =>
      (compL its.ok (fun x S => noEx <| (asgT t x (wipeE env own) S).bind fun env S => (evB (evAnd cs env S)).bind fun k S =>
        if k then (ev e env S).bind fun v S => .ok [v] S else .ok [] S) its.xs S).bind fun r S => newList m r S
  | .lc2 m own e t i cs own2 t2 i2 cs2, env, S => (evI i env S).bind fun its S =>
      (compL its.ok (fun x S => noEx <| (asgT t x (wipeE env own) S).bind fun env S => (evB (evAnd cs env S)).bind fun k S =>
        if k then (evI i2 env S).bind fun its2 S =>
          compL its2.ok (fun x S => noEx <| (asgT t2 x (wipeE env own2) S).bind fun env S => (evB (evAnd cs2 env S)).bind fun k S =>
            if k then (ev e env S).bind fun v S => .ok [v] S else .ok [] S) its2.xs S
        else .ok [] S) its.xs S).bind fun r S => newList m r S
  | .dc own k v t i cs, env, S => (evI i env S).bind fun its S =>
      (compL its.ok (fun x S => noEx <| (asgT t x (wipeE env own) S).bind fun env S => (evB (evAnd cs env S)).bind fun b S =>
        if b then (ev k env S).bind fun a S => (ev v env S).bind fun c S => .ok [.tup [a, c]] S else .ok [] S) its.xs S).bind fun r S =>
      mkDict (r.map fun p => match p with | .tup [a, c] => (a, c) | _ => (.non, .non)) S
  | .fstr l, env, S => (evL l env S).bind fun xs S => fstrV xs S
  | .never, _, _ => .bad
def evL : List ME → Env → Store → R (List PV)
  | [], _, S => .ok [] S
  | e :: r, env, S => (ev e env S).bind fun x S => (evL r env S).bind fun xs S => .ok (x :: xs) S
/-- a clause's tests -/
def evAnd : List ME → Env → Store → R PV
  | [], _, S => .ok (.bl true) S
  | e :: r, env, S => (evB (ev e env S)).bind fun k S => if k then evAnd r env S else .ok (.bl false) S
def evO : Option ME → Env → Store → R (Option Int)
  | none, _, S => .ok none S
  | some e, env, S => (ev e env S).bind fun x S => optI x S
def evI : MI → Env → Store → R Its
  | .ex e, env, S => (ev e env S).bind fun x S => itemsOf x S
  | .rng l, env, S => (evL l env S).bind fun xs S => rangeIts xs S
  | .enu e, env, S => (ev e env S).bind fun x S => enuV x S
  | .zip2 a b, env, S => (ev a env S).bind fun x S => (ev b env S).bind fun y S => zip2V x y S
  | .enz a b, env, S => (ev a env S).bind fun x S => (ev b env S).bind fun y S => enzV x y S
  | .zip l st, env, S => (evL l env S).bind fun xs S => zipV st xs S
  | .rvd e, env, S => (ev e env S).bind fun x S => rvdV x S
  | .vals e, env, S => (ev e env S).bind fun x S => valsV x S
  | .items e, env, S => (ev e env S).bind fun x S => itemsV x S
def asgT : MT → PV → Env → Store → R Env
  | .nm i, v, env, S => .ok (env.set i (some v)) S
  | .tup ts, v, env, S => match seqOf S v with
    | some l => if l.length = ts.length then asgTs ts l env S else .bad
    | none => .bad
  | .sub o i, v, env, S => (ev o env S).bind fun x S => (ev i env S).bind fun y S => (setIx x y v S).bind fun _ S => .ok env S
  | .fld o n, v, env, S => (ev o env S).bind fun x S => setFld n v x env S
  | .star1 a b, v, env, S => match seqOf S v with
    | some (x :: r) => (asgT a x env S).bind fun env S => asgT b (.fl r) env S
    | _ => .bad
def asgTs : List MT → List PV → Env → Store → R Env
  | [], [], env, S => .ok env S
  | t :: ts, v :: vs, env, S => (asgT t v env S).bind fun env S => asgTs ts vs env S
  | _, _, _, _ => .bad
end
mutual
def exS : MS → Env → Store → R Fl
  | .expr e, env, S => (ev P C e env S).bind fun _ S => .ok (.nx env) S
  | .ret e, env, S => (ev P C e env S).bind fun v S => .ok (.rt v) S
  | .asg t e, env, S => (ev P C e env S).bind fun v S => (asgT P C t v env S).bind fun env S => .ok (.nx env) S
  | .aug o i e, env, S => (ev P C e env S).bind fun y S => augV o env i y S
  | .augS o a i e, env, S => (ev P C a env S).bind fun x S => (ev P C i env S).bind fun k S => (getIx x k S).bind fun old S =>
      (ev P C e env S).bind fun y S => (binop false o old y S).bind fun z S => (setIx x k z S).bind fun _ S => .ok (.nx env) S
  | .ite c a b, env, S => (evB (ev P C c env S)).bind fun k S => if k then exL a env S else exL b env S
  | .whl c b, env, S => whileL (fun env S => evB (ev P C c env S)) (fun env S => exL b env S) whileFuel env S
  | .for_ t i b, env, S => (evI P C i env S).bind fun its S =>
      forL its.ok (fun x env S => (asgT P C t x env S).bind fun env S => exL b env S) its.xs env S
  | .brk, env, S => .ok (.bk env) S
  | .cont, env, S => .ok (.ct env) S
  | .pass, env, S => .ok (.nx env) S
  | .raise c l, env, S => (evL P C l env S).bind fun xs S => .ex (.exc c xs) S
  | .try_ w b cs i su, env, S => match exL b env S with
    | .ex e S' => (match e with
      | .exc c _ => if P.base c = 0 then .bad else if cs.any (fun q => if q.1 then decide (q.2 = P.base c) else decide (q.2 = c)) then
          noEx ((exL su ((wipeE env w).set i (some e)) S').bind fun f S => match f with
            | .nx env => .ok (.nx (env.set i none)) S
            | .bk env => .ok (.bk (env.set i none)) S
            | .ct env => .ok (.ct (env.set i none)) S
            | .rt v => .ok (.rt v) S)
        else .ex e S'
      | _ => .bad)
    | r => r
  | .never, _, _ => .bad
def exL : List MS → Env → Store → R Fl
  | [], env, S => .ok (.nx env) S
  | s :: r, env, S => (exS s env S).bind fun f S => match f with
    | .nx env => exL r env S
    | f => .ok f S
end
end

/-! ### calls -/
/-- lists above n become values -/
def frz (S : Store) (n : Nat) : Nat → PV → Option PV
  | 0, _ => none
  | k + 1, .tup l => (l.mapM (frz S n k)).map .tup
  | k + 1, .fl l => (l.mapM (frz S n k)).map .fl
  | k + 1, .loc i => if i < n then some (.loc i) else match S[i]? with
    | some (.lst l) => (l.mapM (frz S n k)).map .fl
    | _ => none
  | _ + 1, .scr _ => none
  | k + 1, .exc c l => (l.mapM (frz S n k)).map (.exc c)
  | _ + 1, v => some v
def frzCell (S : Store) (n : Nat) : Cell → Option Cell
  | .lst l => (l.mapM (frz S n depthL)).map .lst
  | .dct l => (l.mapM fun (p : PV × PV) => match frz S n depthL p.1, frz S n depthL p.2 with | some a, some b => some (a, b) | _, _ => none).map .dct
  | .ins c l => (l.mapM fun (p : Nat × PV) => (frz S n depthL p.2).map (p.1, ·)).map (.ins c)
def frzOld (S1 : Store) (n : Nat) : Store → Store → Option Store
  | [], _ => some []
  | _ :: _, [] => none
  | a :: r, b :: s => if a = b then (frzOld S1 n r s).map (b :: ·) else match frzCell S1 n b, frzOld S1 n r s with
    | some c, some t => some (c :: t)
    | _, _ => none
/-- no place at n or above -/
def oldV (n : Nat) : Nat → PV → Bool
  | 0, _ => false
  | k + 1, .tup l => l.all (oldV n k)
  | k + 1, .fl l => l.all (oldV n k)
  | _ + 1, .loc i => decide (i < n)
  | _ + 1, .scr _ => false
  | _ + 1, .exc .. => false
  | _ + 1, _ => true
/-- behind a call: 0: the store as it is; 1: what is new is let go, what is told of it a value; 2: .. but a told list itself may be changed -/
def gcR (g : Nat) (S0 S1 : Store) (v : PV) : R PV :=
  match g with
  | 0 => .ok v S1
  | 1 => match frzOld S1 S0.length S0 S1, frz S1 S0.length depthL v with
    | some T, some u => .ok u T
    | _, _ => .bad
  | _ => if S1.take S0.length = S0 then match v with
      | .loc i => if i < S0.length then .ok v S0 else match S1[i]? with
        | some (.lst l) => if l.all (oldV S0.length depthL) then .ok (.loc S0.length) (S0 ++ [.lst l]) else .bad
        | _ => .bad
      | v => if oldV S0.length depthL v then .ok v S0 else .bad
    else .bad
def gcE (g : Nat) (S0 S1 : Store) (e : PV) : R PV :=
  match g with
  | 0 => .ex e S1
  | _ => match e with
    | .exc c l => match frzOld S1 S0.length S0 S1, l.mapM (frz S1 S0.length depthL) with
      | some T, some l' => .ex (.exc c l') T
      | _, _ => .bad
    | _ => .bad
def runDef (P : Prog) (C : Nat → List PV → Store → R PV) (d : Def) (args : List PV) (S : Store) : R PV :=
  match exL P C d.body (args.map some ++ List.replicate (d.ns - d.np) none) S with
  | .ok (.rt v) S1 => gcR d.gc S S1 v
  | .ok (.nx _) S1 => gcR d.gc S S1 .non
  | .ex e S1 => gcE d.gc S S1 e
  | _ => .bad
def callN (P : Prog) : Nat → Nat → List PV → Store → R PV
  | 0, _, _, _ => .bad
  | n + 1, f, args, S => match P.fn f with
    | some d => if args.length = d.np then runDef P (callN P n) d args S else .bad
    | none => .bad
end G

namespace G
open PySem PySem.Spec PyProof.Rows L2
abbrev St := L2.St

/-! ### plain values and the abstract heap. B: lists that are being made; M: where the store's cells stand -/
def txtOk (x : Str) : Prop := x.length ≤ sizeLine ∧ ∀ c ∈ x.cps.toList, c < 0x110000
def TupAt (K : PySem.W.Frag) (B M : List Addr) (H : Hp) (a : Addr) (vs : List V) : Prop :=
  (Rd H a (.tup vs) ∧ a ∉ M ∧ a ∉ B) ∨ ∀ H', SqT K H' a vs
def LstAt (B M : List Addr) (H : Hp) (a : Addr) (vs : List V) : Prop := Rd H a (.lst vs) ∧ a ∉ M ∧ a ∉ B
def ScrAt (K : PySem.W.Frag) (B M : List Addr) (H : Hp) (a : Addr) (vs : List V) : Prop :=
  (Rd H a (.lst vs) ∧ a ∉ M ∧ a ∉ B) ∨ ∀ H', SqL K H' a vs
section
variable {K : PySem.W.Frag} {B M B' M' : List Addr} {H H' : Hp} {a : Addr} {vs : List V}
theorem TupAt.sq (h : TupAt K B M H a vs) : SqT K H a vs := by
  rcases h with h | h
  · exact .inl h.1
  · exact h H
theorem LstAt.sq (h : LstAt B M H a vs) : SqL K H a vs := .inl h.1
theorem ScrAt.sq (h : ScrAt K B M H a vs) : SqL K H a vs := by
  rcases h with h | h
  · exact .inl h.1
  · exact h H
end
/-! ### exceptions of own classes -/
/-- an exception that is kept: tracked -/
def xk (a : Addr) (cls : Value) (d : Option Addr) : HO := .ext fun h => ∃ (oe : Obj) (vs : Array Value), h.get? a = some oe ∧ Zc cls d oe ∧ oe.data = .fields vs
/-- own exception classes by number, and their field -/
def clsN : Nat → Str
  | 1 => "NoDove"
  | 2 => "Bare"
  | 3 => "NoStanding"
  | 4 => "Asleep"
  | 5 => "Awake"
  | 6 => "Kept"
  | 7 => "NotSame"
  | 8 => "Barred"
  | 10 => "TooMany"
  | 14 => "NoPeace"
  | 15 => "NoDeed"
  | 16 => "BadDeed"
  | 18 => "BadText"
  | 19 => "Own"
  | 23 => "BadRow"
  | _ => ""
def fldN : Nat → Str
  | 1 => "dove"
  | 2 => "dove"
  | 3 => "number"
  | 4 => "dove"
  | 5 => "dove"
  | 6 => "place"
  | 8 => "what"
  | 10 => "grudges"
  | 15 => "many"
  | 16 => "place"
  | 18 => "text"
  | 19 => "dove"
  | 23 => "number"
  | _ => ""
def clsA (K : PySem.W.Frag) (c : Nat) : Addr := He.ga K (clsN c)
mutual
inductive RV (K : PySem.W.Frag) (B M : List Addr) (H : Hp) : V → PV → Prop
  | non : RV K B M H .non .non
  | bl (b : Bool) : RV K B M H (.bl b) (.bl b)
  | int (i : Int) : RV K B M H (.int i) (.int i)
  | str (x : Str) (h : txtOk x) : RV K B M H (.str x) (.str x.cps.toList)
  | tup (a : Addr) (vs : List V) (l : List PV) (h : TupAt K B M H a vs) (r : RVs K B M H vs l) (hl : l.length ≤ sizeLine) : RV K B M H (.ref a) (.tup l)
  | fl (a : Addr) (vs : List V) (l : List PV) (h : LstAt B M H a vs) (r : RVs K B M H vs l) (hl : l.length ≤ sizeLine) : RV K B M H (.ref a) (.fl l)
  | scr (a : Addr) (vs : List V) (l : List PV) (h : ScrAt K B M H a vs) (r : RVs K B M H vs l) (hl : l.length ≤ sizeLine) : RV K B M H (.ref a) (.scr l)
  | loc (a : Addr) (n : Nat) (h : M[n]? = some a) : RV K B M H (.ref a) (.loc n)
  | exc0 (a : Addr) (c : Nat) (h : H a = some (xk a (.ref (clsA K c)) none)) (hm : a ∉ M) (hb : a ∉ B) : RV K B M H (.ref a) (.exc c [])
  | exc1 (a d : Addr) (c : Nat) (v : V) (p : PV) (h : H a = some (xk a (.ref (clsA K c)) (some d))) (hm : a ∉ M) (hb : a ∉ B) (h2 : H d = some (.xd [(fldN c, v)])) (hm2 : d ∉ M) (hb2 : d ∉ B) (r : RV K B M H v p) : RV K B M H (.ref a) (.exc c [p])
inductive RVs (K : PySem.W.Frag) (B M : List Addr) (H : Hp) : List V → List PV → Prop
  | nil : RVs K B M H [] []
  | cons (v : V) (p : PV) (vs : List V) (ps : List PV) (h : RV K B M H v p) (r : RVs K B M H vs ps) : RVs K B M H (v :: vs) (p :: ps)
end
section
variable {K : PySem.W.Frag} {B M : List Addr} {H : Hp} {v : V} {vs : List V} {p : PV} {l : List PV}
theorem RV.non_inv (h : RV K B M H v .non) : v = .non := by cases h; rfl
theorem RV.bl_inv {b : Bool} (h : RV K B M H v (.bl b)) : v = .bl b := by cases h; rfl
theorem RV.int_inv {i : Int} (h : RV K B M H v (.int i)) : v = .int i := by cases h; rfl
theorem RV.str_inv {s : List Nat} (h : RV K B M H v (.str s)) : ∃ x : Str, v = .str x ∧ s = x.cps.toList ∧ txtOk x := by
  cases h with
  | str x h => exact ⟨x, rfl, rfl, h⟩
theorem RV.tup_inv (h : RV K B M H v (.tup l)) : ∃ a vs, v = .ref a ∧ TupAt K B M H a vs ∧ RVs K B M H vs l ∧ l.length ≤ sizeLine := by
  cases h with
  | tup a vs l h r hl => exact ⟨a, vs, rfl, h, r, hl⟩
theorem RV.scr_inv (h : RV K B M H v (.scr l)) : ∃ a vs, v = .ref a ∧ ScrAt K B M H a vs ∧ RVs K B M H vs l ∧ l.length ≤ sizeLine := by
  cases h with
  | scr a vs l h r hl => exact ⟨a, vs, rfl, h, r, hl⟩
theorem RV.fl_inv (h : RV K B M H v (.fl l)) : ∃ a vs, v = .ref a ∧ LstAt B M H a vs ∧ RVs K B M H vs l ∧ l.length ≤ sizeLine := by
  cases h with
  | fl a vs l h r hl => exact ⟨a, vs, rfl, h, r, hl⟩
theorem RV.loc_inv {n : Nat} (h : RV K B M H v (.loc n)) : ∃ a, v = .ref a ∧ M[n]? = some a := by
  cases h with
  | loc a n h => exact ⟨a, rfl, h⟩
theorem RV.exc_inv {c : Nat} {fs : List PV} (h : RV K B M H v (.exc c fs)) : ∃ a, v = .ref a ∧ a ∉ M ∧ a ∉ B ∧ ((fs = [] ∧ H a = some (xk a (.ref (clsA K c)) none)) ∨
    ∃ d w p, fs = [p] ∧ H a = some (xk a (.ref (clsA K c)) (some d)) ∧ H d = some (.xd [(fldN c, w)]) ∧ d ∉ M ∧ d ∉ B ∧ RV K B M H w p) := by
  cases h with
  | exc0 a c h hm hb => exact ⟨a, rfl, hm, hb, .inl ⟨rfl, h⟩⟩
  | exc1 a d c w p h hm hb h2 hm2 hb2 r => exact ⟨a, rfl, hm, hb, .inr ⟨d, w, p, rfl, h, h2, hm2, hb2, r⟩⟩
theorem RVs.nil_inv (h : RVs K B M H vs []) : vs = [] := by cases h; rfl
theorem RVs.cons_inv (h : RVs K B M H vs (p :: l)) : ∃ v r, vs = v :: r ∧ RV K B M H v p ∧ RVs K B M H r l := by
  cases h with
  | cons v p vs ps h r => exact ⟨v, vs, rfl, h, r⟩
theorem RVs.length (h : RVs K B M H vs l) : vs.length = l.length := by
  induction l generalizing vs with
  | nil => rw [h.nil_inv]; rfl
  | cons p l ih =>
    obtain ⟨v, r, rfl, _, q⟩ := h.cons_inv
    simp [ih q]
theorem RVs.get (h : RVs K B M H vs l) {i : Nat} {p : PV} (e : l[i]? = some p) : ∃ v, vs[i]? = some v ∧ RV K B M H v p := by
  induction l generalizing vs i with
  | nil => simp at e
  | cons q l ih =>
    obtain ⟨v, r, rfl, h1, h2⟩ := h.cons_inv
    cases i with
    | zero => simp at e; subst e; exact ⟨v, by simp, h1⟩
    | succ i =>
      obtain ⟨w, a, b⟩ := ih h2 (i := i) (by simpa using e)
      exact ⟨w, by simpa using a, b⟩
theorem RVs.get' (h : RVs K B M H vs l) {i : Nat} {v : V} (e : vs[i]? = some v) : ∃ p, l[i]? = some p ∧ RV K B M H v p := by
  have hl := h.length
  have hi : i < vs.length := (List.getElem?_eq_some_iff.mp e).1
  have hi' : i < l.length := by omega
  obtain ⟨w, a, b⟩ := h.get (i := i) (p := l[i]) (by simp [hi'])
  rw [e] at a; cases a
  exact ⟨_, by simp [hi'], b⟩
theorem RVs.append {ws : List V} {m : List PV} (h : RVs K B M H vs l) (k : RVs K B M H ws m) : RVs K B M H (vs ++ ws) (l ++ m) := by
  induction l generalizing vs with
  | nil => rw [h.nil_inv]; exact k
  | cons q l ih =>
    obtain ⟨v, r, rfl, h1, h2⟩ := h.cons_inv
    exact .cons _ _ _ _ h1 (ih h2)
theorem RVs.take (n : Nat) (h : RVs K B M H vs l) : RVs K B M H (vs.take n) (l.take n) := by
  induction l generalizing vs n with
  | nil => rw [h.nil_inv]; simp; exact .nil
  | cons q l ih =>
    obtain ⟨v, r, rfl, h1, h2⟩ := h.cons_inv
    cases n with
    | zero => exact .nil
    | succ n => exact .cons _ _ _ _ h1 (ih n h2)
theorem RVs.drop (n : Nat) (h : RVs K B M H vs l) : RVs K B M H (vs.drop n) (l.drop n) := by
  induction l generalizing vs n with
  | nil => rw [h.nil_inv]; simp; exact .nil
  | cons q l ih =>
    obtain ⟨v, r, rfl, h1, h2⟩ := h.cons_inv
    cases n with
    | zero => exact .cons _ _ _ _ h1 h2
    | succ n => exact ih n h2
theorem RVs.reverse (h : RVs K B M H vs l) : RVs K B M H vs.reverse l.reverse := by
  induction l generalizing vs with
  | nil => rw [h.nil_inv]; exact .nil
  | cons q l ih =>
    obtain ⟨v, r, rfl, h1, h2⟩ := h.cons_inv
    rw [List.reverse_cons, List.reverse_cons]
    exact (ih h2).append (.cons _ _ _ _ h1 .nil)
theorem RVs.set {v : V} {p : PV} (i : Nat) (h : RVs K B M H vs l) (k : RV K B M H v p) : RVs K B M H (vs.set i v) (l.set i p) := by
  induction l generalizing vs i with
  | nil => rw [h.nil_inv]; exact .nil
  | cons q l ih =>
    obtain ⟨w, r, rfl, h1, h2⟩ := h.cons_inv
    cases i with
    | zero => exact .cons _ _ _ _ k h2
    | succ i => exact .cons _ _ _ _ h1 (ih i h2)
theorem RVs.eraseIdx (i : Nat) (h : RVs K B M H vs l) : RVs K B M H (vs.eraseIdx i) (l.eraseIdx i) := by
  induction l generalizing vs i with
  | nil => rw [h.nil_inv]; exact .nil
  | cons q l ih =>
    obtain ⟨w, r, rfl, h1, h2⟩ := h.cons_inv
    cases i with
    | zero => exact h2
    | succ i => exact .cons _ _ _ _ h1 (ih i h2)
theorem RVs.dropLast (h : RVs K B M H vs l) : RVs K B M H vs.dropLast l.dropLast := by
  rw [List.dropLast_eq_take, List.dropLast_eq_take, h.length]
  exact h.take _
theorem RVs.flatRep (k : Nat) (h : RVs K B M H vs l) : RVs K B M H (List.replicate k vs).flatten (List.replicate k l).flatten := by
  induction k with
  | zero => exact .nil
  | succ k ih =>
    rw [List.replicate_succ, List.replicate_succ, List.flatten_cons, List.flatten_cons]
    exact h.append ih
end

/-! ### passing on -/
/-- from (B, M, H) to (B', M', H'): what may be changed is in M; B: under way -/
structure Ext (B M : List Addr) (H : Hp) (B' M' : List Addr) (H' : Hp) : Prop where
  pre : M <+: M'
  new : ∀ a, a ∈ M' ∨ a ∈ B' → a ∈ M ∨ a ∈ B ∨ H a = none
  keep : ∀ a o, H a = some o → a ∉ M → a ∉ B → H' a = some o
theorem Ext.refl {B M : List Addr} {H : Hp} : Ext B M H B M H := ⟨List.prefix_refl _, fun _ h => by rcases h with h | h; exact .inl h; exact .inr (.inl h), fun _ _ h _ _ => h⟩
theorem Ext.trans {B M B1 M1 B2 M2 : List Addr} {H H1 H2 : Hp} (a : Ext B M H B1 M1 H1) (b : Ext B1 M1 H1 B2 M2 H2) : Ext B M H B2 M2 H2 := by
  refine ⟨a.pre.trans b.pre, fun x h => ?_, fun x o h hm hb => ?_⟩
  · rcases b.new x h with h | h | h
    · exact a.new x (.inl h)
    · exact a.new x (.inr h)
    · by_cases hm : x ∈ M
      · exact .inl hm
      · by_cases hb : x ∈ B
        · exact .inr (.inl hb)
        · refine .inr (.inr ?_)
          cases q : H x with
          | none => rfl
          | some o => rw [a.keep x o q hm hb] at h; cases h
  · have n : ∀ (p : x ∈ M1 ∨ x ∈ B1), False := fun p => by
      rcases a.new x p with q | q | q
      · exact hm q
      · exact hb q
      · rw [h] at q; cases q
    exact b.keep x o (a.keep x o h hm hb) (fun z => n (.inl z)) (fun z => n (.inr z))
section
variable {K : PySem.W.Frag} {B M B' M' : List Addr} {H H' : Hp} {v : V} {vs : List V} {p : PV} {l : List PV} {a : Addr}
theorem Ext.apart (e : Ext B M H B' M' H') {o : HO} (h : H a = some o) (hm : a ∉ M) (hb : a ∉ B) : H' a = some o ∧ a ∉ M' ∧ a ∉ B' := by
  have n : ∀ (p : a ∈ M' ∨ a ∈ B'), False := fun p => by
    rcases e.new a p with q | q | q
    · exact hm q
    · exact hb q
    · rw [h] at q; cases q
  exact ⟨e.keep a o h hm hb, fun z => n (.inl z), fun z => n (.inr z)⟩
theorem Ext.rd (e : Ext B M H B' M' H') {o : HO} (h : Rd H a o) (hm : a ∉ M) (hb : a ∉ B) : Rd H' a o ∧ a ∉ M' ∧ a ∉ B' := by
  rcases h with h | ⟨u, h⟩
  · have q := e.apart h hm hb; exact ⟨.inl q.1, q.2⟩
  · have q := e.apart h hm hb; exact ⟨.inr ⟨u, q.1⟩, q.2⟩
theorem TupAt.mv (h : TupAt K B M H a vs) (e : Ext B M H B' M' H') : TupAt K B' M' H' a vs := by
  rcases h with ⟨h1, h2, h3⟩ | h
  · exact .inl (e.rd h1 h2 h3)
  · exact .inr h
theorem LstAt.mv (h : LstAt B M H a vs) (e : Ext B M H B' M' H') : LstAt B' M' H' a vs := e.rd h.1 h.2.1 h.2.2
theorem ScrAt.mv (h : ScrAt K B M H a vs) (e : Ext B M H B' M' H') : ScrAt K B' M' H' a vs := by
  rcases h with ⟨h1, h2, h3⟩ | h
  · exact .inl (e.rd h1 h2 h3)
  · exact .inr h
mutual
theorem RV.mv {v : V} {p : PV} (h : RV K B M H v p) (e : Ext B M H B' M' H') : RV K B' M' H' v p := by
  cases h with
  | non => exact .non
  | bl b => exact .bl b
  | int i => exact .int i
  | str x h => exact .str x h
  | tup a vs l h r hl => exact .tup a vs l (h.mv e) (RVs.mv r e) hl
  | fl a vs l h r hl => exact .fl a vs l (h.mv e) (RVs.mv r e) hl
  | scr a vs l h r hl => exact .scr a vs l (h.mv e) (RVs.mv r e) hl
  | loc a n h =>
    refine .loc a n ?_
    obtain ⟨N, q⟩ := e.pre
    rw [← q, List.getElem?_append_left (List.getElem?_eq_some_iff.mp h).1]
    exact h
  | exc0 a c h hm hb => exact .exc0 a c (e.apart h hm hb).1 (e.apart h hm hb).2.1 (e.apart h hm hb).2.2
  | exc1 a d c v p h hm hb h2 hm2 hb2 r => exact .exc1 a d c v p (e.apart h hm hb).1 (e.apart h hm hb).2.1 (e.apart h hm hb).2.2 (e.apart h2 hm2 hb2).1 (e.apart h2 hm2 hb2).2.1 (e.apart h2 hm2 hb2).2.2 (RV.mv r e)
theorem RVs.mv {vs : List V} {l : List PV} (h : RVs K B M H vs l) (e : Ext B M H B' M' H') : RVs K B' M' H' vs l := by
  cases h with
  | nil => exact .nil
  | cons v p vs ps h r => exact .cons v p vs ps (RV.mv h e) (RVs.mv r e)
end
end

/-! ### the store -/
/-- names of what the small syntax numbers -/
structure Nm where
  nm : Nat → Str
  cls : Nat → Addr
def RFs (K : PySem.W.Frag) (G : Nm) (B M : List Addr) (H : Hp) (vs : List (Str × V)) (fs : List (Nat × PV)) : Prop :=
  ∀ n p, fs.lookup n = some p → ∃ v, vs.lookup (G.nm n) = some v ∧ RV K B M H v p
/-- one cell -/
def RC (K : PySem.W.Frag) (G : Nm) (B M : List Addr) (H : Hp) (a : Addr) : Cell → Prop
  | .lst l => ∃ vs, H a = some (.lst vs) ∧ RVs K B M H vs l ∧ l.length ≤ sizeLine
  | .dct _ => False
  | .ins _ _ => False
structure RS (K : PySem.W.Frag) (G : Nm) (B M : List Addr) (H : Hp) (S : Store) : Prop where
  len : M.length = S.length
  nd : M.Nodup
  cell : ∀ (n : Nat) (c : Cell) (a : Addr), S[n]? = some c → M[n]? = some a → RC K G B M H a c
  bsy : ∀ b ∈ B, b ∉ M ∧ ∃ o, H b = some o
section
variable {K : PySem.W.Frag} {G : Nm} {B M B' M' : List Addr} {H H' : Hp} {S : Store} {a p : Addr}
theorem RC.there {c : Cell} (h : RC K G B M H a c) : ∃ o, H a = some o := by
  cases c with
  | lst l => obtain ⟨vs, e, _⟩ := h; exact ⟨_, e⟩
  | dct l => exact False.elim h
  | ins c l => exact False.elim h
theorem RS.there (r : RS K G B M H S) (h : a ∈ M ∨ a ∈ B) : ∃ o, H a = some o := by
  rcases h with h | h
  · obtain ⟨n, hn, e⟩ := List.mem_iff_getElem.mp h
    have hs : n < S.length := by rw [← r.len]; exact hn
    exact (r.cell n S[n] a (by simp [hs]) (by simp [hn, e])).there
  · exact (r.bsy a h).2
theorem RS.free (r : RS K G B M H S) (h : H p = none) : p ∉ M ∧ p ∉ B := by
  constructor <;> intro q
  · obtain ⟨o, e⟩ := r.there (.inl q); rw [h] at e; cases e
  · obtain ⟨o, e⟩ := r.there (.inr q); rw [h] at e; cases e
theorem RC.mv {c : Cell} (h : RC K G B M H a c) (e : Ext B M H B' M' H') (he : H' a = H a) : RC K G B' M' H' a c := by
  cases c with
  | lst l =>
    obtain ⟨vs, q, r, hl⟩ := h
    exact ⟨vs, he.trans q, r.mv e, hl⟩
  | dct l => exact False.elim h
  | ins c l => exact False.elim h
/-- a new object at p that is a value -/
theorem ext_new {o : HO} (h : H p = none) : Ext B M H B M (upd H p o) :=
  ⟨List.prefix_refl _, fun x q => by rcases q with q | q; exact .inl q; exact .inr (.inl q), fun b u e _ _ => by rw [upd_ne (ne_of_none e h)]; exact e⟩
theorem RS.new {o : HO} (r : RS K G B M H S) (h : H p = none) : RS K G B M (upd H p o) S := by
  refine ⟨r.len, r.nd, fun n c a hs hm => ?_, fun b hb => ⟨(r.bsy b hb).1, ?_⟩⟩
  · have q := r.cell n c a hs hm
    obtain ⟨u, e⟩ := q.there
    exact q.mv (ext_new h) (upd_ne (ne_of_none e h))
  · obtain ⟨u, e⟩ := (r.bsy b hb).2
    exact ⟨u, by rw [upd_ne (ne_of_none e h)]; exact e⟩
/-- a new cell -/
theorem ext_alloc {o : HO} (h : H p = none) : Ext B M H B (M ++ [p]) (upd H p o) :=
  ⟨List.prefix_append _ _, fun x q => by
    rcases q with q | q
    · rcases List.mem_append.mp q with q | q
      · exact .inl q
      · rw [List.mem_singleton.mp q]; exact .inr (.inr h)
    · exact .inr (.inl q), fun b u e _ _ => by rw [upd_ne (ne_of_none e h)]; exact e⟩
theorem RS.alloc {o : HO} {c : Cell} (r : RS K G B M H S) (h : H p = none) (hc : RC K G B (M ++ [p]) (upd H p o) p c) : RS K G B (M ++ [p]) (upd H p o) (S ++ [c]) := by
  have hf := r.free h
  refine ⟨by simp [r.len], ?_, fun n d a hs hm => ?_, fun b hb => ⟨?_, ?_⟩⟩
  · rw [List.nodup_append]
    refine ⟨r.nd, by simp, fun x hx y hy => ?_⟩
    rw [List.mem_singleton.mp hy]
    intro e; rw [e] at hx; exact hf.1 hx
  · by_cases hn : n < S.length
    · rw [List.getElem?_append_left hn] at hs
      rw [List.getElem?_append_left (by rw [r.len]; exact hn)] at hm
      have q := r.cell n d a hs hm
      obtain ⟨u, e⟩ := q.there
      exact q.mv (ext_alloc h) (upd_ne (ne_of_none e h))
    · have hn' : n = S.length := by
        have := (List.getElem?_eq_some_iff.mp hs).1
        simp at this; omega
      subst hn'
      have e1 : d = c := by simpa using hs.symm
      have e2 : a = p := by rw [← r.len] at hm; simpa using hm.symm
      subst e1 e2
      exact hc
  · intro q
    rcases List.mem_append.mp q with q | q
    · exact (r.bsy b hb).1 q
    · rw [List.mem_singleton.mp q] at hb; exact hf.2 hb
  · obtain ⟨u, e⟩ := (r.bsy b hb).2
    exact ⟨u, by rw [upd_ne (ne_of_none e h)]; exact e⟩
/-- a cell is changed -/
theorem ext_set {o : HO} {n : Nat} (hm : M[n]? = some a) : Ext B M H B M (upd H a o) :=
  ⟨List.prefix_refl _, fun x q => by rcases q with q | q; exact .inl q; exact .inr (.inl q), fun b u e h _ => by
    rw [upd_ne (fun z => h (by rw [z]; exact List.mem_of_getElem? hm))]; exact e⟩
theorem nodup_at {M : List Addr} (nd : M.Nodup) {i j : Nat} {a : Addr} (h : M[i]? = some a) (k : M[j]? = some a) : i = j := by
  obtain ⟨h1, e1⟩ := List.getElem?_eq_some_iff.mp h
  obtain ⟨h2, e2⟩ := List.getElem?_eq_some_iff.mp k
  exact (List.getElem_inj nd).mp (e1.trans e2.symm)
theorem RS.set {o : HO} {c : Cell} {n : Nat} (r : RS K G B M H S) (hm : M[n]? = some a) (hc : RC K G B M (upd H a o) a c) : RS K G B M (upd H a o) (S.set n c) := by
  refine ⟨by simp [r.len], r.nd, fun k d b hs hb => ?_, fun b hb => ⟨(r.bsy b hb).1, ?_⟩⟩
  · by_cases hk : k = n
    · subst hk
      rw [hm] at hb; cases hb
      have hl : k < S.length := by have := (List.getElem?_eq_some_iff.mp hm).1; rw [← r.len]; exact this
      rw [List.getElem?_set_self hl] at hs
      cases hs
      exact hc
    · rw [List.getElem?_set_ne (Ne.symm hk)] at hs
      have q := r.cell k d b hs hb
      have hne : b ≠ a := fun e => hk (nodup_at r.nd hb (e ▸ hm))
      exact q.mv (ext_set hm) (upd_ne hne)
  · have hba : b ≠ a := fun e => (r.bsy b hb).1 (by rw [e]; exact List.mem_of_getElem? hm)
    obtain ⟨u, e⟩ := (r.bsy b hb).2
    exact ⟨u, by rw [upd_ne hba]; exact e⟩
end

/-! ### names -/
structure RE (K : PySem.W.Frag) (B M : List Addr) (H : Hp) (σ : St) (env : Env) : Prop where
  len : env.length = σ.length
  val : ∀ (i : Nat) (p : PV), env[i]? = some (some p) → ∃ v, σ[i]? = some (some v) ∧ RV K B M H v p
theorem RE.mv {K : PySem.W.Frag} {B M B' M' : List Addr} {H H' : Hp} {σ : St} {env : Env} (h : RE K B M H σ env) (e : Ext B M H B' M' H') : RE K B' M' H' σ env :=
  ⟨h.len, fun i p q => let ⟨v, a, b⟩ := h.val i p q; ⟨v, a, b.mv e⟩⟩
theorem RE.set {K : PySem.W.Frag} {B M : List Addr} {H : Hp} {σ : St} {env : Env} {v : V} {p : PV} (h : RE K B M H σ env) (i : Nat) (r : RV K B M H v p) : RE K B M H (σ.set i (some v)) (env.set i (some p)) := by
  refine ⟨by simp [h.len], fun j q e => ?_⟩
  by_cases hj : i = j
  · subst hj
    by_cases hi : i < env.length
    · rw [List.getElem?_set_self hi] at e
      have e' := Option.some.inj (Option.some.inj e)
      subst e'
      exact ⟨v, by rw [List.getElem?_set_self (by rw [← h.len]; exact hi)], r⟩
    · rw [List.getElem?_eq_none (by simpa using hi)] at e; cases e
  · rw [List.getElem?_set_ne hj] at e
    rw [List.getElem?_set_ne hj]
    exact h.val j q e
/-- all that stands at a place -/
structure At (K : PySem.W.Frag) (G : Nm) (B M : List Addr) (H : Hp) (σ : St) (env : Env) (S : Store) : Prop where
  e : RE K B M H σ env
  s : RS K G B M H S

/-! ### readings -/
/-- an exception: its class, its fields, in its own dict -/
def RX (K : PySem.W.Frag) (_G : Nm) (B M : List Addr) (H : Hp) (cls : Value) (d : Option Addr) : PV → Prop
  | .exc c [] => cls = .ref (clsA K c) ∧ d = none
  | .exc c [p] => cls = .ref (clsA K c) ∧ ∃ dd w, d = some dd ∧ H dd = some (.xd [(fldN c, w)]) ∧ dd ∉ M ∧ dd ∉ B ∧ RV K B M H w p
  | _ => False
section
variable (K : PySem.W.Frag) (G : Nm)
/-- what is wanted of a result -/
def RP (W : Value → Option Addr → Hp → Prop) (B M : List Addr) (H : Hp) (r : R PV) (Q : VK) : Prop :=
  match r with
  | .ok p S' => ∀ v M' H', Ext B M H B M' H' → (∀ b ∈ B, H' b = H b) → RS K G B M' H' S' → RV K B M' H' v p → Q v H'
  | .ex e S' => ∀ cls d M' H', Ext B M H B M' H' → (∀ b ∈ B, H' b = H b) → RS K G B M' H' S' → RX K G B M' H' cls d e → W cls d H'
  | .bad => False
def tE (W : WX) (f : Env → Store → R PV) : TE := fun σ H Q => ∃ B M env S, At K G B M H σ env S ∧ RP K G (fun c d => W c d σ) B M H (f env S) Q
end
section
variable {K : PySem.W.Frag} {G : Nm} {W : Value → Option Addr → Hp → Prop} {B M M1 : List Addr} {H H1 : Hp} {Q : VK}
theorem RP.mv {r : R PV} (h : RP K G W B M H r Q) (e : Ext B M H B M1 H1) (hb : ∀ b ∈ B, H1 b = H b) : RP K G W B M1 H1 r Q := by
  cases r with
  | ok p S => exact fun v M' H' e' hb' rs rv => h v M' H' (e.trans e') (fun b q => (hb' b q).trans (hb b q)) rs rv
  | ex x S => exact fun c d M' H' e' hb' rs rx => h c d M' H' (e.trans e') (fun b q => (hb' b q).trans (hb b q)) rs rx
  | bad => exact h
theorem At.mv {σ : St} {env : Env} {S S1 : Store} (h : At K G B M H σ env S) (e : Ext B M H B M1 H1) (rs : RS K G B M1 H1 S1) : At K G B M1 H1 σ env S1 := ⟨h.e.mv e, rs⟩
/-- one part, then what follows -/
theorem tE_then {W : WX} {f : Env → Store → R PV} {g : PV → Store → R PV} {σ : St} {env : Env} {S : Store} {Q' : VK} (st : At K G B M H σ env S) (h : RP K G (fun c d => W c d σ) B M H ((f env S).bind g) Q)
    (k : ∀ p S1 x M1 H1, Ext B M H B M1 H1 → (∀ b ∈ B, H1 b = H b) → At K G B M1 H1 σ env S1 → RV K B M1 H1 x p → RP K G (fun c d => W c d σ) B M1 H1 (g p S1) Q → Q' x H1) : tE K G W f σ H Q' := by
  refine ⟨B, M, env, S, st, ?_⟩
  cases e : f env S with
  | ok p S1 =>
    rw [e] at h
    have h : RP K G (fun c d => W c d σ) B M H (g p S1) Q := h
    exact fun x M1 H1 ex hb rs rv => k p S1 x M1 H1 ex hb (st.mv ex rs) rv (h.mv ex hb)
  | ex x S1 =>
    rw [e] at h
    exact h
  | bad =>
    rw [e] at h
    exact h
end
theorem PE.imp {X : Cx} {e : Expr} {t t' : TE} (h : PE X e t) (i : ∀ σ H Q, t' σ H Q → t σ H Q) : PE X e t' := ⟨fun pins s σ H Q I q => h.run pins s σ H Q I (i σ H Q q)⟩
theorem PT.imp {X : Cx} {e : Expr} {t t' : TT} (h : PT X e t) (i : ∀ σ H Q, t' σ H Q → t σ H Q) : PT X e t' := ⟨fun pins s σ H Q I q => h.run pins s σ H Q I (i σ H Q q)⟩
end G

namespace G
open PySem PySem.Spec PyProof.Rows L2
theorem sizeL_eq : sizeL = sizeLine := by rw [sizeLine_eq]; rfl
section
variable {K : PySem.W.Frag} {G : Nm} {W : Value → Option Addr → Hp → Prop} {B M : List Addr} {H : Hp} {Q : VK} {S : Store} {v : V} {p : PV} {vs : List V} {l : List PV} {a : Addr}
theorem RV.wk {B' : List Addr} (h : RV K B M H v p) (hs : ∀ b ∈ B', b ∈ B) : RV K B' M H v p :=
  h.mv ⟨List.prefix_refl _, fun x q => by rcases q with q | q; exact .inl q; exact .inr (.inl (hs x q)), fun _ _ e _ _ => e⟩
theorem fin_val (r : RS K G B M H S) (h : RP K G W B M H (.ok p S) Q) (hv : RV K B M H v p) : Q v H := h v M H .refl (fun _ _ => rfl) r hv
theorem upd_bsy {o : HO} (r : RS K G B M H S) (hp : H a = none) : ∀ b ∈ B, (upd H a o) b = H b := fun b hb => by
  obtain ⟨u, e⟩ := (r.bsy b hb).2
  exact upd_ne (ne_of_none e hp)
theorem set_bsy {o : HO} {n : Nat} (r : RS K G B M H S) (hm : M[n]? = some a) : ∀ b ∈ B, (upd H a o) b = H b := fun b hb =>
  upd_ne (fun e => (r.bsy b hb).1 (by rw [e]; exact List.mem_of_getElem? hm))
theorem fin_tup (r : RS K G B M H S) (hs : RVs K B M H vs l) (h : RP K G W B M H (newTup l S) Q) (hp : H a = none) : Q (.ref a) (upd H a (.tup vs)) ∧ vs.length ≤ sizeLine := by
  unfold newTup at h
  split at h
  · rename_i hl
    rw [sizeL_eq] at hl
    refine ⟨h _ M _ (ext_new hp) (upd_bsy r hp) (r.new hp) (.tup a vs l (.inl ⟨.inl upd_same, r.free hp⟩) (hs.mv (ext_new hp)) hl), by rw [hs.length]; exact hl⟩
  · exact h.elim
theorem newTup_len (h : RP K G W B M H (newTup l S) Q) : l.length ≤ sizeLine := by
  unfold newTup at h
  split at h
  · rename_i hl; rw [sizeL_eq] at hl; exact hl
  · exact h.elim
theorem newList_len {m : Bool} (h : RP K G W B M H (newList m l S) Q) : l.length ≤ sizeLine := by
  unfold newList at h
  split at h
  · rename_i hl; rw [sizeL_eq] at hl; exact hl
  · exact h.elim
theorem fin_list {m : Bool} (r : RS K G B M H S) (hs : RVs K B M H vs l) (h : RP K G W B M H (newList m l S) Q) (hp : H a = none) : Q (.ref a) (upd H a (.lst vs)) := by
  have hl := newList_len h
  unfold newList at h
  rw [if_pos (by rw [sizeL_eq]; exact hl)] at h
  cases m with
  | false =>
    exact h _ M _ (ext_new hp) (upd_bsy r hp) (r.new hp) (.fl a vs l ⟨.inl upd_same, r.free hp⟩ (hs.mv (ext_new hp)) hl)
  | true =>
    refine h _ (M ++ [a]) _ (ext_alloc hp) (upd_bsy r hp) (r.alloc hp ⟨vs, upd_same, hs.mv (ext_alloc hp), hl⟩) (.loc a _ ?_)
    rw [← r.len]
    simp
/-- a list of the store, or a value -/
theorem lst_of (r : RS K G B M H S) (hv : RV K B M H v p) (h : lstOf S p = some l) : ∃ a vs, v = .ref a ∧ Rd H a (.lst vs) ∧ RVs K B M H vs l ∧ l.length ≤ sizeLine := by
  cases p with
  | fl m =>
    obtain ⟨a, vs, e, q, rr, hl⟩ := hv.fl_inv
    have e2 : m = l := Option.some.inj h
    subst e2
    exact ⟨a, vs, e, q.1, rr, hl⟩
  | loc n =>
    obtain ⟨a, e, hm⟩ := hv.loc_inv
    cases hs : S[n]? with
    | none => simp only [lstOf, hs] at h; cases h
    | some c =>
      cases c with
      | lst m =>
        simp only [lstOf, hs] at h
        have e2 : m = l := Option.some.inj h
        subst e2
        obtain ⟨vs, ea, rr, hl⟩ := r.cell n _ a hs hm
        exact ⟨a, vs, e, .of ea, rr, hl⟩
      | dct m => simp only [lstOf, hs] at h; cases h
      | ins c m => simp only [lstOf, hs] at h; cases h
  | _ => cases h
theorem loc_of {n : Nat} (r : RS K G B M H S) (hv : RV K B M H v (.loc n)) (h : S[n]? = some (.lst l)) : ∃ a vs, v = .ref a ∧ M[n]? = some a ∧ H a = some (.lst vs) ∧ RVs K B M H vs l ∧ l.length ≤ sizeLine := by
  obtain ⟨a, e, hm⟩ := hv.loc_inv
  obtain ⟨vs, ea, rr, hl⟩ := r.cell n _ a h hm
  exact ⟨a, vs, e, hm, ea, rr, hl⟩
/-- a list or a tuple -/
theorem seq_of (r : RS K G B M H S) (hv : RV K B M H v p) (h : seqOf S p = some l) : ∃ a vs, v = .ref a ∧ (SqL K H a vs ∨ SqT K H a vs) ∧ RVs K B M H vs l ∧ l.length ≤ sizeLine := by
  cases p with
  | tup m =>
    obtain ⟨a, vs, e, q, rr, hl⟩ := hv.tup_inv
    have e2 : m = l := Option.some.inj h
    subst e2
    exact ⟨a, vs, e, .inr q.sq, rr, hl⟩
  | fl m =>
    obtain ⟨a, vs, e, q, rr, hl⟩ := lst_of r hv (l := l) h
    exact ⟨a, vs, e, .inl (.inl q), rr, hl⟩
  | loc n =>
    obtain ⟨a, vs, e, q, rr, hl⟩ := lst_of r hv (l := l) h
    exact ⟨a, vs, e, .inl (.inl q), rr, hl⟩
  | _ => cases h
/-- a list in the store is changed in place -/
theorem fin_set {n : Nat} {vs' : List V} {l' : List PV} {x : V} {q : PV} (r : RS K G B M H S) (hm : M[n]? = some a) (hs : RVs K B M H vs' l') (hl : l'.length ≤ sizeLine) (hv : RV K B M H x q)
    (h : RP K G W B M H (.ok q (S.set n (.lst l'))) Q) : Q x (upd H a (.lst vs')) :=
  h x M _ (ext_set hm) (set_bsy r hm) (r.set hm ⟨vs', upd_same, hs.mv (ext_set hm), hl⟩) (hv.mv (ext_set hm))
end

/-! ### plain data -/
mutual
def toD : PV → PyData
  | .non => .none
  | .bl b => .bool b
  | .int i => .int i
  | .str s => .str ⟨s.toArray⟩
  | .tup l => .tuple (toDs l)
  | .fl l => .list (toDs l)
  | .loc _ => .none
  | .exc _ _ => .none
  | .scr _ => .none
def toDs : List PV → List PyData
  | [] => []
  | p :: r => toD p :: toDs r
end
mutual
/-- data alone, to a depth -/
def isD : Nat → PV → Bool
  | _, .non => true
  | _, .bl _ => true
  | _, .int _ => true
  | _, .str s => s.all fun c => decide (c < 0x110000)
  | 0, .tup _ => false
  | 0, .fl _ => false
  | n + 1, .tup l => isDs n l
  | n + 1, .fl l => isDs n l
  | _, .loc _ => false
  | _, .exc _ _ => false
  | _, .scr _ => false
def isDs : Nat → List PV → Bool
  | _, [] => true
  | n, p :: r => isD n p && isDs n r
end

theorem txt_all {x : Str} (h : txtOk x) : (x.cps.toList.all fun c => decide (c < 0x110000)) = true := by
  rw [List.all_eq_true]
  exact fun c hc => decide_eq_true (h.2 c hc)
section
variable {K : PySem.W.Frag} {G : Nm} {B M : List Addr} {H : Hp} {S : Store}
/-- mapM, item by item -/
theorem mapM_cons {α β : Type} {f : α → Option β} {a : α} {r : List α} {l : List β} (h : (a :: r).mapM f = some l) : ∃ b t, f a = some b ∧ r.mapM f = some t ∧ l = b :: t := by
  rw [List.mapM_cons] at h
  cases e : f a with
  | none => rw [e] at h; cases h
  | some b =>
    rw [e] at h
    cases e2 : r.mapM f with
    | none => rw [e2] at h; cases h
    | some t => rw [e2] at h; exact ⟨b, t, rfl, rfl, (Option.some.inj h).symm⟩
theorem mapM_nil {α β : Type} {f : α → Option β} {l : List β} (h : ([] : List α).mapM f = some l) : l = [] := by
  rw [List.mapM_nil] at h
  exact (Option.some.inj h).symm
theorem data_of (r : RS K G B M H S) : ∀ (n : Nat) (p d : PV) (v : V), dataOf S n p = some d → RV K B M H v p → Dp K H v (toD d) ∧ isD n d = true := by
  intro n
  induction n with
  | zero => intro p d v h _; cases h
  | succ n ih =>
    have ihs : ∀ (l ds : List PV) (vs : List V), l.mapM (dataOf S n) = some ds → RVs K B M H vs l → DpAll K H vs (toDs ds) ∧ isDs n ds = true := by
      intro l
      induction l with
      | nil =>
        intro ds vs h hv
        rw [mapM_nil h, hv.nil_inv]
        exact ⟨.nil, rfl⟩
      | cons p l ihl =>
        intro ds vs h hv
        obtain ⟨b, t, e1, e2, rfl⟩ := mapM_cons h
        obtain ⟨v, w, rfl, h1, h2⟩ := hv.cons_inv
        have q1 := ih p b v e1 h1
        have q2 := ihl t w e2 h2
        exact ⟨.cons q1.1 q2.1, by simp only [isDs, q1.2, q2.2]; rfl⟩
    intro p d v h hv
    cases p with
    | non => cases h; rw [hv.non_inv]; exact ⟨.non, rfl⟩
    | bl b => cases h; rw [hv.bl_inv]; exact ⟨.bl b, rfl⟩
    | int i => cases h; rw [hv.int_inv]; exact ⟨.int i, rfl⟩
    | str s =>
      cases h
      obtain ⟨x, rfl, rfl, hx⟩ := hv.str_inv
      refine ⟨?_, txt_all hx⟩
      have e : toD (.str x.cps.toList) = .str x := by simp only [toD, Array.toArray_toList]
      rw [e]
      exact .str x
    | tup l =>
      obtain ⟨a, vs, rfl, q, rr, _⟩ := hv.tup_inv
      simp only [dataOf] at h
      cases e : l.mapM (dataOf S n) with
      | none => rw [e] at h; cases h
      | some ds =>
        rw [e] at h; cases h
        have z := ihs l ds vs e rr
        exact ⟨.tup q.sq z.1, z.2⟩
    | fl l =>
      obtain ⟨a, vs, rfl, q, rr, _⟩ := hv.fl_inv
      simp only [dataOf] at h
      cases e : l.mapM (dataOf S n) with
      | none => rw [e] at h; cases h
      | some ds =>
        rw [e] at h; cases h
        have z := ihs l ds vs e rr
        exact ⟨.lst q.sq z.1, z.2⟩
    | loc k =>
      cases hs : S[k]? with
      | none => simp only [dataOf, hs] at h; cases h
      | some c =>
        cases c with
        | lst l =>
          simp only [dataOf, hs] at h
          obtain ⟨a, vs, rfl, _, q, rr, _⟩ := loc_of r hv hs
          cases e : l.mapM (dataOf S n) with
          | none => rw [e] at h; cases h
          | some ds =>
            rw [e] at h; cases h
            have z := ihs l ds vs e rr
            exact ⟨.lst (.of q) z.1, z.2⟩
        | dct l => simp only [dataOf, hs] at h; cases h
        | ins c l => simp only [dataOf, hs] at h; cases h
    | exc c l => cases h
    | scr l => cases h
end
mutual
theorem shaped_lay : ∀ (n : Nat) (d : PV), isD n d = true → (toD d).canLay0 = true ∧ (toD d).depth ≤ n
  | n, .non, _ => ⟨by simp [toD, PyData.canLay0], by simp [toD, PyData.depth]⟩
  | n, .bl _, _ => ⟨by simp [toD, PyData.canLay0], by simp [toD, PyData.depth]⟩
  | n, .int _, _ => ⟨by simp [toD, PyData.canLay0], by simp [toD, PyData.depth]⟩
  | n, .str s, h => by
    refine ⟨?_, by simp [toD, PyData.depth]⟩
    have h' : (s.all fun c => decide (c < 0x110000)) = true := by cases n <;> exact h
    simp only [toD, PyData.canLay0]
    simpa [PyData.strOk, Array.all_eq_true, List.all_eq_true] using h'
  | 0, .tup _, h => by cases h
  | 0, .fl _, h => by cases h
  | n + 1, .tup l, h => by
    have q := shaped_lays n l h
    exact ⟨by simpa [toD, PyData.canLay0] using q.1, by simpa [toD, PyData.depth] using q.2⟩
  | n + 1, .fl l, h => by
    have q := shaped_lays n l h
    exact ⟨by simpa [toD, PyData.canLay0] using q.1, by simpa [toD, PyData.depth] using q.2⟩
  | n, .loc _, h => by cases n <;> cases h
  | n, .exc _ _, h => by cases n <;> cases h
  | n, .scr _, h => by cases n <;> cases h
theorem shaped_lays : ∀ (n : Nat) (l : List PV), isDs n l = true → PyData.canLayAll0 (toDs l) = true ∧ PyData.depthAll (toDs l) ≤ n
  | n, [], _ => ⟨by simp [toDs, PyData.canLayAll0], by simp [toDs, PyData.depthAll]⟩
  | n, p :: r, h => by
    have h' : (isD n p && isDs n r) = true := by simpa only [isDs] using h
    obtain ⟨h1, h2⟩ := Bool.and_eq_true_iff.mp h'
    have q1 := shaped_lay n p h1
    have q2 := shaped_lays n r h2
    exact ⟨by simp [toDs, PyData.canLayAll0, q1.1, q2.1], by simp only [toDs, PyData.depthAll]; omega⟩
end
theorem shaped_of {n : Nat} {d : PV} (h : isD n d = true) (hn : n ≤ 64) : SeqAt.shaped (toD d) = true := by
  have q := shaped_lay n d h
  unfold SeqAt.shaped
  rw [q.1, decide_eq_true (Nat.le_trans q.2 hn)]
  rfl
mutual
theorem peq_eqv : ∀ (m n : Nat) (p q : PV), isD m p = true → isD n q = true → PyData.eqv (toD p) (toD q) = peq p q
  | m, n, p, q, hp, hq => by
    cases p with
    | loc k => cases m <;> cases hp
    | exc c l => cases m <;> cases hp
    | scr l => cases m <;> cases hp
    | tup a =>
      cases m with
      | zero => cases hp
      | succ m =>
        cases q with
        | loc k => cases n <;> cases hq
        | exc c l => cases n <;> cases hq
        | scr l => cases n <;> cases hq
        | tup b =>
          cases n with
          | zero => cases hq
          | succ n =>
            simp only [toD, PyData.eqv, peq]
            exact peq_eqvs m n a b hp hq
        | _ => simp only [toD, PyData.eqv, peq]
    | fl a =>
      cases m with
      | zero => cases hp
      | succ m =>
        cases q with
        | loc k => cases n <;> cases hq
        | exc c l => cases n <;> cases hq
        | scr l => cases n <;> cases hq
        | fl b =>
          cases n with
          | zero => cases hq
          | succ n =>
            simp only [toD, PyData.eqv, peq]
            exact peq_eqvs m n a b hp hq
        | _ => simp only [toD, PyData.eqv, peq]
    | str a =>
      cases q with
      | loc k => cases n <;> cases hq
      | exc c l => cases n <;> cases hq
      | scr l => cases n <;> cases hq
      | str b =>
        simp only [toD, PyData.eqv, peq]
        rw [Bool.eq_iff_iff]
        simp
      | _ => simp only [toD, PyData.eqv, peq]
    | _ =>
      cases q with
      | loc k => cases n <;> cases hq
      | exc c l => cases n <;> cases hq
      | scr l => cases n <;> cases hq
      | _ => simp only [toD, PyData.eqv, peq]
theorem peq_eqvs : ∀ (m n : Nat) (p q : List PV), isDs m p = true → isDs n q = true → PyData.eqvAll (toDs p) (toDs q) = peqL p q
  | m, n, [], [], _, _ => by simp only [toDs, PyData.eqvAll, peqL]
  | m, n, [], _ :: _, _, _ => by simp only [toDs, PyData.eqvAll, peqL]
  | m, n, _ :: _, [], _, _ => by simp only [toDs, PyData.eqvAll, peqL]
  | m, n, x :: xs, y :: ys, hp, hq => by
    have hp' : (isD m x && isDs m xs) = true := by simpa only [isDs] using hp
    have hq' : (isD n y && isDs n ys) = true := by simpa only [isDs] using hq
    obtain ⟨h1, h2⟩ := Bool.and_eq_true_iff.mp hp'
    obtain ⟨h3, h4⟩ := Bool.and_eq_true_iff.mp hq'
    simp only [toDs, PyData.eqvAll, peqL]
    rw [peq_eqv m n x y h1 h3, peq_eqvs m n xs ys h2 h4]
end
/-- == by the store -/
theorem eqS_ok {K : PySem.W.Frag} {G : Nm} {B M : List Addr} {H : Hp} {S : Store} {x y : V} {p q : PV} {k : Bool} (r : RS K G B M H S) (hx : RV K B M H x p) (hy : RV K B M H y q) (h : eqS S p q = some k) :
    ∃ d e, Dp K H x d ∧ Dp K H y e ∧ SeqAt.shaped d = true ∧ SeqAt.shaped e = true ∧ PyData.eqv d e = k := by
  unfold eqS at h
  cases e1 : dataOf S depthL p with
  | none => rw [e1] at h; cases h
  | some a =>
    cases e2 : dataOf S depthL q with
    | none => rw [e1, e2] at h; cases h
    | some b =>
      rw [e1, e2] at h
      have h' : peq a b = k := Option.some.inj h
      obtain ⟨d1, s1⟩ := data_of r _ p a x e1 hx
      obtain ⟨d2, s2⟩ := data_of r _ q b y e2 hy
      exact ⟨toD a, toD b, d1, d2, shaped_of s1 (by decide), shaped_of s2 (by decide), (peq_eqv _ _ a b s1 s2).trans h'⟩
end G

namespace G
open PySem PySem.Spec PyProof.Rows L2
abbrev SE (P : Prog) (C : Nat → List PV → Store → R PV) (G : Nm) (X : Cx) (W : WX) (e : Expr) (m : ME) : Prop := PE X e (tE X.K G W (ev P C m))
section
variable {P : Prog} {C : Nat → List PV → Store → R PV} {G : Nm} {X : Cx} {W : WX} {pos : Pos} {e e1 e2 e3 : Expr} {m m1 m2 m3 : ME}

/-- the value of a tE whose result is known -/
theorem tE_val {f : Env → Store → R PV} {σ : St} {H : Hp} {Q : VK} {v : V} {p : PV} (h : tE X.K G W f σ H Q) (k : ∀ B M env S, At X.K G B M H σ env S → f env S = .ok p S ∧ RV X.K B M H v p) : Q v H := by
  obtain ⟨B, M, env, S, st, q⟩ := h
  obtain ⟨e, r⟩ := k B M env S st
  rw [e] at q
  exact fin_val st.s q r
theorem se_int {i : Int} {j : Nat} : SE P C G X W (.Constant (.int i) j pos) (.int i) := PE.imp pe_int fun σ H Q h => tE_val h fun B M env S st => ⟨by simp only [ev], .int i⟩
theorem se_bl {b : Bool} {j : Nat} : SE P C G X W (.Constant (.bool b) j pos) (.bl b) := PE.imp pe_bl fun σ H Q h => tE_val h fun B M env S st => ⟨by simp only [ev], .bl b⟩
theorem se_non {j : Nat} : SE P C G X W (.Constant .none j pos) .non := PE.imp pe_non fun σ H Q h => tE_val h fun B M env S st => ⟨by simp only [ev], .non⟩
theorem se_str {x : Str} {j : Nat} {s : List Nat} (hs : x.cps.toList = s) (ht : txtOk x) : SE P C G X W (.Constant (.str x) j pos) (.str s) :=
  PE.imp pe_str fun σ H Q h => tE_val h fun B M env S st => ⟨by simp only [ev, ← hs], .str x ht⟩
theorem se_var {i : Nat} {x : Str} (hN : X.N[i]? = some x) (hv : Vis X.env.scope x) (hd : (x == ("__debug__" : Str)) = false) (hcd : (x == ("__classdict__" : Str)) = false) : SE P C G X W (.Name x pos) (.var i) := by
  refine PE.imp (pe_var hN hv hd hcd) fun σ H Q h => ?_
  obtain ⟨B, M, env, S, st, q⟩ := h
  simp only [ev, getVar] at q
  cases hx : env[i]? with
  | none => rw [hx] at q; exact q.elim
  | some o =>
    cases o with
    | none => rw [hx] at q; exact q.elim
    | some p =>
      rw [hx] at q
      obtain ⟨v, a, b⟩ := st.e.val i p hx
      exact ⟨v, a, fin_val st.s q b⟩
/-- two parts -/
theorem tE_then2 {f g : Env → Store → R PV} {k : Env → PV → PV → Store → R PV} {σ : St} {H : Hp} {Q : VK} {R2' : V → V → Hp → Prop}
    (h : tE X.K G W (fun env S => (f env S).bind fun x S => (g env S).bind fun y S => k env x y S) σ H Q)
    (hk : ∀ B M env S p q x y H2, At X.K G B M H2 σ env S → RV X.K B M H2 x p → RV X.K B M H2 y q → RP X.K G (fun c d => W c d σ) B M H2 (k env p q S) Q → R2' x y H2) :
    tE X.K G W f σ H fun x H1 => tE X.K G W g σ H1 fun y H2 => R2' x y H2 := by
  obtain ⟨B, M, env, S, st, q⟩ := h
  refine tE_then st q fun p S1 x M1 H1 e1 b1 st1 r1 q1 => ?_
  exact tE_then st1 q1 fun p2 S2 y M2 H2 e2 b2 st2 r2 q2 => hk B M2 env S2 p p2 x y H2 st2 (r1.mv e2) r2 q2
/-- one part -/
theorem tE_then1 {f : Env → Store → R PV} {k : Env → PV → Store → R PV} {σ : St} {H : Hp} {Q : VK} {R1 : V → Hp → Prop}
    (h : tE X.K G W (fun env S => (f env S).bind (k env)) σ H Q)
    (hk : ∀ B M env S p x H2, At X.K G B M H2 σ env S → RV X.K B M H2 x p → RP X.K G (fun c d => W c d σ) B M H2 (k env p S) Q → R1 x H2) :
    tE X.K G W f σ H R1 := by
  obtain ⟨B, M, env, S, st, q⟩ := h
  exact tE_then st q fun p S1 x M1 H1 e1 b1 st1 r1 q1 => hk B M1 env S1 p x H1 st1 r1 q1

/-! ### operators -/
theorem Inv.rdM {pins : List (Addr × Obj)} {σ : St} {H : Hp} {s : Shared} {l : Addr} {xs : List V} (I : Inv X pins σ H s) (h : Rd H l (.lst xs)) :
    xs.length ≤ sizeLine ∧ ∃ (its : List Value) (n : Nat), Vals xs its ∧ xs.length = its.length ∧ s.heap.get? l = some { cls := .type "list", data := .seq its.toArray n } := by
  obtain ⟨z, its, n, r, e⟩ := h.ok I.hok
  exact ⟨z, its, n, r, r.length, e⟩
def rCatL : R2 := fun x y H Q => ∃ l b xs zs, x = .ref l ∧ y = .ref b ∧ Rd H l (.lst xs) ∧ Rd H b (.lst zs) ∧ xs.length + zs.length ≤ sizeLine ∧ ∀ p, H p = none → Q (.ref p) (upd H p (.lst (xs ++ zs)))
theorem op_catL : OpR X (binaryOp .Add) rCatL := by
  intro pins s σ H x y v u Q I rx ry h
  obtain ⟨l, b, xs, zs, rfl, rfl, hH, hB, hz, q⟩ := h
  cases rx
  cases ry
  obtain ⟨z, its, n, r, hl, e⟩ := Inv.rdM I hH
  obtain ⟨z2, its2, n2, r2, hl2, e2⟩ := Inv.rdM I hB
  refine PySem.P.add_list e e2 ?_ (by rw [List.size_toArray, List.size_toArray]; omega)
  have ea : its.toArray ++ its2.toArray = (its ++ its2).toArray := by simp
  rw [ea]
  exact ⟨.ref _, _, I.lnew (t' := s.toks) (r.append r2) (by rw [List.length_append]; omega), rfl, q _ I.fresh⟩
def rRepL : R2 := fun x y H Q => ∃ l k xs, x = .ref l ∧ y = .int k ∧ Rd H l (.lst xs) ∧ -(2 ^ 63) ≤ k ∧ k < 2 ^ 63 ∧ xs.length * k.toNat ≤ sizeLine ∧
  ∀ p, H p = none → Q (.ref p) (upd H p (.lst (List.replicate k.toNat xs).flatten))
theorem op_repL : OpR X (binaryOp .Mult) rRepL := by
  intro pins s σ H x y v u Q I rx ry h
  obtain ⟨l, k, xs, rfl, rfl, hH, h1, h2, hz, q⟩ := h
  cases rx
  obtain ⟨t, rfl⟩ := ry
  obtain ⟨z, its, n, r, hl, e⟩ := Inv.rdM I hH
  have hlen : its.toArray.size * k.toNat ≤ sizeLine := by rw [List.size_toArray, ← hl]; exact hz
  have hcap : ¬ its.toArray.size * k.toNat > (2 ^ 63 - 1) / 8 := by
    have : (sizeLine : Nat) ≤ (2 ^ 63 - 1) / 8 := by decide
    omega
  have hfit : ¬ (!Builtin.List.listFitsIndex k) = true := by
    rw [fitsIndex_both h1 h2]
    exact Bool.false_ne_true
  have hlong : ¬ Builtin.List.listTooLong (its.toArray.size * k.toNat) = true := by
    rw [notLongL hlen]
    exact Bool.false_ne_true
  have hnew : List.foldl (fun x1 x2 => x1 ++ x2) #[] (List.replicate (if its.toArray.isEmpty = true then 0 else k.toNat) its.toArray) = (List.replicate k.toNat its).flatten.toArray := by
    have f0 : ∀ m : Nat, List.foldl (fun x1 x2 => x1 ++ x2) #[] (List.replicate m its.toArray) = (List.replicate m its).flatten.toArray := fun m => by
      have := foldl_rep its m []
      rw [List.nil_append] at this
      exact this
    rw [f0]
    cases its with
    | nil => simp
    | cons a r' => rw [if_neg (by simp)]
  refine wpAny_binaryOp_repeat_ref (T := "list") (U := "int") (by decide) ⟨_, e, rfl⟩ (fun s' => typeIs_int s' k t) noFill_list_mul F.fills_int_mul F.slot_int_rmul repeat_list F.slot_int_index.lookup
    (call_meets F.slot_int_rmul (typeIs_int s k t) F.entry_int_rmul (F.args_int_rmul_2 _ _) (int___rmul___int_list k t l its.toArray n)
      ⟨e, rfl, ⟨_, e, rfl⟩, call_meets F.slot_list_mul ⟨_, e, rfl⟩ F.entry_list_mul (F.args_list_mul_2 _ _) (AutoListH.list___mul___list_int_3 l its.toArray n k t hfit hcap hlong) ⟨e, ?_⟩⟩)
  rw [hnew]
  exact ⟨.ref _, _, I.lnew (t' := s.toks) (r.rep k.toNat) (by rw [PyProof.Rows.lm_len_rep_flat, Nat.mul_comm]; exact hz), rfl, q _ I.fresh⟩

theorem RP.bad {K : PySem.W.Frag} {G : Nm} {W : Value → Option Addr → Hp → Prop} {B M : List Addr} {H : Hp} {Q : VK} (h : RP K G W B M H .bad Q) : False := h
theorem txt_app {x y : Str} (hx : txtOk x) (hy : txtOk y) (h : x.length + y.length ≤ sizeLine) : txtOk (x ++ y) := by
  refine ⟨?_, fun c hc => ?_⟩
  · show (x.cps ++ y.cps).size ≤ _
    rw [Array.size_append]
    exact h
  · have : c ∈ (x.cps ++ y.cps).toList := hc
    rw [Array.toList_append] at this
    rcases List.mem_append.mp this with q | q
    · exact hx.2 c q
    · exact hy.2 c q
def rAdd4 (K : PySem.W.Frag) : R2 := fun x y H Q => (∃ i j, x = .int i ∧ y = .int j ∧ Q (.int (i + j)) H) ∨ (∃ i j, x = .str i ∧ y = .str j ∧ i.length + j.length ≤ sizeLine ∧ Q (.str (i ++ j)) H) ∨ rCatA K x y H Q ∨ rCatL x y H Q
theorem op_add4 : OpR X (binaryOp .Add) (rAdd4 X.K) := op_add.or (op_add_str.or (op_catA.or op_catL))
section
variable {K : PySem.W.Frag} {W : Value → Option Addr → Hp → Prop} {B M : List Addr} {H : Hp} {Q : VK} {S : Store} {x y : V} {p q : PV} {k : Bool}
theorem lst_add {a b : List PV} (r : RS K G B M H S) (hx : RV K B M H x p) (hy : RV K B M H y q) (e1 : lstOf S p = some a) (e2 : lstOf S q = some b) (h : RP K G W B M H (newList k (a ++ b) S) Q) : rCatL x y H Q := by
  obtain ⟨l, vs, rfl, rd, rv, _⟩ := lst_of r hx e1
  obtain ⟨l2, ws, rfl, rd2, rv2, _⟩ := lst_of r hy e2
  have hl := newList_len h
  rw [List.length_append] at hl
  exact ⟨l, l2, vs, ws, rfl, rfl, rd, rd2, by rw [rv.length, rv2.length]; exact hl, fun a' hp => fin_list r (rv.append rv2) h hp⟩
theorem bin_add (r : RS K G B M H S) (hx : RV K B M H x p) (hy : RV K B M H y q) (h : RP K G W B M H (binop k .add p q S) Q) : rAdd4 K x y H Q := by
  have lists : ∀ h : RP K G W B M H (addL k p q S) Q, rAdd4 K x y H Q := fun h => by
    unfold addL at h
    cases e1 : lstOf S p with
    | none => rw [e1] at h; exact h.elim
    | some a =>
      cases e2 : lstOf S q with
      | none => rw [e1, e2] at h; exact h.elim
      | some b =>
        rw [e1, e2] at h
        exact .inr (.inr (.inr (lst_add r hx hy e1 e2 h)))
  cases p with
  | int i =>
    cases q with
    | int j =>
      rw [hx.int_inv, hy.int_inv]
      exact .inl ⟨i, j, rfl, rfl, fin_val r h (.int _)⟩
    | _ => exact lists h
  | str s =>
    cases q with
    | str t =>
      obtain ⟨a, rfl, rfl, ha⟩ := hx.str_inv
      obtain ⟨b, rfl, rfl, hb⟩ := hy.str_inv
      simp only [binop] at h
      split at h
      · rename_i hl
        rw [sizeL_eq] at hl
        have hl' : a.length + b.length ≤ sizeLine := by simpa [Str.length] using hl
        refine .inr (.inl ⟨a, b, rfl, rfl, hl', fin_val r h ?_⟩)
        have e : (a ++ b).cps.toList = a.cps.toList ++ b.cps.toList := by
          show (a.cps ++ b.cps).toList = _
          simp
        rw [← e]
        exact .str _ (txt_app ha hb hl')
      · exact h.elim
    | _ => exact lists h
  | tup a =>
    cases q with
    | tup b =>
      obtain ⟨l, vs, rfl, t1, rv, z1⟩ := hx.tup_inv
      obtain ⟨l2, ws, rfl, t2, rv2, z2⟩ := hy.tup_inv
      have h : RP K G W B M H (newTup (a ++ b) S) Q := h
      have hl := newTup_len h
      rw [List.length_append] at hl
      refine .inr (.inr (.inl ⟨l, l2, vs, ws, rfl, rfl, t1.sq, t2.sq, by rw [rv.length, rv2.length]; exact hl, fun e => ?_, fun _ e => ?_, fun _ _ p hp => (fin_tup r (rv.append rv2) h hp).1⟩))
      · subst e
        have ea : a = [] := by have := rv.length; cases a with | nil => rfl | cons _ _ => simp at this
        subst ea
        unfold newTup at h
        rw [if_pos (by rw [sizeL_eq]; simpa using hl)] at h
        exact fin_val r h (by simpa using RV.tup l2 ws b t2 rv2 z2)
      · subst e
        have eb : b = [] := by have := rv2.length; cases b with | nil => rfl | cons _ _ => simp at this
        subst eb
        unfold newTup at h
        rw [if_pos (by rw [sizeL_eq]; simpa using hl)] at h
        exact fin_val r h (by simpa using RV.tup l vs a t1 rv z1)
    | _ => exact lists h
  | fl a => exact lists h
  | loc n => exact lists h
  | scr a => exact lists h
  | non => exact lists h
  | bl b => exact lists h
  | exc c l => exact lists h
end
end
end G

namespace G
open PySem PySem.Spec PyProof.Rows L2
section
variable {X : Cx} {G : Nm} {K : PySem.W.Frag} {W : Value → Option Addr → Hp → Prop} {B M : List Addr} {H : Hp} {Q : VK} {S : Store} {x y : V} {p q : PV} {k : Bool}
/-! ### arithmetic -/
theorem bool_nat {a b : Bool} (h : (a || b) = true) : a = true ∨ b = true := by simpa using h
def rSub1 : R2 := rI0 fun i j => .int (i - j)
theorem bin_sub (r : RS K G B M H S) (hx : RV K B M H x p) (hy : RV K B M H y q) (h : RP K G W B M H (binop k .sub p q S) Q) : rSub1 x y H Q := by
  cases p with
  | int i =>
    cases q with
    | int j => rw [hx.int_inv, hy.int_inv]; exact ⟨i, j, rfl, rfl, fin_val r h (.int _)⟩
    | _ => exact h.elim
  | _ => exact h.elim
def rMul3 : R2 := fun x y H Q => rI CMul (fun i j => .int (i * j)) x y H Q ∨ rI CMulW (fun i j => .int (i * j)) x y H Q ∨ rRepL x y H Q
theorem op_mul3 : OpR X (binaryOp .Mult) rMul3 := op_mul.or (op_mulW.or op_repL)
theorem natAbs_bnd {i : Int} (h : i.natAbs < 2 ^ 64) : -(2 ^ 64) < i ∧ i < 2 ^ 64 := by omega
theorem bin_mul (r : RS K G B M H S) (hx : RV K B M H x p) (hy : RV K B M H y q) (h : RP K G W B M H (binop k .mul p q S) Q) : rMul3 x y H Q := by
  have lists : ∀ (j : Int), q = .int j → RP K G W B M H (mulL k p j S) Q → rMul3 x y H Q := fun j ej h => by
    rw [ej] at hy
    unfold mulL at h
    cases e1 : lstOf S p with
    | none => rw [e1] at h; exact h.elim
    | some a =>
      rw [e1] at h
      have h : RP K G W B M H (if a.length * j.toNat ≤ sizeL ∧ j < 2 ^ 62 ∧ -(2 ^ 62) < j then newList k (List.replicate j.toNat a).flatten S else .bad) Q := h
      split at h
      · rename_i hc
        obtain ⟨l, vs, rfl, rd, rv, _⟩ := lst_of r hx e1
        rw [hy.int_inv]
        refine .inr (.inr ⟨l, j, vs, rfl, rfl, rd, by omega, by omega, ?_, fun a' hp => fin_list r (rv.flatRep _) h hp⟩)
        rw [rv.length, ← sizeL_eq]
        exact hc.1
      · exact h.elim
  cases q with
  | int j =>
    cases p with
    | int i =>
      rw [hx.int_inv, hy.int_inv]
      simp only [binop] at h
      split at h
      · rename_i hm
        unfold mulOk at hm
        rcases bool_nat hm with hm | hm
        · rcases bool_nat hm with hm | hm
          · exact .inl ⟨i, j, rfl, rfl, .inl (natAbs_bnd (of_decide_eq_true hm)), fin_val r h (.int _)⟩
          · exact .inl ⟨i, j, rfl, rfl, .inr (natAbs_bnd (of_decide_eq_true hm)), fin_val r h (.int _)⟩
        · obtain ⟨h1, h2⟩ := Bool.and_eq_true_iff.mp hm
          exact .inr (.inl ⟨i, j, rfl, rfl, wide_mul (of_decide_eq_true h1) (of_decide_eq_true h2) (by decide) (by decide) (by decide), fin_val r h (.int _)⟩)
      · exact h.elim
    | _ => exact lists j rfl h
  | _ => cases p <;> exact h.elim
theorem bin_fdiv (r : RS K G B M H S) (hx : RV K B M H x p) (hy : RV K B M H y q) (h : RP K G W B M H (binop k .fdiv p q S) Q) : rI CDiv (fun i j => .int (i / j)) x y H Q := by
  cases p with
  | int i =>
    cases q with
    | int j =>
      rw [hx.int_inv, hy.int_inv]
      simp only [binop] at h
      split at h
      · rename_i hc; exact ⟨i, j, rfl, rfl, hc, fin_val r h (.int _)⟩
      · exact h.elim
    | _ => exact h.elim
  | _ => exact h.elim
theorem bin_mod (r : RS K G B M H S) (hx : RV K B M H x p) (hy : RV K B M H y q) (h : RP K G W B M H (binop k .mod p q S) Q) : rI (fun _ j => 0 < j) (fun i j => .int (i % j)) x y H Q := by
  cases p with
  | int i =>
    cases q with
    | int j =>
      rw [hx.int_inv, hy.int_inv]
      simp only [binop] at h
      split at h
      · rename_i hc; exact ⟨i, j, rfl, rfl, hc, fin_val r h (.int _)⟩
      · exact h.elim
    | _ => exact h.elim
  | _ => exact h.elim
theorem bin_pow (r : RS K G B M H S) (hx : RV K B M H x p) (hy : RV K B M H y q) (h : RP K G W B M H (binop k .pow p q S) Q) : rI CPow (fun i j => .int (i ^ j.toNat)) x y H Q := by
  cases p with
  | int i =>
    cases q with
    | int j =>
      rw [hx.int_inv, hy.int_inv]
      simp only [binop] at h
      split at h
      · rename_i hc; exact ⟨i, j, rfl, rfl, ⟨hc.1, by omega, hc.2.2⟩, fin_val r h (.int _)⟩
      · exact h.elim
    | _ => exact h.elim
  | _ => exact h.elim
theorem neg_ok (r : RS K G B M H S) (hx : RV K B M H x p) (h : RP K G W B M H (negV p S) Q) : rU (fun i => .int (-i)) x H Q := by
  cases p with
  | int i => rw [hx.int_inv]; exact ⟨i, rfl, fin_val r h (.int _)⟩
  | _ => exact h.elim

/-! ### comparisons: o by a rule rr, k its answer -/
def opOf : Cp → CmpOp
  | .lt => .Lt | .le => .LtE | .gt => .Gt | .ge => .GtE | .eq => .Eq | .ne => .NotEq | .in_ => .In | .nin => .NotIn | .is_ => .Is | .isn => .IsNot
def rStr (f : Str → Str → Bool) : R2 := fun x y H Q => ∃ i j, x = .str i ∧ y = .str j ∧ Q (.bl (f i j)) H
/-- what the rule of each comparison asks -/
def rCmp (K : PySem.W.Frag) (o : Cp) : R2 := fun x y H Q => match o with
  | .lt => rI0 (fun i j => .bl (decide (i < j))) x y H Q ∨ ∃ i j, x = .str i ∧ y = .str j ∧ Q (.bl (decide (i.cps.toList < j.cps.toList))) H
  | .le => rI0 (fun i j => .bl (decide (i ≤ j))) x y H Q ∨ ∃ i j, x = .str i ∧ y = .str j ∧ Q (.bl (!decide (j.cps.toList < i.cps.toList))) H
  | .gt => rI0 (fun i j => .bl (decide (j < i))) x y H Q ∨ ∃ i j, x = .str i ∧ y = .str j ∧ Q (.bl (decide (j.cps.toList < i.cps.toList))) H
  | .ge => rI0 (fun i j => .bl (decide (j ≤ i))) x y H Q ∨ ∃ i j, x = .str i ∧ y = .str j ∧ Q (.bl (!decide (i.cps.toList < j.cps.toList))) H
  | .eq => rEqD K x y H Q
  | .ne => rNeD K x y H Q
  | .is_ => (y = .non ∧ Q (.bl (decide (x = .non))) H) ∨ rIsB x y H Q
  | .isn => (y = .non ∧ Q (.bl (!decide (x = .non))) H) ∨ rNotB x y H Q
  | .in_ => rInD K x y H Q ∨ rIn K false x y H Q ∨ (∃ (c : Nat) (z : Str), x = .str ⟨#[c]⟩ ∧ y = .str z ∧ Q (.bl (decide (c ∈ z.cps.toList))) H)
  | .nin => rNotInD K x y H Q ∨ rIn K true x y H Q ∨ (∃ (c : Nat) (z : Str), x = .str ⟨#[c]⟩ ∧ y = .str z ∧ Q (.bl (!decide (c ∈ z.cps.toList))) H)
end
section
variable {X : Cx}
theorem op_cmp (hu : X.A.units + 65 < cLine) (o : Cp) : OpR X (compareOp (opOf o)) (rCmp X.K o) := by
  cases o with
  | lt => exact op_lt.or op_lt_str
  | le => exact op_le.or op_le_str
  | gt => exact op_gt.or op_gt_str
  | ge => exact op_ge.or op_ge_str
  | eq => exact op_eqD (by omega)
  | ne => exact op_neD (by omega)
  | is_ => exact op_isN.or op_isBl
  | isn => exact op_notN.or op_notBl
  | in_ => exact (op_inD hu).or (op_in_seq.or op_in_sign)
  | nin => exact (op_notInD hu).or (op_notIn_seq.or op_notIn_sign)
end
section
variable {X : Cx} {G : Nm} {K : PySem.W.Frag} {B M : List Addr} {H : Hp} {Q : VK} {S : Store} {x y : V} {p q : PV} {k : Bool}
theorem not_lt_le (a b : List Nat) : (!decide (b < a)) = decide (a ≤ b) := by
  rw [Bool.eq_iff_iff]
  simp only [Bool.not_eq_true', decide_eq_false_iff_not, decide_eq_true_eq]
  exact List.not_lt
theorem flat_of (hx : RV K B M H x p) (h : flatP p = true) : flatV x = true := by
  cases p with
  | non => rw [hx.non_inv]; rfl
  | bl b => rw [hx.bl_inv]; rfl
  | int i => rw [hx.int_inv]; rfl
  | str s => obtain ⟨a, rfl, _, _⟩ := hx.str_inv; rfl
  | _ => cases h
theorem str_beq (a b : Str) : (a.cps.toList == b.cps.toList) = (a == b) := by
  rw [Bool.eq_iff_iff]
  simp only [beq_iff_eq]
  constructor
  · intro h
    obtain ⟨x⟩ := a
    obtain ⟨y⟩ := b
    have : x = y := Array.toList_inj.mp h
    rw [this]
  · intro h; rw [h]
theorem eqV_peq (hx : RV K B M H x p) (hy : RV K B M H y q) (h1 : flatP p = true) (h2 : flatP q = true) : eqV x y = peq p q := by
  cases p with
  | non =>
    rw [hx.non_inv]
    cases q with
    | non => rw [hy.non_inv]; rfl
    | bl b => rw [hy.bl_inv]; rfl
    | int i => rw [hy.int_inv]; rfl
    | str s => obtain ⟨a, rfl, rfl, _⟩ := hy.str_inv; rfl
    | _ => cases h2
  | bl c =>
    rw [hx.bl_inv]
    cases q with
    | non => rw [hy.non_inv]; rfl
    | bl b => rw [hy.bl_inv]; rfl
    | int i => rw [hy.int_inv]; rfl
    | str s => obtain ⟨a, rfl, rfl, _⟩ := hy.str_inv; rfl
    | _ => cases h2
  | int c =>
    rw [hx.int_inv]
    cases q with
    | non => rw [hy.non_inv]; rfl
    | bl b => rw [hy.bl_inv]; rfl
    | int i => rw [hy.int_inv]; rfl
    | str s => obtain ⟨a, rfl, rfl, _⟩ := hy.str_inv; rfl
    | _ => cases h2
  | str c =>
    obtain ⟨a, rfl, rfl, _⟩ := hx.str_inv
    cases q with
    | non => rw [hy.non_inv]; rfl
    | bl b => rw [hy.bl_inv]; rfl
    | int i => rw [hy.int_inv]; rfl
    | str s =>
      obtain ⟨b, rfl, rfl, _⟩ := hy.str_inv
      simp only [eqV, peq]
      exact (str_beq a b).symm
    | _ => cases h2
  | _ => cases h1
theorem any_flat {vs : List V} {l : List PV} (hx : RV K B M H x p) (h1 : flatP p = true) : ∀ {l : List PV} {vs : List V}, RVs K B M H vs l → l.all flatP = true → (vs.any fun y => eqV y x) = (l.any fun y => peq y p) ∧ vs.all flatV = true := by
  intro l
  induction l with
  | nil => intro vs r _; rw [r.nil_inv]; exact ⟨rfl, rfl⟩
  | cons q l ih =>
    intro vs r h
    obtain ⟨v, w, rfl, a, b⟩ := r.cons_inv
    have h' : (flatP q && l.all flatP) = true := by simpa using h
    obtain ⟨h2, h3⟩ := Bool.and_eq_true_iff.mp h'
    obtain ⟨e1, e2⟩ := ih b h3
    refine ⟨?_, ?_⟩
    · simp only [List.any_cons, e1, eqV_peq a hx h2 h1]
    · simp only [List.all_cons, e2, flat_of a h2]; rfl
theorem isDs_get {n : Nat} : ∀ {ds : List PV}, isDs n ds = true → ∀ d ∈ ds, isD n d = true := by
  intro ds
  induction ds with
  | nil => intro _ d h; cases h
  | cons p r ih =>
    intro h d hd
    have h' : (isD n p && isDs n r) = true := by simpa only [isDs] using h
    obtain ⟨a, b⟩ := Bool.and_eq_true_iff.mp h'
    rcases List.mem_cons.mp hd with e | e
    · rw [e]; exact a
    · exact ih b d e
theorem any_toD {n : Nat} {d : PV} (hd : isD n d = true) : ∀ (ds : List PV), isDs n ds = true → ((toDs ds).any fun z => PyData.eqv z (toD d)) = ds.any fun y => peq y d := by
  intro ds
  induction ds with
  | nil => intro _; rfl
  | cons p r ih =>
    intro h
    have h' : (isD n p && isDs n r) = true := by simpa only [isDs] using h
    obtain ⟨a, b⟩ := Bool.and_eq_true_iff.mp h'
    simp only [toDs, List.any_cons, ih b, peq_eqv n n p d a hd]
theorem datas_of (r : RS K G B M H S) {n : Nat} : ∀ (l ds : List PV) (vs : List V), l.mapM (dataOf S n) = some ds → RVs K B M H vs l → DpAll K H vs (toDs ds) ∧ isDs n ds = true := by
  intro l
  induction l with
  | nil =>
    intro ds vs h hv
    rw [mapM_nil h, hv.nil_inv]
    exact ⟨.nil, rfl⟩
  | cons p l ihl =>
    intro ds vs h hv
    obtain ⟨b, t, e1, e2, rfl⟩ := mapM_cons h
    obtain ⟨v, w, rfl, h1, h2⟩ := hv.cons_inv
    have q1 := data_of r n p b v e1 h1
    have q2 := ihl t w e2 h2
    exact ⟨.cons q1.1 q2.1, by simp only [isDs, q1.2, q2.2]; rfl⟩
/-- x in a list -/
theorem in_list {a : Addr} {vs : List V} {l : List PV} (r : RS K G B M H S) (hx : RV K B M H x p) (hs : SqL K H a vs) (rv : RVs K B M H vs l) (h : inSeq S p l = some k) :
    ∃ d ds, Dp K H x d ∧ Dp K H (.ref a) (.list ds) ∧ SeqAt.shaped d = true ∧ SeqAt.shaped (.list ds) = true ∧ (ds.any fun z => PyData.eqv z d) = k := by
  unfold inSeq at h
  cases e1 : dataOf S depthL p with
  | none => rw [e1] at h; cases h
  | some d =>
    cases e2 : l.mapM (dataOf S depthL) with
    | none => rw [e1, e2] at h; cases h
    | some ds =>
      rw [e1, e2] at h
      have h' := Option.some.inj h
      obtain ⟨d1, s1⟩ := data_of r _ p d x e1 hx
      obtain ⟨d2, s2⟩ := datas_of r l ds vs e2 rv
      refine ⟨toD d, toDs ds, d1, .lst hs d2, shaped_of s1 (by decide), ?_, (any_toD s1 ds s2).trans h'⟩
      exact shaped_of (n := depthL + 1) (d := .fl ds) s2 (by decide)
theorem in_ok (r : RS K G B M H S) (hx : RV K B M H x p) (hy : RV K B M H y q) (h : inOp p q S = some k) :
    (∃ d ds, Dp K H x d ∧ Dp K H y (.list ds) ∧ SeqAt.shaped d = true ∧ SeqAt.shaped (.list ds) = true ∧ (ds.any fun z => PyData.eqv z d) = k) ∨
    (∃ a xs, y = .ref a ∧ (SqL K H a xs ∨ SqT K H a xs) ∧ flatV x = true ∧ xs.all flatV = true ∧ inV x xs = k) ∨
    (∃ (c : Nat) (z : Str), x = .str ⟨#[c]⟩ ∧ y = .str z ∧ decide (c ∈ z.cps.toList) = k) := by
  cases q with
  | str b =>
    obtain ⟨z, rfl, rfl, _⟩ := hy.str_inv
    cases p with
    | str s =>
      cases s with
      | nil => cases h
      | cons c t =>
        cases t with
        | nil =>
          obtain ⟨w, rfl, e, _⟩ := hx.str_inv
          refine .inr (.inr ⟨c, z, ?_, rfl, Option.some.inj h⟩)
          obtain ⟨cs⟩ := w
          have : cs = #[c] := by
            apply Array.toList_inj.mp
            exact e.symm
          rw [this]
        | cons _ _ => cases h
    | _ => cases h
  | loc n =>
    simp only [inOp] at h
    cases hs : S[n]? with
    | none => rw [hs] at h; cases h
    | some c =>
      rw [hs] at h
      cases c with
      | lst l =>
        obtain ⟨a, vs, rfl, _, ha, rv, _⟩ := loc_of r hy hs
        exact .inl (in_list r hx (.of ha) rv h)
      | dct l =>
        obtain ⟨a, rfl, hm⟩ := hy.loc_inv
        exact (r.cell n _ a hs hm).elim
      | ins c l => cases h
  | tup l =>
    obtain ⟨a, vs, rfl, t, rv, _⟩ := hy.tup_inv
    simp only [inOp] at h
    split at h
    · rename_i hf
      obtain ⟨h1, h2⟩ := Bool.and_eq_true_iff.mp hf
      obtain ⟨e1, e2⟩ := any_flat (vs := vs) (l := l) hx h1 rv h2
      exact .inr (.inl ⟨a, vs, rfl, .inr t.sq, flat_of hx h1, e2, e1.trans (Option.some.inj h)⟩)
    · cases h
  | fl l =>
    obtain ⟨a, vs, rfl, t, rv, _⟩ := hy.fl_inv
    exact .inl (in_list r hx t.sq rv h)
  | _ => cases h
theorem is_ok (hx : RV K B M H x p) (hy : RV K B M H y q) (h : isOp p q = some k) : (y = .non ∧ decide (x = .non) = k) ∨ ∃ a b : Bool, x = .bl a ∧ y = .bl b ∧ decide (a = b) = k := by
  cases q with
  | non =>
    refine .inl ⟨hy.non_inv, ?_⟩
    have h' := Option.some.inj h
    rw [← h']
    cases p with
    | non => rw [hx.non_inv]; rfl
    | bl b => rw [hx.bl_inv]; rfl
    | int b => rw [hx.int_inv]; rfl
    | str b => obtain ⟨_, rfl, _⟩ := hx.str_inv; rfl
    | tup b => obtain ⟨_, _, rfl, _⟩ := hx.tup_inv; rfl
    | fl b => obtain ⟨_, _, rfl, _⟩ := hx.fl_inv; rfl
    | loc b => obtain ⟨_, rfl, _⟩ := hx.loc_inv; rfl
    | exc c l => obtain ⟨_, rfl, _⟩ := hx.exc_inv; rfl
    | scr b => obtain ⟨_, _, rfl, _⟩ := hx.scr_inv; rfl
  | bl b =>
    cases p with
    | bl c =>
      refine .inr ⟨c, b, hx.bl_inv, hy.bl_inv, ?_⟩
      have h' := Option.some.inj h
      rw [← h']
      cases b <;> cases c <;> rfl
    | _ => cases h
  | _ => cases h
theorem neg_some {o : Option Bool} (h : o.map (fun b => !b) = some k) : o = some (!k) := by
  cases o with
  | none => cases h
  | some b =>
    have h' : (!b) = k := Option.some.inj h
    rw [← h']
    cases b <;> rfl
theorem cmp_ok {o : Cp} (r : RS K G B M H S) (hx : RV K B M H x p) (hy : RV K B M H y q) (h : cmpop o p q S = some k) (hq : Q (.bl k) H) : rCmp K o x y H Q := by
  have nums : ∀ (fi : Int → Int → Bool) (fs : List Nat → List Nat → Bool), numCmp fi fs p q = some k →
      rI0 (fun i j => .bl (fi i j)) x y H Q ∨ ∃ i j : Str, x = .str i ∧ y = .str j ∧ fs i.cps.toList j.cps.toList = k := fun fi fs h => by
    cases p with
    | int i =>
      cases q with
      | int j =>
        rw [hx.int_inv, hy.int_inv]
        have h' := Option.some.inj h
        exact .inl ⟨i, j, rfl, rfl, by show Q (.bl (fi i j)) H; rw [h']; exact hq⟩
      | _ => cases h
    | str s =>
      cases q with
      | str t =>
        obtain ⟨a, rfl, rfl, _⟩ := hx.str_inv
        obtain ⟨b, rfl, rfl, _⟩ := hy.str_inv
        exact .inr ⟨a, b, rfl, rfl, Option.some.inj h⟩
      | _ => cases h
    | _ => cases h
  cases o with
  | lt =>
    rcases nums (fun i j => decide (i < j)) (fun i j => decide (i < j)) h with z | ⟨a, b, e1, e2, e⟩
    · exact .inl z
    · exact .inr ⟨a, b, e1, e2, by rw [e]; exact hq⟩
  | gt =>
    rcases nums (fun i j => decide (j < i)) (fun i j => decide (j < i)) h with z | ⟨a, b, e1, e2, e⟩
    · exact .inl z
    · exact .inr ⟨a, b, e1, e2, by rw [e]; exact hq⟩
  | le =>
    rcases nums (fun i j => decide (i ≤ j)) (fun i j => decide (i ≤ j)) h with z | ⟨a, b, e1, e2, e⟩
    · exact .inl z
    · exact .inr ⟨a, b, e1, e2, by rw [not_lt_le, e]; exact hq⟩
  | ge =>
    rcases nums (fun i j => decide (j ≤ i)) (fun i j => decide (j ≤ i)) h with z | ⟨a, b, e1, e2, e⟩
    · exact .inl z
    · exact .inr ⟨a, b, e1, e2, by rw [not_lt_le, e]; exact hq⟩
  | eq =>
    obtain ⟨d, e, a1, a2, a3, a4, a5⟩ := eqS_ok r hx hy h
    exact ⟨d, e, a1, a2, a3, a4, by rw [a5]; exact hq⟩
  | ne =>
    obtain ⟨d, e, a1, a2, a3, a4, a5⟩ := eqS_ok r hx hy (neg_some h)
    exact ⟨d, e, a1, a2, a3, a4, by rw [a5, Bool.not_not]; exact hq⟩
  | is_ =>
    rcases is_ok hx hy h with ⟨a, e⟩ | ⟨a, b, e1, e2, e⟩
    · exact .inl ⟨a, by rw [e]; exact hq⟩
    · exact .inr ⟨a, b, e1, e2, by rw [e]; exact hq⟩
  | isn =>
    rcases is_ok hx hy (neg_some h) with ⟨a, e⟩ | ⟨a, b, e1, e2, e⟩
    · exact .inl ⟨a, by rw [e, Bool.not_not]; exact hq⟩
    · exact .inr ⟨a, b, e1, e2, by rw [e, Bool.not_not]; exact hq⟩
  | in_ =>
    rcases in_ok r hx hy h with ⟨d, ds, a1, a2, a3, a4, e⟩ | ⟨a, xs, a1, a2, a3, a4, e⟩ | ⟨c, z, e1, e2, e⟩
    · exact .inl ⟨d, ds, a1, a2, a3, a4, by rw [e]; exact hq⟩
    · exact .inr (.inl ⟨a, xs, a1, a2, a3, a4, by simp only [Bool.false_eq_true, if_false]; rw [e]; exact hq⟩)
    · exact .inr (.inr ⟨c, z, e1, e2, by rw [e]; exact hq⟩)
  | nin =>
    rcases in_ok r hx hy (neg_some h) with ⟨d, ds, a1, a2, a3, a4, e⟩ | ⟨a, xs, a1, a2, a3, a4, e⟩ | ⟨c, z, e1, e2, e⟩
    · exact .inl ⟨d, ds, a1, a2, a3, a4, by rw [e, Bool.not_not]; exact hq⟩
    · exact .inr (.inl ⟨a, xs, a1, a2, a3, a4, by simp only [if_true]; rw [e, Bool.not_not]; exact hq⟩)
    · exact .inr (.inr ⟨c, z, e1, e2, by rw [e, Bool.not_not]; exact hq⟩)
end
end G

namespace G
open PySem PySem.Spec PyProof.Rows L2
section
variable (K : PySem.W.Frag) (G : Nm)
/-- what is wanted of a result of any kind -/
def RG {α : Type} (W : Value → Option Addr → Hp → Prop) (B M : List Addr) (H : Hp) (r : R α) (Q : α → List Addr → Hp → Store → Prop) : Prop :=
  match r with
  | .ok a S' => ∀ M' H', Ext B M H B M' H' → (∀ b ∈ B, H' b = H b) → RS K G B M' H' S' → Q a M' H' S'
  | .ex e S' => ∀ cls d M' H', Ext B M H B M' H' → (∀ b ∈ B, H' b = H b) → RS K G B M' H' S' → RX K G B M' H' cls d e → W cls d H'
  | .bad => False
def tT (W : WX) (f : Env → Store → R Bool) : TT := fun σ H Q => ∃ B M env S, At K G B M H σ env S ∧ RG K G (fun c d => W c d σ) B M H (f env S) (fun k _ H' _ => Q k H')
end
section
variable {K : PySem.W.Frag} {G : Nm} {W : Value → Option Addr → Hp → Prop} {B M M1 : List Addr} {H H1 : Hp} {α β : Type}
theorem RG.mv {r : R α} {Q : α → List Addr → Hp → Store → Prop} (h : RG K G W B M H r Q) (e : Ext B M H B M1 H1) (hb : ∀ b ∈ B, H1 b = H b) : RG K G W B M1 H1 r Q := by
  cases r with
  | ok p S => exact fun M' H' e' hb' rs => h M' H' (e.trans e') (fun b q => (hb' b q).trans (hb b q)) rs
  | ex x S => exact fun c d M' H' e' hb' rs rx => h c d M' H' (e.trans e') (fun b q => (hb' b q).trans (hb b q)) rs rx
  | bad => exact h
theorem RG.bind {r : R α} {g : α → Store → R β} {Q : β → List Addr → Hp → Store → Prop} (h : RG K G W B M H (r.bind g) Q) :
    RG K G W B M H r fun a M1 H1 S1 => Ext B M H B M1 H1 ∧ (∀ b ∈ B, H1 b = H b) ∧ RS K G B M1 H1 S1 ∧ RG K G W B M1 H1 (g a S1) Q := by
  cases r with
  | ok p S => exact fun M' H' e' hb' rs => ⟨e', hb', rs, RG.mv (show RG K G W B M H (g p S) Q from h) e' hb'⟩
  | ex x S => exact h
  | bad => exact h
theorem RP.rg {r : R PV} {Q : VK} (h : RP K G W B M H r Q) : RG K G W B M H r fun p M' H' _ => ∀ v, RV K B M' H' v p → Q v H' := by
  cases r with
  | ok p S => exact fun M' H' e hb rs v rv => h v M' H' e hb rs rv
  | ex x S => exact h
  | bad => exact h
theorem RG.rp {r : R PV} {Q : VK} (h : RG K G W B M H r fun p M' H' _ => ∀ v, RV K B M' H' v p → Q v H') : RP K G W B M H r Q := by
  cases r with
  | ok p S => exact fun v M' H' e hb rs rv => h M' H' e hb rs v rv
  | ex x S => exact h
  | bad => exact h
theorem RG.here {a : α} {S : Store} {Q : α → List Addr → Hp → Store → Prop} (h : RG K G W B M H (.ok a S) Q) (r : RS K G B M H S) : Q a M H S := h M H .refl (fun _ _ => rfl) r
theorem RG.imp {r : R α} {Q Q' : α → List Addr → Hp → Store → Prop} (h : RG K G W B M H r Q) (i : ∀ a M' H' S', Q a M' H' S' → Q' a M' H' S') : RG K G W B M H r Q' := by
  cases r with
  | ok p S => exact fun M' H' e hb rs => i _ _ _ _ (h M' H' e hb rs)
  | ex x S => exact h
  | bad => exact h
end
section
variable {X : Cx} {G : Nm} {W : WX} {σ : St} {H : Hp}
/-- a PV part, then anything -/
theorem tE_thenG {β : Type} {B M : List Addr} {env : Env} {S : Store} {f : Env → Store → R PV} {g : PV → Store → R β} {Q : β → List Addr → Hp → Store → Prop} {Q' : VK} (st : At X.K G B M H σ env S)
    (h : RG X.K G (fun c d => W c d σ) B M H ((f env S).bind g) Q)
    (k : ∀ p S1 x M1 H1, Ext B M H B M1 H1 → (∀ b ∈ B, H1 b = H b) → At X.K G B M1 H1 σ env S1 → RV X.K B M1 H1 x p → RG X.K G (fun c d => W c d σ) B M1 H1 (g p S1) Q → Q' x H1) : tE X.K G W f σ H Q' := by
  refine ⟨B, M, env, S, st, RG.rp (RG.imp h.bind fun a M' H' S' q => ?_)⟩
  intro v rv
  exact k a S' v M' H' q.1 q.2.1 (st.mv q.1 q.2.2.1) rv q.2.2.2
/-- a test, then anything -/
theorem tT_thenG {β : Type} {B M : List Addr} {env : Env} {S : Store} {f : Env → Store → R Bool} {g : Bool → Store → R β} {Q : β → List Addr → Hp → Store → Prop} {Q' : Bool → Hp → Prop} (st : At X.K G B M H σ env S)
    (h : RG X.K G (fun c d => W c d σ) B M H ((f env S).bind g) Q)
    (k : ∀ p S1 M1 H1, Ext B M H B M1 H1 → (∀ b ∈ B, H1 b = H b) → At X.K G B M1 H1 σ env S1 → RG X.K G (fun c d => W c d σ) B M1 H1 (g p S1) Q → Q' p H1) : tT X.K G W f σ H Q' := by
  refine ⟨B, M, env, S, st, RG.imp h.bind fun a M' H' S' q => ?_⟩
  exact k a S' M' H' q.1 q.2.1 (st.mv q.1 q.2.2.1) q.2.2.2
end

/-! ### truth -/
section
variable {K : PySem.W.Frag} {G : Nm} {B M : List Addr} {H : Hp} {S : Store} {x : V} {p : PV} {k : Bool}
theorem empty_eq {vs : List V} {l : List PV} (r : RVs K B M H vs l) : (!vs.isEmpty) = !l.isEmpty := by
  cases l with
  | nil => rw [r.nil_inv]; rfl
  | cons p l => obtain ⟨v, w, rfl, _⟩ := r.cons_inv; rfl
theorem tru_of (r : RS K G B M H S) (hx : RV K B M H x p) (h : truthy S p = some k) : TruV K x H k := by
  cases p with
  | non => rw [hx.non_inv]; exact (Option.some.inj h).symm
  | bl b => rw [hx.bl_inv]; exact (Option.some.inj h).symm
  | int i => rw [hx.int_inv]; exact (Option.some.inj h).symm
  | str s =>
    obtain ⟨a, rfl, rfl, ha⟩ := hx.str_inv
    refine ⟨ha.1, ?_⟩
    have h' := Option.some.inj h
    rw [← h']
    obtain ⟨⟨l⟩⟩ := a
    cases l with
    | nil => rfl
    | cons c t =>
      show true = (((c :: t).toArray.size : Int) != 0)
      rw [List.size_toArray, List.length_cons]
      symm
      rw [bne_iff_ne]
      omega
  | tup l =>
    obtain ⟨a, vs, rfl, t, rv, _⟩ := hx.tup_inv
    exact .inr (.inl ⟨vs, t.sq, by rw [empty_eq rv]; exact (Option.some.inj h).symm⟩)
  | fl l =>
    obtain ⟨a, vs, rfl, t, rv, _⟩ := hx.fl_inv
    exact .inl ⟨vs, t.sq, by rw [empty_eq rv]; exact (Option.some.inj h).symm⟩
  | loc n =>
    cases hs : S[n]? with
    | none => simp only [truthy, hs] at h; cases h
    | some c =>
      cases c with
      | lst l =>
        simp only [truthy, hs] at h
        obtain ⟨a, vs, rfl, _, ha, rv, _⟩ := loc_of r hx hs
        exact .inl ⟨vs, .of ha, by rw [empty_eq rv]; exact (Option.some.inj h).symm⟩
      | dct l =>
        obtain ⟨a, rfl, hm⟩ := hx.loc_inv
        exact (r.cell n _ a hs hm).elim
      | ins c l => simp only [truthy, hs] at h; cases h
  | exc c l => cases h
  | scr l => cases h
end
abbrev ST (P : Prog) (C : Nat → List PV → Store → R PV) (G : Nm) (X : Cx) (W : WX) (e : Expr) (m : ME) : Prop := PT X e (tT X.K G W fun env S => evB (ev P C m env S))
theorem R.bind_assoc {α β γ : Type} (r : R α) (f : α → Store → R β) (g : β → Store → R γ) : (r.bind f).bind g = r.bind fun a S => (f a S).bind g := by cases r <;> rfl
section
variable {P : Prog} {C : Nat → List PV → Store → R PV} {G : Nm} {X : Cx} {W : WX} {pos : Pos} {e e1 e2 e3 : Expr} {m m1 m2 m3 : ME}
theorem lift_some {α : Type} {K : PySem.W.Frag} {G : Nm} {W : Value → Option Addr → Hp → Prop} {B M : List Addr} {H : Hp} {S : Store} {o : Option α} {Q : α → List Addr → Hp → Store → Prop} (h : RG K G W B M H (lift o S) Q) (r : RS K G B M H S) : ∃ a, o = some a ∧ Q a M H S := by
  cases o with
  | none => exact h.elim
  | some a => exact ⟨a, rfl, h.here r⟩
theorem liftP_some {K : PySem.W.Frag} {G : Nm} {W : Value → Option Addr → Hp → Prop} {B M : List Addr} {H : Hp} {S : Store} {o : Option PV} {Q : VK} (h : RP K G W B M H (lift o S) Q) : ∃ a, o = some a ∧ RP K G W B M H (.ok a S) Q := by
  cases o with
  | none => exact h.elim
  | some a => exact ⟨a, rfl, h⟩
/-- truth of a value -/
theorem tE_truth {f : Env → Store → R PV} {σ : St} {H : Hp} {Q : Bool → Hp → Prop} (h : tT X.K G W (fun env S => evB (f env S)) σ H Q) : tE X.K G W f σ H fun x H' => ∃ k, TruV X.K x H' k ∧ Q k H' := by
  obtain ⟨B, M, env, S, st, q⟩ := h
  refine tE_thenG st q fun p S1 x M1 H1 e1 b1 st1 r1 q1 => ?_
  obtain ⟨k, hk, q2⟩ := lift_some q1 st1.s
  exact ⟨k, tru_of st1.s r1 hk, q2⟩
/-- a test that is a value's truth -/
theorem st_truth (h : SE P C G X W e m) (he : ∀ whole, isTrue e X.env whole = (do let v ← whole; standAt e.pos; holding [v] (PySem.truthy v))) : ST P C G X W e m :=
  PT.imp (pt_truth h he) fun σ H Q q => tE_truth q

/-! ### operators -/
def oper : Op2 → Operator
  | .add => .Add | .sub => .Sub | .mul => .Mult | .fdiv => .FloorDiv | .mod => .Mod | .pow => .Pow
theorem se_bin {o : Op2} {k : Bool} (h1 : SE P C G X W e1 m1) (h2 : SE P C G X W e2 m2) : SE P C G X W (.BinOp e1 (oper o) e2 pos) (.bin k o m1 m2) := by
  have ee : ev P C (.bin k o m1 m2) = fun env S => (ev P C m1 env S).bind fun x S => (ev P C m2 env S).bind fun y S => binop k o x y S := by funext env S; simp only [ev]
  show PE X _ (tE X.K G W (ev P C (.bin k o m1 m2)))
  rw [ee]
  cases o with
  | add => exact PE.imp (pe_op op_add4 h1 h2) fun σ H Q q => tE_then2 q fun B M env S p q x y H2 st rx ry z => bin_add st.s rx ry z
  | sub => exact PE.imp (pe_op op_sub h1 h2) fun σ H Q q => tE_then2 q fun B M env S p q x y H2 st rx ry z => bin_sub st.s rx ry z
  | mul => exact PE.imp (pe_op op_mul3 h1 h2) fun σ H Q q => tE_then2 q fun B M env S p q x y H2 st rx ry z => bin_mul st.s rx ry z
  | fdiv => exact PE.imp (pe_op op_fdiv h1 h2) fun σ H Q q => tE_then2 q fun B M env S p q x y H2 st rx ry z => bin_fdiv st.s rx ry z
  | mod => exact PE.imp (pe_op op_mod h1 h2) fun σ H Q q => tE_then2 q fun B M env S p q x y H2 st rx ry z => bin_mod st.s rx ry z
  | pow => exact PE.imp (pe_op op_pow h1 h2) fun σ H Q q => tE_then2 q fun B M env S p q x y H2 st rx ry z => bin_pow st.s rx ry z
theorem se_neg (h1 : SE P C G X W e1 m1) : SE P C G X W (.UnaryOp .USub e1 pos) (.neg m1) := by
  have ee : ev P C (.neg m1) = fun env S => (ev P C m1 env S).bind fun x S => negV x S := by funext env S; simp only [ev]
  show PE X _ (tE X.K G W (ev P C (.neg m1)))
  rw [ee]
  exact PE.imp (pe_un un_neg h1) fun σ H Q q => tE_then1 q fun B M env S p x H2 st rx z => neg_ok st.s rx z
/-! ### comparisons -/
theorem cmpV_some {K : PySem.W.Frag} {G : Nm} {W : Value → Option Addr → Hp → Prop} {B M : List Addr} {H : Hp} {S : Store} {o : Cp} {p q : PV} {g : Bool → Store → R PV} {Q : VK} (h : RP K G W B M H ((cmpV o p q S).bind g) Q) : ∃ k, cmpop o p q S = some k ∧ RP K G W B M H (g k S) Q := by
  unfold cmpV at h
  cases e : cmpop o p q S with
  | none => rw [e] at h; exact h.elim
  | some k => rw [e] at h; exact ⟨k, rfl, h⟩
theorem cmpV_someG {K : PySem.W.Frag} {G : Nm} {W : Value → Option Addr → Hp → Prop} {B M : List Addr} {H : Hp} {S : Store} {o : Cp} {p q : PV} {α : Type} {g : Bool → Store → R α} {Q : α → List Addr → Hp → Store → Prop} (h : RG K G W B M H ((cmpV o p q S).bind g) Q) : ∃ k, cmpop o p q S = some k ∧ RG K G W B M H (g k S) Q := by
  unfold cmpV at h
  cases e : cmpop o p q S with
  | none => rw [e] at h; exact h.elim
  | some k => rw [e] at h; exact ⟨k, rfl, h⟩
theorem ev_cmp {o : Cp} : ev P C (.cmp o m1 m2) = fun env S => (ev P C m1 env S).bind fun x S => (ev P C m2 env S).bind fun y S => (cmpV o x y S).bind fun k S => .ok (.bl k) S := by funext env S; simp only [ev]
theorem se_cmp {o : Cp} (hu : X.A.units + 65 < cLine) (h1 : SE P C G X W e1 m1) (h2 : SE P C G X W e2 m2) (hm : behindInMarks (opOf o) e2 = false) : SE P C G X W (.Compare e1 [opOf o] [e2] pos) (.cmp o m1 m2) := by
  show PE X _ (tE X.K G W (ev P C (.cmp o m1 m2)))
  rw [ev_cmp]
  refine PE.imp (pe_cmpR (op_cmp hu o) h1 h2 hm) fun σ H Q q => tE_then2 q fun B M env S p q x y H2 st rx ry z => ?_
  obtain ⟨k, hk, z⟩ := cmpV_some z
  exact cmp_ok st.s rx ry hk (fin_val st.s z (.bl k))
theorem st_cmp {o : Cp} (hu : X.A.units + 65 < cLine) (h1 : SE P C G X W e1 m1) (h2 : SE P C G X W e2 m2) (hm : behindInMarks (opOf o) e2 = false) : ST P C G X W (.Compare e1 [opOf o] [e2] pos) (.cmp o m1 m2) := by
  show PT X _ (tT X.K G W fun env S => evB (ev P C (.cmp o m1 m2) env S))
  rw [ev_cmp]
  refine PT.imp (pt_cmpR (op_cmp hu o) h1 h2 hm) fun σ H Q q => ?_
  obtain ⟨B, M, env, S, st, q⟩ := q
  simp only [evB, R.bind_assoc] at q
  refine tE_thenG st q fun p S1 x M1 H1 e1 b1 st1 r1 q1 => tE_thenG st1 q1 fun p2 S2 y M2 H2 e2 b2 st2 r2 q2 => ?_
  obtain ⟨k, hk, z⟩ := cmpV_someG q2
  obtain ⟨k', hk', z2⟩ := lift_some (show RG X.K G _ B M2 H2 (lift (truthy S2 (.bl k)) S2) _ from z) st2.s
  have ek : k' = k := (Option.some.inj hk').symm
  rw [ek] at z2
  exact cmp_ok st2.s (r1.mv e2) r2 hk ⟨k, rfl, z2⟩
theorem ev_ch2 {o p : Cp} : ev P C (.ch2 o p m1 m2 m3) = fun env S => (ev P C m1 env S).bind fun x S => (ev P C m2 env S).bind fun y S => (cmpV o x y S).bind fun k S =>
      if k then (ev P C m3 env S).bind fun z S => (cmpV p y z S).bind fun k S => .ok (.bl k) S else .ok (.bl false) S := by funext env S; simp only [ev]
theorem se_ch2 {o o2 : Cp} (hu : X.A.units + 65 < cLine) (h1 : SE P C G X W e1 m1) (h2 : SE P C G X W e2 m2) (h3 : SE P C G X W e3 m3) (hm : lastMarks [opOf o, opOf o2] [e2, e3] = false) :
    SE P C G X W (.Compare e1 [opOf o, opOf o2] [e2, e3] pos) (.ch2 o o2 m1 m2 m3) := by
  show PE X _ (tE X.K G W (ev P C (.ch2 o o2 m1 m2 m3)))
  rw [ev_ch2]
  refine PE.imp (pe_chain (op_cmp hu o) (op_cmp hu o2) h1 h2 h3 hm) fun σ H Q q => tE_then2 q fun B M env S p q x y H2 st rx ry z => ?_
  obtain ⟨k, hk, z⟩ := cmpV_some z
  refine cmp_ok st.s rx ry hk ⟨k, rfl, ?_⟩
  cases k with
  | false => exact iteF (fin_val st.s z (.bl false))
  | true =>
    refine iteT (tE_then st z fun p3 S3 w M3 H3 e3 b3 st3 r3 q3 => ?_)
    obtain ⟨k, hk, z⟩ := cmpV_some q3
    exact cmp_ok st3.s (ry.mv e3) r3 hk (fin_val st3.s z (.bl k))
theorem st_ch2 {o o2 : Cp} (hu : X.A.units + 65 < cLine) (h1 : SE P C G X W e1 m1) (h2 : SE P C G X W e2 m2) (h3 : SE P C G X W e3 m3) (hm : lastMarks [opOf o, opOf o2] [e2, e3] = false) :
    ST P C G X W (.Compare e1 [opOf o, opOf o2] [e2, e3] pos) (.ch2 o o2 m1 m2 m3) := by
  show PT X _ (tT X.K G W fun env S => evB (ev P C (.ch2 o o2 m1 m2 m3) env S))
  rw [ev_ch2]
  refine PT.imp (pt_chain (op_cmp hu o) (op_cmp hu o2) h1 h2 h3 hm) fun σ H Q q => ?_
  obtain ⟨B, M, env, S, st, q⟩ := q
  simp only [evB, R.bind_assoc] at q
  refine tE_thenG st q fun p S1 x M1 H1 e1 b1 st1 r1 q1 => tE_thenG st1 q1 fun p2 S2 y M2 H2 e2 b2 st2 r2 q2 => ?_
  obtain ⟨k, hk, z⟩ := cmpV_someG q2
  refine cmp_ok st2.s (r1.mv e2) r2 hk ⟨k, rfl, ?_⟩
  cases k with
  | false =>
    obtain ⟨k', hk', z2⟩ := lift_some (show RG X.K G _ B M2 H2 (lift (truthy S2 (.bl false)) S2) _ from z) st2.s
    have ek : k' = false := (Option.some.inj hk').symm
    rw [ek] at z2
    exact iteF ⟨false, rfl, z2⟩
  | true =>
    rw [if_pos rfl] at z
    simp only [R.bind_assoc] at z
    refine iteT (tE_thenG st2 z fun p3 S3 w M3 H3 e3 b3 st3 r3 q3 => ?_)
    obtain ⟨k, hk, z⟩ := cmpV_someG q3
    obtain ⟨k', hk', z2⟩ := lift_some (show RG X.K G _ B M3 H3 (lift (truthy S3 (.bl k)) S3) _ from z) st3.s
    have ek : k' = k := (Option.some.inj hk').symm
    rw [ek] at z2
    exact cmp_ok st3.s (r2.mv e3) r3 hk ⟨k, rfl, z2⟩
/-! ### and, or, not, if -/
variable {rest : List Expr}
theorem se_one {op : PySem.BoolOp} (h : SE P C G X W e m) : SE P C G X W (.BoolOp op [e] pos) m := pe_one h
theorem se_and (h1 : SE P C G X W e1 m1) (h2 : SE P C G X W (.BoolOp .And (e2 :: rest) pos) m2) : SE P C G X W (.BoolOp .And (e1 :: e2 :: rest) pos) (.and m1 m2) := by
  refine PE.imp (pe_andT h1 h2) fun σ H Q q => ?_
  obtain ⟨B, M, env, S, st, q⟩ := q
  simp only [ev] at q
  refine tE_then st q fun p S1 x M1 H1 e1 b1 st1 r1 q1 => ?_
  cases hk : truthy S1 p with
  | none => rw [hk] at q1; exact q1.elim
  | some k =>
    rw [hk] at q1
    refine ⟨k, tru_of st1.s r1 hk, ?_⟩
    cases k with
    | false => exact iteF (fin_val st1.s q1 r1)
    | true => exact iteT ⟨B, M1, env, S1, st1, q1⟩
theorem se_or (h1 : SE P C G X W e1 m1) (h2 : SE P C G X W (.BoolOp .Or (e2 :: rest) pos) m2) : SE P C G X W (.BoolOp .Or (e1 :: e2 :: rest) pos) (.or m1 m2) := by
  refine PE.imp (pe_orT h1 h2) fun σ H Q q => ?_
  obtain ⟨B, M, env, S, st, q⟩ := q
  simp only [ev] at q
  refine tE_then st q fun p S1 x M1 H1 e1 b1 st1 r1 q1 => ?_
  cases hk : truthy S1 p with
  | none => rw [hk] at q1; exact q1.elim
  | some k =>
    rw [hk] at q1
    refine ⟨k, tru_of st1.s r1 hk, ?_⟩
    cases k with
    | true => exact iteT (fin_val st1.s q1 r1)
    | false => exact iteF ⟨B, M1, env, S1, st1, q1⟩
abbrev SW (P : Prog) (C : Nat → List PV → Store → R PV) (G : Nm) (X : Cx) (W : WX) (e : Expr) (m : ME) : Prop := PW X e (tT X.K G W fun env S => evB (ev P C m env S))
theorem PW.imp {t t' : TT} (h : PW X e t) (i : ∀ σ H Q, t' σ H Q → t σ H Q) : PW X e t' := ⟨fun wh pins s σ H Q I q => h.run wh pins s σ H Q I (i σ H Q q)⟩
theorem sw_one {op : PySem.BoolOp} (h : ST P C G X W e m) : SW P C G X W (.BoolOp op [e] pos) m := by
  cases op with
  | And => exact pw_and1 h
  | Or => exact pw_or1 h
theorem sw_and (h1 : ST P C G X W e1 m1) (h2 : SW P C G X W (.BoolOp .And (e2 :: rest) pos) m2) : SW P C G X W (.BoolOp .And (e1 :: e2 :: rest) pos) (.and m1 m2) := by
  refine PW.imp (pw_and h1 h2) fun σ H Q q => ?_
  obtain ⟨B, M, env, S, st, q⟩ := q
  simp only [ev, evB, R.bind_assoc] at q
  have q' : RG X.K G (fun c d => W c d σ) B M H ((evB (ev P C m1 env S)).bind fun k S => if k then evB (ev P C m2 env S) else R.ok false S) (fun k _ H' _ => Q k H') := by
    simp only [evB, R.bind_assoc]
    cases e : ev P C m1 env S with
    | ok p S1 =>
      rw [e] at q
      show RG X.K G _ B M H ((lift (truthy S1 p) S1).bind _) _
      have q : RG X.K G _ B M H ((lift (truthy S1 p) S1).bind _) _ := q
      cases hk : truthy S1 p with
      | none => rw [hk] at q; exact q
      | some k =>
        rw [hk] at q
        cases k with
        | true => exact q
        | false =>
          have q : RG X.K G _ B M H ((lift (truthy S1 p) S1)) _ := q
          rw [hk] at q
          exact q
    | ex x S1 => rw [e] at q; exact q
    | bad => rw [e] at q; exact q
  refine tT_thenG st q' fun k S1 M1 H1 e1 b1 st1 q1 => ?_
  cases k with
  | true => exact iteT ⟨B, M1, env, S1, st1, q1⟩
  | false => exact iteF (q1.here st1.s)
theorem sw_or (h1 : ST P C G X W e1 m1) (h2 : SW P C G X W (.BoolOp .Or (e2 :: rest) pos) m2) : SW P C G X W (.BoolOp .Or (e1 :: e2 :: rest) pos) (.or m1 m2) := by
  refine PW.imp (pw_or h1 h2) fun σ H Q q => ?_
  obtain ⟨B, M, env, S, st, q⟩ := q
  simp only [ev, evB, R.bind_assoc] at q
  have q' : RG X.K G (fun c d => W c d σ) B M H ((evB (ev P C m1 env S)).bind fun k S => if k then R.ok true S else evB (ev P C m2 env S)) (fun k _ H' _ => Q k H') := by
    simp only [evB, R.bind_assoc]
    cases e : ev P C m1 env S with
    | ok p S1 =>
      rw [e] at q
      show RG X.K G _ B M H ((lift (truthy S1 p) S1).bind _) _
      have q : RG X.K G _ B M H ((lift (truthy S1 p) S1).bind _) _ := q
      cases hk : truthy S1 p with
      | none => rw [hk] at q; exact q
      | some k =>
        rw [hk] at q
        cases k with
        | false => exact q
        | true =>
          have q : RG X.K G _ B M H ((lift (truthy S1 p) S1)) _ := q
          rw [hk] at q
          exact q
    | ex x S1 => rw [e] at q; exact q
    | bad => rw [e] at q; exact q
  refine tT_thenG st q' fun k S1 M1 H1 e1 b1 st1 q1 => ?_
  cases k with
  | false => exact iteF ⟨B, M1, env, S1, st1, q1⟩
  | true => exact iteT (q1.here st1.s)
theorem evB_bl {r : R Bool} : evB (r.bind fun k S => R.ok (.bl k) S) = r := by
  cases r <;> rfl
theorem se_not (h1 : SE P C G X W e1 m1) : SE P C G X W (.UnaryOp .Not e1 pos) (.not m1) := by
  refine PE.imp (pe_notT h1) fun σ H Q q => ?_
  obtain ⟨B, M, env, S, st, q⟩ := q
  simp only [ev, evB, R.bind_assoc] at q
  refine tE_then st q fun p S1 x M1 H1 e1 b1 st1 r1 q1 => ?_
  cases hk : truthy S1 p with
  | none => rw [hk] at q1; exact q1.elim
  | some k =>
    rw [hk] at q1
    exact ⟨k, tru_of st1.s r1 hk, fin_val st1.s q1 (.bl _)⟩
theorem st_not (h1 : ST P C G X W e1 m1) : ST P C G X W (.UnaryOp .Not e1 pos) (.not m1) := by
  refine PT.imp (pt_not h1) fun σ H Q q => ?_
  obtain ⟨B, M, env, S, st, q⟩ := q
  have ee : evB (ev P C (.not m1) env S) = (evB (ev P C m1 env S)).bind fun k S => .ok (!k) S := by
    simp only [ev]
    cases evB (ev P C m1 env S) <;> rfl
  simp only [ee] at q
  exact tT_thenG st q fun k S1 M1 H1 e1 b1 st1 q1 => q1.here st1.s
theorem se_ite (h1 : ST P C G X W e1 m1) (h2 : SE P C G X W e2 m2) (h3 : SE P C G X W e3 m3) : SE P C G X W (.IfExp e1 e2 e3 pos) (.ite m1 m2 m3) := by
  refine PE.imp (pe_ifExp h1 h2 h3) fun σ H Q q => ?_
  obtain ⟨B, M, env, S, st, q⟩ := q
  simp only [ev] at q
  refine tT_thenG st q.rg fun k S1 M1 H1 e1 b1 st1 q1 => ?_
  cases k with
  | true => exact iteT ⟨B, M1, env, S1, st1, RG.rp q1⟩
  | false => exact iteF ⟨B, M1, env, S1, st1, RG.rp q1⟩
end
end G

namespace G
open PySem PySem.Spec PyProof.Rows L2
section
variable {prog : Program} {w : World} {A : Around} {E : Value → Shared → Prop} {s : Shared}
theorem adjust_rev (n : Nat) : Builtin.Slice.sliceAdjust none none (-1) (n : Int) = ((n : Int) - 1, -1) := by
  unfold Builtin.Slice.sliceAdjust
  rfl
theorem places_rev (n : Nat) : Builtin.Slice.slicePlaces ((n : Int) - 1) (-1) (-1) = n := by
  unfold Builtin.Slice.slicePlaces
  have h1 : ¬ ((-1 : Int) > 0) := by omega
  simp only [h1, if_false]
  have h2 : -(-1 : Int) = 1 := by omega
  simp only [h2, Int.ediv_one]
  split <;> omega
theorem sliceApplied_rev {sl : Addr} {vs : Value} {n : Nat} {Q : Int × Int × Nat → Shared → Prop} (hs : s.heap.IsSliceOf sl .none .none vs) (pv : IsPart vs (some (-1)))
    (h : Q ((n : Int) - 1, -1, n) s) : wpAny (model prog w) A (Builtin.Slice.sliceApplied (.ref sl) (pure (n : Int))) Q E s := by
  obtain ⟨os, hos, hcs, hds⟩ := id hs
  unfold Builtin.Slice.sliceApplied Builtin.Slice.sliceFields
  refine wpAny_bind (wpAny_bind (wpAny_field hos hds (x := .none) rfl (wpAny_bind (wpAny_field hos hds (x := .none) rfl (wpAny_bind (wpAny_field hos hds (x := vs) rfl (wpAny_pure ?_)))))))
  refine wpAny_bind (HT.slicePart_ pv ?_)
  show wpAny _ _ (if ((-1 : Int) == 0) = true then _ else _) _ _ s
  rw [if_neg (by decide)]
  refine wpAny_bind (slicePart_none (wpAny_bind (slicePart_none (wpAny_bind (wpAny_pure ?_)))))
  show wpAny _ _ (match Builtin.Slice.sliceAdjust none none (-1) (n : Int) with | (lo, hi) => pure (lo, (-1 : Int), Builtin.Slice.slicePlaces lo hi (-1))) _ _ s
  rw [adjust_rev n]
  show wpAny _ _ (pure ((n : Int) - 1, (-1 : Int), Builtin.Slice.slicePlaces ((n : Int) - 1) (-1) (-1))) _ _ s
  rw [places_rev]
  exact wpAny_pure h
theorem fm_map {α β : Type} {f : α → Option β} {g : α → β} : ∀ {l : List α}, (∀ x ∈ l, f x = some (g x)) → l.filterMap f = l.map g
  | [], _ => rfl
  | x :: r, h => by
    rw [List.filterMap_cons, h x List.mem_cons_self, List.map_cons, fm_map fun y hy => h y (List.mem_cons_of_mem _ hy)]
theorem pick_rev (xs : Array Value) : ((List.range xs.size).filterMap fun (m : Nat) => xs[(((xs.size : Int) - 1) + (m : Int) * (-1)).toNat]?).toArray = xs.toList.reverse.toArray := by
  congr 1
  apply List.ext_getElem?
  intro i
  by_cases hi : i < xs.size
  · have e1 : (List.range xs.size).filterMap (fun (m : Nat) => xs[(((xs.size : Int) - 1) + (m : Int) * (-1)).toNat]?) = (List.range xs.size).map fun (m : Nat) => xs[xs.size - 1 - m]! := by
      refine fm_map fun m hm => ?_
      have hm' : m < xs.size := by simpa using hm
      have : (((xs.size : Int) - 1) + (m : Int) * (-1)).toNat = xs.size - 1 - m := by omega
      rw [this]
      simp [show xs.size - 1 - m < xs.size by omega]
    rw [e1]
    simp [hi, List.getElem?_reverse, show xs.size - 1 - i < xs.size by omega]
  · have e1 : ((List.range xs.size).filterMap fun (m : Nat) => xs[(((xs.size : Int) - 1) + (m : Int) * (-1)).toNat]?).length ≤ xs.size := by
      refine Nat.le_trans (List.length_filterMap_le _ _) ?_
      simp
    rw [List.getElem?_eq_none (by omega), List.getElem?_eq_none (by simp; omega)]
theorem getItem_tuple_rev {t sl : Addr} {items : Array Value} {vs : Value} {Q : Value → Shared → Prop} (ht : IsTup s.heap t items) (hs : s.heap.IsSliceOf sl .none .none vs) (pv : IsPart vs (some (-1)))
    (h : Q (.ref s.heap.objs.size) { s with heap := s.heap.push { cls := .type "tuple", data := .seq items.toList.reverse.toArray } })
    (hsz : items.size ≤ sizeLine) : wpAny (model prog w) A (getItem (.ref t) (.ref sl)) Q E s := by
  have htake : sizeOk (.seq items.toList.reverse.toArray) := by
    show items.toList.reverse.toArray.size ≤ sizeLine
    rw [List.size_toArray, List.length_reverse, Array.length_toList]
    exact hsz
  obtain ⟨os, hos, hcs, hds⟩ := id hs
  have hTs : s.TypeIs (.ref sl) "slice" := ⟨os, hos, hcs⟩
  unfold getItem
  try with_reducible refine wpAny_holding ?_
  first | refine wpAny_bind (wpAny_pure ?_) | skip
  refine wpAny_bind (wpAny_sequenceKey ht.typeIs (by decide) ?_)
  refine wpAny_bind (wpAny_callSpecial?_slot (name := Str.ofString "__getitem__") ht.typeIs PyProof.Rows.slot_tuple_getitem
    (wpAny_call_entry PyProof.Rows.slot_tuple_getitem ht.typeIs entry_tuple_getitem ?_ (args_tuple_getitem _ _)))
  show wpAny _ _ (Builtin.Tuple.tupleItemsOf (.ref t) >>= _) _ _ s
  refine wpAny_bind (tupleItemsOf_ ht ?_)
  refine wpAny_bind (wpAny_typeOf hTs ?_)
  rw [if_pos (by decide)]
  refine wpAny_bind (sliceApplied_rev hs pv ?_)
  have hno : ¬ (((((items.size : Int) - 1)) == 0 && (-1 : Int) == 1 && items.size == items.size) = true) := by
    intro q
    rw [Bool.and_eq_true, Bool.and_eq_true] at q
    exact absurd q.1.2 (by decide)
  show wpAny _ _ (if ((((items.size : Int) - 1)) == 0 && (-1 : Int) == 1 && items.size == items.size) = true then _ else _) _ _ s
  rw [if_neg hno, pick_rev]
  first
    | exact wpAny_bind (m := Builtin.Tuple.tupleExact _) (wpAny_newObj_type (wpAny_pure ⟨_, rfl, wpAny_pure h⟩) htake)
    | exact wpAny_bind (m := Builtin.Tuple.tupleExact _) (wpAny_newObj_type (wpAny_bind (wpAny_pure (wpAny_pure ⟨_, rfl, wpAny_pure h⟩))) htake)
    | exact wpAny_bind (wpAny_bind (m := Builtin.Tuple.tupleExact _) (wpAny_newObj_type (wpAny_pure (wpAny_pure ⟨_, rfl, wpAny_pure h⟩)) htake))
    | exact wpAny_bind (wpAny_bind (m := Builtin.Tuple.tupleExact _) (wpAny_newObj_type (wpAny_pure ⟨_, rfl, wpAny_pure h⟩) htake))
end
/-- x[::-1] of a list or a tuple -/
def tRev (K : PySem.W.Frag) (te : TE) : TE := fun σ H Q => te σ H fun x H1 => ∃ a xs, x = .ref a ∧ ((SqL K H1 a xs ∧ ∀ p, H1 p = none → Q (.ref p) (upd H1 p (.lst xs.reverse))) ∨ (SqT K H1 a xs ∧ ∀ p, H1 p = none → Q (.ref p) (upd H1 p (.tup xs.reverse))))
theorem pe_rev {X : Cx} {e : Expr} {te : TE} {k : Nat} {p1 p2 p3 pos : Pos} (he : PE X e te) : PE X (.Subscript e (.Slice none none (some (.UnaryOp .USub (.Constant (.int 1) k p1) p2)) p3) pos) (tRev X.K te) := by
  refine ⟨fun pins s σ H Q I h => ?_⟩
  refine Subscript_ (thn (he.run pins s σ H _ I h) fun v s1 ⟨x, H1, I1, r1, q1⟩ => ?_)
  obtain ⟨a, xs, ex, hx⟩ := q1
  subst ex
  cases r1
  have hst : PO X (some (.UnaryOp .USub (.Constant (.int 1) k p1) p2)) (tPart (tUn (rU fun i => .int (-i)) (tC (.int 1)))) := po_some (pe_un un_neg pe_int)
  refine wpAny_Slice (thn (po_none.run pins s1 σ H1 (fun o H2 => o = none ∧ H2 = H1) I1 ⟨rfl, rfl⟩) fun vl s2 ⟨l, H2, I2, pl, el, e2⟩ => ?_)
  subst el e2
  refine thn (po_none.run pins s2 σ H2 (fun o H3 => o = none ∧ H3 = H2) I2 ⟨rfl, rfl⟩) fun vu s3 ⟨u, H3, I3, pu, eu, e3⟩ => ?_
  subst eu e3
  refine thn (hst.run pins s3 σ H3 (fun o H4 => o = some (-1) ∧ H4 = H3) I3 ⟨1, rfl, -1, rfl, rfl, rfl⟩) fun vs s4 ⟨o, H4, I4, ps, eo, e4⟩ => ?_
  subst eo e4
  have I5 : Inv X pins σ H4 { s4 with heap := s4.heap.push { cls := .type "slice", data := .fields #[vl, vu, vs] } } := I4.kept (t' := s4.toks) fun b ob q => Heap.get?_push_of_some _ q
  show wpAny (model X.prog X.w) X.A (subscriptTail e (.Slice none none (some (.UnaryOp .USub (.Constant (.int 1) k p1) p2)) p3) (.ref a) (.ref s4.heap.objs.size)) (EP X pins σ Q) X.xe { s4 with heap := s4.heap.push { cls := .type "slice", data := .fields #[vl, vu, vs] } }
  rcases hx with ⟨hx, q⟩ | ⟨hx, q⟩
  · obtain ⟨its, r, ht, hz⟩ := I5.list hx
    have hlen := r.length
    refine tail_any (ops := [.ref a, .ref s4.heap.objs.size]) ht.isList.typeIs (PySem.slot_list_getitem.lookup) ?_ (by with_unfolding_all rfl)
    refine wpAny_getItem_list_slice ht.isList (Heap.IsSliceOf.new _ vl vu vs) pl pu ps (by decide) ?_ (by rw [List.size_toArray]; omega)
    rw [PySem.W.krv_pick]
    refine ⟨.ref _, _, I5.laid (t' := s4.toks) (o := .lst xs.reverse) (fun b ob q => Heap.get?_push_of_some _ q) (Nat.le_refl _) ?_, rfl, q _ (I5.hok.fresh (Nat.le_refl _))⟩
    exact ⟨by rw [List.length_reverse]; exact hz, _, 0, r.reverse, Heap.get?_push_size _ rfl⟩
  · obtain ⟨its, r, ht, hz⟩ := I5.tuple hx
    have hlen := r.length
    refine tail_any (ops := [.ref a, .ref s4.heap.objs.size]) ht.typeIs (PyProof.Rows.slot_tuple_getitem.lookup) ?_ (by with_unfolding_all rfl)
    cases pl
    cases pu
    refine getItem_tuple_rev ht (Heap.IsSliceOf.new _ .none .none vs) ps ?_ (by rw [List.size_toArray]; omega)
    refine ⟨.ref _, _, I5.laid (t' := s4.toks) (o := .tup xs.reverse) (fun b ob q => Heap.get?_push_of_some _ q) (Nat.le_refl _) ?_, rfl, q _ (I5.hok.fresh (Nat.le_refl _))⟩
    exact ⟨by rw [List.length_reverse]; exact hz, _, r.reverse, ⟨_, Heap.get?_push_size _ rfl, rfl, 0, rfl⟩⟩
end G

namespace G
open PySem PySem.Spec PyProof.Rows L2
/-- several parts -/
def tA (K : PySem.W.Frag) (G : Nm) (W : WX) (f : Env → Store → R (List PV)) : TA := fun σ H Q => ∃ B M env S, At K G B M H σ env S ∧ RG K G (fun c d => W c d σ) B M H (f env S) (fun ps M' H' _ => ∀ vs, RVs K B M' H' vs ps → Q vs H')
abbrev SA (P : Prog) (C : Nat → List PV → Store → R PV) (G : Nm) (X : Cx) (W : WX) (es : List Expr) (ms : List ME) : Prop := PA X es (tA X.K G W (evL P C ms))
theorem PA.imp {X : Cx} {es : List Expr} {t t' : TA} (h : PA X es t) (i : ∀ σ H Q, t' σ H Q → t σ H Q) : PA X es t' := ⟨fun pos pins s σ H Q I q => h.run pos pins s σ H Q I (i σ H Q q)⟩
section
variable {P : Prog} {C : Nat → List PV → Store → R PV} {G : Nm} {X : Cx} {W : WX} {pos : Pos} {e e1 e2 e3 : Expr} {m m1 m2 m3 : ME} {es : List Expr} {ms : List ME}
theorem sa_nil : SA P C G X W [] [] := by
  refine PA.imp pa_nil fun σ H Q q => ?_
  obtain ⟨B, M, env, S, st, q⟩ := q
  simp only [evL] at q
  exact q.here st.s [] .nil
theorem sa_cons (h1 : SE P C G X W e m) (h2 : SA P C G X W es ms) (hs : starEach (e :: es) X.env = (false, eval e X.env) :: starEach es X.env) : SA P C G X W (e :: es) (m :: ms) := by
  refine PA.imp (pa_cons h1 h2 hs) fun σ H Q q => ?_
  obtain ⟨B, M, env, S, st, q⟩ := q
  simp only [evL] at q
  refine tE_thenG st q fun p S1 x M1 H1 e1 b1 st1 r1 q1 => ?_
  refine ⟨B, M1, env, S1, st1, RG.imp q1.bind fun ps M2 H2 S2 q2 => ?_⟩
  intro vs rv
  exact q2.2.2.2.here q2.2.2.1 (x :: vs) (.cons _ _ _ _ (r1.mv q2.1) rv)
/-- argument list, then anything -/
theorem tA_thenG {β : Type} {B M : List Addr} {env : Env} {S : Store} {σ : St} {H : Hp} {f : Env → Store → R (List PV)} {g : List PV → Store → R β} {Q : β → List Addr → Hp → Store → Prop} {Q' : List V → Hp → Prop} (st : At X.K G B M H σ env S)
    (h : RG X.K G (fun c d => W c d σ) B M H ((f env S).bind g) Q)
    (k : ∀ ps S1 vs M1 H1, Ext B M H B M1 H1 → (∀ b ∈ B, H1 b = H b) → At X.K G B M1 H1 σ env S1 → RVs X.K B M1 H1 vs ps → RG X.K G (fun c d => W c d σ) B M1 H1 (g ps S1) Q → Q' vs H1) : tA X.K G W f σ H Q' := by
  refine ⟨B, M, env, S, st, RG.imp h.bind fun a M' H' S' q => ?_⟩
  intro vs rv
  exact k a S' vs M' H' q.1 q.2.1 (st.mv q.1 q.2.2.1) rv q.2.2.2
theorem se_tup {n : Nat} (h : SA P C G X W es ms) : SE P C G X W (.Tuple es n pos) (.tup ms) := by
  refine PE.imp (pe_tup h) fun σ H Q q => ?_
  obtain ⟨B, M, env, S, st, q⟩ := q
  simp only [ev] at q
  refine tA_thenG st q.rg fun ps S1 vs M1 H1 e1 b1 st1 rv q1 => ?_
  have q1 := RG.rp q1
  exact ⟨by rw [rv.length]; exact newTup_len q1, fun p hp => (fin_tup st1.s rv q1 hp).1⟩
theorem se_lst {k : Bool} (h : SA P C G X W es ms) : SE P C G X W (.List es pos) (.lst k ms) := by
  refine PE.imp (pe_lst h) fun σ H Q q => ?_
  obtain ⟨B, M, env, S, st, q⟩ := q
  simp only [ev] at q
  refine tA_thenG st q.rg fun ps S1 vs M1 H1 e1 b1 st1 rv q1 => ?_
  have q1 := RG.rp q1
  exact ⟨by rw [rv.length]; exact newList_len q1, fun p hp => fin_list st1.s rv q1 hp⟩
/-! ### subscripts -/
theorem ixN_same : @_root_.G.ixN = @L2.ixN := rfl
theorem atI_rvs {K : PySem.W.Frag} {B M : List Addr} {H : Hp} {vs : List V} {l : List PV} {i : Int} {p : PV} (r : RVs K B M H vs l) (h : _root_.G.atI l i = some p) : ∃ v, L2.atI vs i = some v ∧ RV K B M H v p := by
  unfold _root_.G.atI at h
  cases e : _root_.G.ixN l.length i with
  | none => rw [e] at h; cases h
  | some j =>
    rw [e] at h
    obtain ⟨v, a, b⟩ := r.get (i := j) (p := p) h
    refine ⟨v, ?_, b⟩
    unfold L2.atI
    rw [r.length, ← ixN_same, e]
    exact a
theorem ix_ok {K : PySem.W.Frag} {G : Nm} {W : Value → Option Addr → Hp → Prop} {B M : List Addr} {H : Hp} {Q : VK} {S : Store} {x y : V} {p q : PV} (r : RS K G B M H S) (hx : RV K B M H x p) (hy : RV K B M H y q) (h : RP K G W B M H (getIx p q S) Q) : rIx K x y H Q := by
  have lists : ∀ (l : List PV) (k : Int) (a : Addr) (vs : List V), q = .int k → x = .ref a → SqL K H a vs → RVs K B M H vs l → RP K G W B M H (lift (_root_.G.atI l k) S) Q → rIx K x y H Q := fun l k a vs eq ex hs rv h => by
    obtain ⟨d, e, h⟩ := liftP_some h
    obtain ⟨v, e2, rd⟩ := atI_rvs rv e
    rw [eq] at hy
    exact .inl ⟨a, vs, k, v, ex, hy.int_inv, hs, e2, fin_val r h rd⟩
  cases p with
  | str s =>
    cases q with
    | int k =>
      obtain ⟨a, rfl, rfl, ha⟩ := hx.str_inv
      have h : RP K G W B M H ((lift (_root_.G.atI a.cps.toList k) S).bind fun c S => .ok (.str [c]) S) Q := h
      cases e : _root_.G.atI a.cps.toList k with
      | none => rw [e] at h; exact h.elim
      | some c =>
        rw [e] at h
        refine .inr (.inr ⟨a, k, c, rfl, hy.int_inv, ha.1, e, ?_⟩)
        refine fin_val r h (.str ⟨#[c]⟩ ⟨?_, fun d hd => ?_⟩)
        · show 1 ≤ sizeLine
          decide
        · have : d = c := by simpa using hd
          rw [this]
          unfold _root_.G.atI at e
          cases e2 : _root_.G.ixN a.cps.toList.length k with
          | none => rw [e2] at e; cases e
          | some j =>
            rw [e2] at e
            exact ha.2 c (List.mem_of_getElem? e)
    | _ => exact h.elim
  | tup l =>
    cases q with
    | int k =>
      obtain ⟨a, vs, rfl, t, rv, _⟩ := hx.tup_inv
      obtain ⟨d, e, h⟩ := liftP_some h
      obtain ⟨v, e2, rd⟩ := atI_rvs rv e
      exact .inr (.inl ⟨a, vs, k, v, rfl, hy.int_inv, t.sq, e2, fin_val r h rd⟩)
    | _ => exact h.elim
  | fl l =>
    cases q with
    | int k =>
      obtain ⟨a, vs, rfl, t, rv, _⟩ := hx.fl_inv
      exact lists l k a vs rfl rfl t.sq rv h
    | _ => exact h.elim
  | loc n =>
    simp only [getIx] at h
    cases hs : S[n]? with
    | none => rw [hs] at h; exact h.elim
    | some c =>
      rw [hs] at h
      cases c with
      | lst l =>
        obtain ⟨a, vs, rfl, _, ha, rv, _⟩ := loc_of r hx hs
        cases q with
        | int k => exact lists l k a vs rfl rfl (.of ha) rv h
        | _ => exact h.elim
      | dct l =>
        obtain ⟨a, rfl, hm⟩ := hx.loc_inv
        exact (r.cell n _ a hs hm).elim
      | ins c l => exact h.elim
  | _ => exact h.elim
theorem se_ix (h1 : SE P C G X W e1 m1) (h2 : SE P C G X W e2 m2) (hs : PlainIx e2) : SE P C G X W (.Subscript e1 e2 pos) (.ix m1 m2) := by
  have ee : ev P C (.ix m1 m2) = fun env S => (ev P C m1 env S).bind fun x S => (ev P C m2 env S).bind fun y S => getIx x y S := by funext env S; simp only [ev]
  show PE X _ (tE X.K G W (ev P C (.ix m1 m2)))
  rw [ee]
  exact PE.imp (pe_ix ix_seq h1 h2 hs) fun σ H Q q => tE_then2 q fun B M env S p q x y H2 st rx ry z => ix_ok st.s rx ry z
/-! ### slices -/
def tOp? (K : PySem.W.Frag) (G : Nm) (W : WX) (f : Env → Store → R (Option Int)) : TO := fun σ H Q => ∃ B M env S, At K G B M H σ env S ∧ RG K G (fun c d => W c d σ) B M H (f env S) (fun o _ H' _ => Q o H')
abbrev SO (P : Prog) (C : Nat → List PV → Store → R PV) (G : Nm) (X : Cx) (W : WX) (e : Option Expr) (m : Option ME) : Prop := PO X e (tOp? X.K G W (evO P C m))
theorem PO.imp {X : Cx} {e : Option Expr} {t t' : TO} (h : PO X e t) (i : ∀ σ H Q, t' σ H Q → t σ H Q) : PO X e t' := ⟨fun pins s σ H Q I q => h.run pins s σ H Q I (i σ H Q q)⟩
theorem so_none : SO P C G X W none none := by
  refine PO.imp po_none fun σ H Q q => ?_
  obtain ⟨B, M, env, S, st, q⟩ := q
  simp only [evO] at q
  exact q.here st.s
theorem so_some (h : SE P C G X W e m) : SO P C G X W (some e) (some m) := by
  refine PO.imp (po_some h) fun σ H Q q => ?_
  obtain ⟨B, M, env, S, st, q⟩ := q
  simp only [evO] at q
  refine tE_thenG st q fun p S1 x M1 H1 e1 b1 st1 r1 q1 => ?_
  cases p with
  | int i => exact ⟨i, r1.int_inv, q1.here st1.s⟩
  | _ => exact q1.elim
theorem tO_thenG {β : Type} {B M : List Addr} {env : Env} {S : Store} {σ : St} {H : Hp} {f : Env → Store → R (Option Int)} {g : Option Int → Store → R β} {Q : β → List Addr → Hp → Store → Prop} {Q' : Option Int → Hp → Prop} (st : At X.K G B M H σ env S)
    (h : RG X.K G (fun c d => W c d σ) B M H ((f env S).bind g) Q)
    (k : ∀ o S1 M1 H1, Ext B M H B M1 H1 → (∀ b ∈ B, H1 b = H b) → At X.K G B M1 H1 σ env S1 → RG X.K G (fun c d => W c d σ) B M1 H1 (g o S1) Q → Q' o H1) : tOp? X.K G W f σ H Q' := by
  refine ⟨B, M, env, S, st, RG.imp h.bind fun a M' H' S' q => ?_⟩
  exact k a S' M' H' q.1 q.2.1 (st.mv q.1 q.2.2.1) q.2.2.2
theorem cut_eq (xs : List V) (lo hi : Option Int) : cutV xs lo hi = cutL xs lo hi := by
  unfold cutV cutL
  have e : @HT.sIx = @_root_.G.sIx := by
    funext n d o
    cases o <;> rfl
  rw [e]
theorem cutL_rvs {K : PySem.W.Frag} {B M : List Addr} {H : Hp} {vs : List V} {l : List PV} {lo hi : Option Int} (r : RVs K B M H vs l) : RVs K B M H (cutL vs lo hi) (cutL l lo hi) := by
  unfold cutL
  rw [r.length]
  exact (r.drop _).take _
theorem sIx_eq : @HT.sIx = @_root_.G.sIx := by
  funext n d o
  cases o <;> rfl
def rSl4 (K : PySem.W.Frag) : V → Option Int → Option Int → Hp → VK → Prop := fun x lo hi H Q => rSlL K x lo hi H Q ∨ rSlA K x lo hi H Q ∨ rSlS x lo hi H Q
theorem sl4 : SlR X (rSl4 X.K) := sl_list.or (sl_tupA.or sl_str)
theorem cutL_len {α : Type} (l : List α) (lo hi : Option Int) : (cutL l lo hi).length ≤ l.length := by
  unfold cutL
  rw [List.length_take, List.length_drop]
  omega
theorem sl_ok {K : PySem.W.Frag} {G : Nm} {W : Value → Option Addr → Hp → Prop} {B M : List Addr} {H : Hp} {Q : VK} {S : Store} {x : V} {p : PV} {k : Bool} {lo hi : Option Int} (r : RS K G B M H S) (hx : RV K B M H x p) (h : RP K G W B M H (slice k p lo hi S) Q) : rSl4 K x lo hi H Q := by
  have lists : ∀ (l : List PV) (a : Addr) (vs : List V), x = .ref a → SqL K H a vs → RVs K B M H vs l → RP K G W B M H (newList k (cutL l lo hi) S) Q → rSl4 K x lo hi H Q := fun l a vs ex hs rv h =>
    .inl ⟨a, vs, ex, hs, fun p hp => by rw [cut_eq]; exact fin_list r (cutL_rvs rv) h hp⟩
  have lsts : RP K G W B M H (match lstOf S p with | some l => newList k (cutL l lo hi) S | none => .bad) Q → rSl4 K x lo hi H Q := fun h => by
    cases e1 : lstOf S p with
    | none => rw [e1] at h; exact h.elim
    | some a =>
      rw [e1] at h
      obtain ⟨l, vs, ex, rd, rv, _⟩ := lst_of r hx e1
      exact lists a l vs ex (.inl rd) rv h
  cases p with
  | str s =>
    obtain ⟨a, rfl, rfl, ha⟩ := hx.str_inv
    refine .inr (.inr ⟨a, rfl, ha.1, ?_⟩)
    have e : (cutS a lo hi).cps.toList = cutL a.cps.toList lo hi := by
      unfold cutS cutL
      simp only [sIx_eq, Str.length]
      simp
    have h : RP K G W B M H (.ok (.str (cutL a.cps.toList lo hi)) S) Q := h
    rw [← e] at h
    refine fin_val r h (.str _ ⟨?_, fun c hc => ?_⟩)
    · have := cutL_len a.cps.toList lo hi
      rw [← e] at this
      have h2 := ha.1
      show (cutS a lo hi).cps.size ≤ _
      rw [Array.length_toList, Array.length_toList] at this
      exact Nat.le_trans this h2
    · rw [e] at hc
      unfold cutL at hc
      exact ha.2 c (List.mem_of_mem_drop (List.mem_of_mem_take hc))
  | tup l =>
    obtain ⟨a, vs, rfl, t, rv, hl⟩ := hx.tup_inv
    have h : RP K G W B M H (.ok (.tup (cutL l lo hi)) S) Q := h
    refine .inr (.inl ⟨a, vs, rfl, t.sq, fun hw => ?_, fun _ p hp => ?_⟩)
    · rw [sIx_eq] at hw
      have e : cutL l lo hi = l := by
        unfold cutL
        rw [rv.length] at hw
        rw [hw.1, hw.2]
        simp
      rw [e] at h
      exact fin_val r h (.tup a vs l t rv hl)
    · rw [cut_eq]
      refine h _ M _ (ext_new hp) (upd_bsy r hp) (r.new hp) (.tup p _ _ (.inl ⟨.inl upd_same, r.free hp⟩) ((cutL_rvs rv).mv (ext_new hp)) ?_)
      exact Nat.le_trans (cutL_len l lo hi) hl
  | scr l =>
    obtain ⟨a, vs, rfl, t, rv, hl⟩ := hx.scr_inv
    exact lists l a vs rfl t.sq rv h
  | fl l => exact lsts h
  | loc n => exact lsts h
  | _ => exact h.elim
variable {lo hi : Option Expr} {mlo mhi : Option ME} {p2 : Pos}
theorem se_sl {k : Bool} (h : SE P C G X W e m) (hl : SO P C G X W lo mlo) (hh : SO P C G X W hi mhi) : SE P C G X W (.Subscript e (.Slice lo hi none p2) pos) (.sl k m mlo mhi) := by
  refine PE.imp (pe_slice sl4 h hl hh) fun σ H Q q => ?_
  obtain ⟨B, M, env, S, st, q⟩ := q
  simp only [ev] at q
  refine tE_thenG st q.rg fun p S1 x M1 H1 e1 b1 st1 r1 q1 => tO_thenG st1 q1 fun l S2 M2 H2 e2 b2 st2 q2 => tO_thenG st2 q2 fun u S3 M3 H3 e3 b3 st3 q3 => ?_
  exact sl_ok st3.s ((r1.mv e2).mv e3) (RG.rp q3)
theorem se_rv {k : Bool} {n : Nat} {p1 p3 p4 : Pos} (h : SE P C G X W e m) : SE P C G X W (.Subscript e (.Slice none none (some (.UnaryOp .USub (.Constant (.int 1) n p1) p3)) p4) pos) (.rv k m) := by
  have ee : ev P C (.rv k m) = fun env S => (ev P C m env S).bind fun x S => revOf k x S := by funext env S; simp only [ev]
  show PE X _ (tE X.K G W (ev P C (.rv k m)))
  rw [ee]
  refine PE.imp (pe_rev h) fun σ H Q q => tE_then1 q fun B M env S p x H2 st rx z => ?_
  have lsts : RP X.K G (fun c d => W c d σ) B M H2 (match lstOf S p with | some l => newList k l.reverse S | none => .bad) Q → ∃ a xs, x = .ref a ∧ ((SqL X.K H2 a xs ∧ ∀ p, H2 p = none → Q (.ref p) (upd H2 p (.lst xs.reverse))) ∨ (SqT X.K H2 a xs ∧ ∀ p, H2 p = none → Q (.ref p) (upd H2 p (.tup xs.reverse)))) := fun h => by
    cases e1 : lstOf S p with
    | none => rw [e1] at h; exact h.elim
    | some a =>
      rw [e1] at h
      obtain ⟨l, vs, ex, rd, rv, _⟩ := lst_of st.s rx e1
      exact ⟨l, vs, ex, .inl ⟨.inl rd, fun p hp => fin_list st.s rv.reverse h hp⟩⟩
  cases p with
  | tup l =>
    obtain ⟨a, vs, rfl, t, rv, hl⟩ := rx.tup_inv
    have z : RP X.K G (fun c d => W c d σ) B M H2 (.ok (.tup l.reverse) S) Q := z
    refine ⟨a, vs, rfl, .inr ⟨t.sq, fun p hp => ?_⟩⟩
    exact z _ M _ (ext_new hp) (upd_bsy st.s hp) (st.s.new hp) (.tup p _ _ (.inl ⟨.inl upd_same, st.s.free hp⟩) (rv.reverse.mv (ext_new hp)) (by rw [List.length_reverse]; exact hl))
  | fl l => exact lsts z
  | loc n => exact lsts z
  | str s => exact z.elim
  | _ => exact z.elim
end
end G

namespace G
open PySem PySem.Spec PyProof.Rows L2
/-! ### where code runs -/
structure Good (k : Nat) (X : Cx) (W : WX) : Prop where
  calm : X.calm = true
  nd : X.N.Nodup
  room : Room k X.A
  tk : Takes X W
  own : PassesOwn (model X.prog X.w) X.A X.env X.xe
theorem Good.hu {k : Nat} {X : Cx} {W : WX} (g : Good k X W) : X.A.units + 65 < cLine := by have := g.room.un; omega
theorem Good.pass {k : Nat} {X : Cx} {W : WX} (g : Good k X W) : ∀ σ, PassesAt (L2.CX X.prog X.w) X σ (WE W σ) := passAt g.tk
/-- nothing leaves a comprehension's block -/
def W0 : WX := fun _ _ _ _ => False
theorem takes0 {X : Cx} : Takes X W0 := fun u s' x => by
  obtain ⟨a, B, sI, pins, σ, H, cls, d, e, I, nb, up, sky, na, os, ag, w⟩ := x
  exact w.elim
theorem Good.blk {k : Nat} {X : Cx} {W : WX} (g : Good k X W) {s : Shared} {H : Hp} {scope : Scope} {cenv : PySem.Env} {fp : List Addr} : Good k (X.blk s H scope cenv fp) W0 := ⟨g.calm, g.nd, g.room, takes0, PassesOwn.never⟩

/-! ### calls of own functions -/
def spec (K : PySem.W.Frag) (G : Nm) (C : Nat → List PV → Store → R PV) (f : Nat) : Sp := fun vs H Q E => ∃ B M S args, RS K G B M H S ∧ RVs K B M H vs args ∧ RP K G E B M H (C f args S) Q
structure CallT (P : Program) (w : World) (K : PySem.W.Frag) (mg : Str → Option Value) (base : Heap) (k : Nat) (G : Nm) (C : Nat → List PV → Store → R PV) (f : Nat) (x : Str) (n : Nat) (ks : List Str) (perm : List Nat) (dfl : List PV) : Prop where
  ex : ∃ (fa : Addr) (fd : FuncData) (ps : List Str) (g : List Value → List Value → List Value) (gV : List V → List V → List V), mg x = some (.ref fa) ∧ PySem.W.keepIn K (.ref fa) = true ∧
    FnOk P w K mg base (L2.CX P w) k fa fd ps (spec K G C f) ∧ KBn K fd ps n ks g gV ∧
    ∀ B M H vs zs args, vs.length = n → zs.length = ks.length → RVs K B M H (vs ++ zs) args → RVs K B M H (gV vs zs) (permArgs args perm dfl)
section
variable {X : Cx} {CX : CXT} {k n : Nat} {f : Addr} {fd : FuncData} {ps ks : List Str} {sp : Sp} {E : St → XK} {x : Str} {p pos : Pos} {e : Expr} {es : List Expr} {kws : List Keyword} {t tk : TA} {g : List Value → List Value → List Value} {gV : List V → List V → List V}
def tCallNS (n m : Nat) (sp : Sp) (gV : List V → List V → List V) (E : St → XK) (t tk : TA) : TE := fun σ H Q => t σ H fun vs H1 => tk σ H1 fun zs H2 => vs.length = n ∧ zs.length = m ∧ sp (gV vs zs) H2 Q (E σ)
theorem pe_callNS (F : FnOk X.prog X.w X.K X.mg X.base CX k f fd ps sp) (hr : Room k X.A) (hg : Gl X x) (hm : X.mg x = some (.ref f)) (hk : PySem.W.keepIn X.K (.ref f) = true) (hb : KBn X.K fd ps n ks g gV) (hx : ∀ σ, PassesAt CX X σ (E σ))
    (ha : PA X (e :: es) t) (hkw : PK X kws tk) (hall : (backToKw pos (keywordEach kws X.env)).all (·.1.isSome) = true) (hks : (backToKw pos (keywordEach kws X.env)).filterMap (·.1) = ks)
    (hdb : (x == ("__debug__" : Str)) = false) (he : starEach (e :: es) X.env = (false, eval e X.env) :: starEach es X.env)
    (hpl : ((backTo pos (starEach (e :: es) X.env)).any (·.1) || (backToKw pos (keywordEach kws X.env)).any (·.1.isNone)) = false) :
    PE X (.Call (.Name x p) (e :: es) kws pos) (tCallNS n ks.length sp gV E t tk) := by
  refine ⟨fun pins s σ H Q I h => ?_⟩
  refine wpAny_Call_Name_kw (ld_glob I hg hm ?_ hdb)
  refine PySem.W.callWith_KW (h₀ := X.base) I.ok.mod.kin hk hall (thn (ha.run pos pins s σ H _ I h) fun us s1 ⟨vs, H1, I1, r, q⟩ => ?_) hpl he
  refine thn (hkw.run pos pins s1 σ H1 _ I1 q) fun ws s2 ⟨zs, H2, I2, rz, l1, l2, q2⟩ => ⟨I2.kIn, ?_⟩
  rw [hks]
  have r2 := hb.rel r rz
  refine wpAny_call (codeAny_mono (F.run X.A X.stack s2 H2 ⟨us, ks.zip ws⟩ (g us ws) (gV vs zs) Q (E σ) hr I2.env0 (hb.to s2 us ws I2.kIn (r.length.symm.trans l1) (rz.length.symm.trans l2)) r2 q2) fun r s' hq => ?_)
  cases r with
  | error e => exact hx σ pins H2 s2 e s' I2 hq
  | ok fl =>
    cases fl with
    | ret u => exact I2.after hq
    | next => exact hq.elim
    | brk => exact hq.elim
    | cont => exact hq.elim
/-- .. keywords alone -/
theorem pe_callNS0 (F : FnOk X.prog X.w X.K X.mg X.base CX k f fd ps sp) (hr : Room k X.A) (hg : Gl X x) (hm : X.mg x = some (.ref f)) (hk : PySem.W.keepIn X.K (.ref f) = true) (hb : KBn X.K fd ps 0 ks g gV) (hx : ∀ σ, PassesAt CX X σ (E σ))
    (hkw : PK X kws tk) (hall : (backToKw pos (keywordEach kws X.env)).all (·.1.isSome) = true) (hks : (backToKw pos (keywordEach kws X.env)).filterMap (·.1) = ks)
    (hdb : (x == ("__debug__" : Str)) = false)
    (hpl : ((backTo pos (starEach [] X.env)).any (·.1) || (backToKw pos (keywordEach kws X.env)).any (·.1.isNone)) = false) :
    PE X (.Call (.Name x p) [] kws pos) (fun σ H Q => tk σ H fun zs H2 => zs.length = ks.length ∧ sp (gV [] zs) H2 Q (E σ)) := by
  refine ⟨fun pins s σ H Q I h => ?_⟩
  refine wpAny_Call_Name_kw (ld_glob I hg hm ?_ hdb)
  refine PySem.W.callWith_KW0 (h₀ := X.base) I.ok.mod.kin hk hall ?_ hpl
  refine thn (hkw.run pos pins s σ H _ I h) fun ws s2 ⟨zs, H2, I2, rz, l2, q2⟩ => ⟨I2.kIn, ?_⟩
  rw [hks]
  have r0 := hb.rel (vs := []) (us := []) .nil rz
  refine wpAny_call (codeAny_mono (F.run X.A X.stack s2 H2 ⟨[], ks.zip ws⟩ (g [] ws) (gV [] zs) Q (E σ) hr I2.env0 (hb.to s2 [] ws I2.kIn rfl (rz.length.symm.trans l2)) r0 q2) fun r s' hq => ?_)
  cases r with
  | error e => exact hx σ pins H2 s2 e s' I2 hq
  | ok fl =>
    cases fl with
    | ret u => exact I2.after hq
    | next => exact hq.elim
    | brk => exact hq.elim
    | cont => exact hq.elim
end
theorem RG.know {α : Type} {K : PySem.W.Frag} {G : Nm} {W : Value → Option Addr → Hp → Prop} {B M : List Addr} {H : Hp} {r : R α} {Q : α → List Addr → Hp → Store → Prop} {L : α → Prop} (h : RG K G W B M H r Q) (hl : ∀ a S, r = .ok a S → L a) : RG K G W B M H r fun a M' H' S' => L a ∧ Q a M' H' S' := by
  cases r with
  | ok p S => exact fun M' H' e hb rs => ⟨hl p S rfl, h M' H' e hb rs⟩
  | ex x S => exact h
  | bad => exact h
section
variable {P : Prog} {C : Nat → List PV → Store → R PV} {G : Nm} {X : Cx} {W : WX} {p pos : Pos} {e e1 e2 e3 : Expr} {m m1 m2 m3 : ME} {es : List Expr} {ms ks : List ME} {kws : List Keyword}
theorem evL_len : ∀ {ms : List ME} {env : Env} {S S' : Store} {l : List PV}, evL P C ms env S = .ok l S' → l.length = ms.length
  | [], env, S, S', l, h => by simp only [evL] at h; cases h; rfl
  | m :: ms, env, S, S', l, h => by
    simp only [evL] at h
    cases h1 : ev P C m env S with
    | ok v S1 =>
      rw [h1] at h
      have h : (evL P C ms env S1).bind (fun xs S => .ok (v :: xs) S) = .ok l S' := h
      cases h2 : evL P C ms env S1 with
      | ok vs S2 =>
        rw [h2] at h
        cases h
        rw [List.length_cons, List.length_cons, evL_len h2]
      | ex x S2 => rw [h2] at h; cases h
      | bad => rw [h2] at h; cases h
    | ex x S1 => rw [h1] at h; cases h
    | bad => rw [h1] at h; cases h
theorem evL_app : ∀ {ms ns : List ME} {env : Env} {S : Store}, evL P C (ms ++ ns) env S = (evL P C ms env S).bind fun xs S => (evL P C ns env S).bind fun ys S => .ok (xs ++ ys) S
  | [], ns, env, S => by
    simp only [List.nil_append, evL, R.bind]
    cases evL P C ns env S <;> rfl
  | m :: ms, ns, env, S => by
    simp only [List.cons_append, evL, R.bind_assoc]
    cases ev P C m env S with
    | ok v S1 =>
      simp only [R.bind]
      rw [evL_app]
      cases evL P C ms env S1 with
      | ok vs S2 =>
        simp only [R.bind]
        cases evL P C ns env S2 <;> rfl
      | ex x S2 => rfl
      | bad => rfl
    | ex x S1 => rfl
    | bad => rfl
/-- keywords' values -/
abbrev SK (P : Prog) (C : Nat → List PV → Store → R PV) (G : Nm) (X : Cx) (W : WX) (kws : List Keyword) (ms : List ME) : Prop := PK X kws (tA X.K G W (evL P C ms))
theorem PK.imp {X : Cx} {es : List Keyword} {t t' : TA} (h : PK X es t) (i : ∀ σ H Q, t' σ H Q → t σ H Q) : PK X es t' := ⟨fun pos pins s σ H Q I q => h.run pos pins s σ H Q I (i σ H Q q)⟩
theorem sk_nil : SK P C G X W [] [] := by
  refine PK.imp pk_nil fun σ H Q q => ?_
  obtain ⟨B, M, env, S, st, q⟩ := q
  simp only [evL] at q
  exact q.here st.s [] .nil
theorem sk_cons {nm : Option Str} {kp : Pos} (h1 : SE P C G X W e m) (h2 : SK P C G X W kws ms) : SK P C G X W (⟨nm, e, kp⟩ :: kws) (m :: ms) := by
  refine PK.imp (pk_cons h1 h2) fun σ H Q q => ?_
  obtain ⟨B, M, env, S, st, q⟩ := q
  simp only [evL] at q
  refine tE_thenG st q fun p S1 x M1 H1 e1 b1 st1 r1 q1 => ?_
  refine ⟨B, M1, env, S1, st1, RG.imp q1.bind fun ps M2 H2 S2 q2 => ?_⟩
  intro vs rv
  exact q2.2.2.2.here q2.2.2.1 (x :: vs) (.cons _ _ _ _ (r1.mv q2.1) rv)
/-- argument list of known length, then anything -/
theorem tA_thenL {β : Type} {B M : List Addr} {env : Env} {S : Store} {σ : St} {H : Hp} {g : List PV → Store → R β} {Q : β → List Addr → Hp → Store → Prop} {Q' : List V → Hp → Prop} (st : At X.K G B M H σ env S)
    (h : RG X.K G (fun c d => W c d σ) B M H ((evL P C ms env S).bind g) Q)
    (k : ∀ ps S1 vs M1 H1, ps.length = ms.length → Ext B M H B M1 H1 → (∀ b ∈ B, H1 b = H b) → At X.K G B M1 H1 σ env S1 → RVs X.K B M1 H1 vs ps → RG X.K G (fun c d => W c d σ) B M1 H1 (g ps S1) Q → Q' vs H1) : tA X.K G W (evL P C ms) σ H Q' := by
  refine ⟨B, M, env, S, st, RG.imp (RG.know h.bind fun a S' e => evL_len e) fun a M' H' S' q => ?_⟩
  intro vs rv
  exact k a S' vs M' H' q.1 q.2.1 q.2.2.1 (st.mv q.2.1 q.2.2.2.1) rv q.2.2.2.2
theorem se_call {k n : Nat} {f : Nat} {x : Str} {nms : List Str} {perm : List Nat} {dfl : List PV} (g : Good k X W) (c : CallT X.prog X.w X.K X.mg X.base k G C f x n nms perm dfl) (hg : Gl X x) (ha : SA P C G X W (e :: es) ms) (hk : SK P C G X W kws ks)
    (hn : ms.length = n) (hm : ks.length = nms.length)
    (hall : (backToKw pos (keywordEach kws X.env)).all (·.1.isSome) = true) (hks : (backToKw pos (keywordEach kws X.env)).filterMap (·.1) = nms)
    (hdb : (x == ("__debug__" : Str)) = false) (he : starEach (e :: es) X.env = (false, eval e X.env) :: starEach es X.env)
    (hpl : ((backTo pos (starEach (e :: es) X.env)).any (·.1) || (backToKw pos (keywordEach kws X.env)).any (·.1.isNone)) = false) :
    SE P C G X W (.Call (.Name x p) (e :: es) kws pos) (.call f (ms ++ ks) perm dfl) := by
  obtain ⟨fa, fd, ps, g1, gV, hmg, hkp, F, hb, hperm⟩ := c.ex
  refine PE.imp (pe_callNS F g.room hg hmg hkp hb g.pass ha hk hall hks hdb he hpl) fun σ H Q q => ?_
  obtain ⟨B, M, env, S, st, q⟩ := q
  simp only [ev, evL_app, R.bind_assoc] at q
  refine tA_thenL st q.rg fun as S1 vs M1 H1 l1 e1 b1 st1 r1 q1 => tA_thenL st1 q1 fun bs S2 zs M2 H2 l2 e2 b2 st2 r2 q2 => ?_
  have q2 := RG.rp q2
  refine ⟨by rw [r1.length, l1, hn], by rw [r2.length, l2, hm], B, M2, S2, permArgs (as ++ bs) perm dfl, st2.s, hperm _ _ _ _ _ _ (by rw [r1.length, l1, hn]) (by rw [r2.length, l2, hm]) ((r1.mv e2).append r2), q2⟩

/-- .. by keywords alone -/
theorem se_call0 {k : Nat} {f : Nat} {x : Str} {nms : List Str} {perm : List Nat} {dfl : List PV} (g : Good k X W) (c : CallT X.prog X.w X.K X.mg X.base k G C f x 0 nms perm dfl) (hg : Gl X x) (hk : SK P C G X W kws ks)
    (hm : ks.length = nms.length)
    (hall : (backToKw pos (keywordEach kws X.env)).all (·.1.isSome) = true) (hks : (backToKw pos (keywordEach kws X.env)).filterMap (·.1) = nms)
    (hdb : (x == ("__debug__" : Str)) = false)
    (hpl : ((backTo pos (starEach [] X.env)).any (·.1) || (backToKw pos (keywordEach kws X.env)).any (·.1.isNone)) = false) :
    SE P C G X W (.Call (.Name x p) [] kws pos) (.call f ks perm dfl) := by
  obtain ⟨fa, fd, ps, g1, gV, hmg, hkp, F, hb, hperm⟩ := c.ex
  refine PE.imp (pe_callNS0 F g.room hg hmg hkp hb g.pass hk hall hks hdb hpl) fun σ H Q q => ?_
  obtain ⟨B, M, env, S, st, q⟩ := q
  simp only [ev] at q
  refine tA_thenL st (RP.rg q) fun bs S2 zs M2 H2 l2 e2 b2 st2 r2 q2 => ?_
  have q2 := RG.rp q2
  exact ⟨by rw [r2.length, l2, hm], B, M2, S2, permArgs bs perm dfl, st2.s, hperm _ _ _ [] _ _ rfl (by rw [r2.length, l2, hm]) r2, q2⟩

/-! ### built-in functions -/
/-- a built-in's reading from its CallR -/
theorem se_b {f : Bi} {b : Bool} {r : List V → Hp → VK → Prop} (hp : PE X e (tCB r (tA X.K G W (evL P C ms))))
    (h : ∀ B M H S xs vs σ Q, RS X.K G B M H S → RVs X.K B M H vs xs → xs.length = ms.length → RP X.K G (fun c d => W c d σ) B M H (callB f b xs S) Q → r vs H Q) : SE P C G X W e (.b f b ms) := by
  refine PE.imp hp fun σ H Q q => ?_
  obtain ⟨B, M, env, S, st, q⟩ := q
  simp only [ev] at q
  exact tA_thenL st q.rg fun as S1 vs M1 H1 l1 e1 b1 st1 r1 q1 => h _ _ _ _ _ _ σ _ st1.s r1 l1 (RG.rp q1)
end
section
variable {K : PySem.W.Frag} {G : Nm} {W : Value → Option Addr → Hp → Prop} {B M : List Addr} {H : Hp} {Q : VK} {S : Store} {x : V} {p : PV} {vs : List V} {l xs : List PV} {b : Bool}
theorem RVs.one (h : RVs K B M H vs [p]) : ∃ v, vs = [v] ∧ RV K B M H v p := by
  obtain ⟨v, r, rfl, h1, h2⟩ := h.cons_inv
  rw [h2.nil_inv]
  exact ⟨v, rfl, h1⟩
theorem RVs.two {q : PV} (h : RVs K B M H vs [p, q]) : ∃ v w, vs = [v, w] ∧ RV K B M H v p ∧ RV K B M H w q := by
  obtain ⟨v, r, rfl, h1, h2⟩ := h.cons_inv
  obtain ⟨w, rfl, h3⟩ := h2.one
  exact ⟨v, w, rfl, h1, h3⟩
/-- a seq as a list or a tuple -/
theorem seq_sq (r : RS K G B M H S) (hx : RV K B M H x p) (h : seqOf S p = some l) : ∃ a vs, x = .ref a ∧ (SqL K H a vs ∨ SqT K H a vs) ∧ RVs K B M H vs l ∧ l.length ≤ sizeLine := by
  cases p with
  | tup l' =>
    cases h
    obtain ⟨a, vs, rfl, t, rv, hl⟩ := hx.tup_inv
    exact ⟨a, vs, rfl, .inr t.sq, rv, hl⟩
  | fl l' =>
    cases h
    obtain ⟨a, vs, rfl, t, rv, hl⟩ := hx.fl_inv
    exact ⟨a, vs, rfl, .inl t.sq, rv, hl⟩
  | loc n =>
    have h' : lstOf S (.loc n) = some l := h
    obtain ⟨a, vs, rfl, rd, rv, hl⟩ := lst_of r hx h'
    exact ⟨a, vs, rfl, .inl (.inl rd), rv, hl⟩
  | _ => cases h
theorem cb_len (r : RS K G B M H S) (rv : RVs K B M H vs xs) (h : RP K G W B M H (callB .len b xs S) Q) : ∃ x n, vs = [x] ∧ LenV K x H n ∧ Q (.int n) H := by
  have one : ∀ p, xs = [p] → RP K G W B M H ((lift (seqOf S p) S).bind fun l S => .ok (.int l.length) S) Q → ∃ x n, vs = [x] ∧ LenV K x H n ∧ Q (.int n) H := fun p e h2 => by
    subst e
    obtain ⟨v, rfl, hv⟩ := rv.one
    cases e : seqOf S p with
    | none => rw [e] at h2; exact h2.elim
    | some l =>
      rw [e] at h2
      obtain ⟨a, vs, rfl, hs, rl, _⟩ := seq_sq r hv e
      refine ⟨_, l.length, rfl, ?_, fin_val r h2 (.int _)⟩
      rcases hs with hs | hs
      · exact .inl ⟨vs, hs, rl.length.symm⟩
      · exact .inr ⟨vs, hs, rl.length.symm⟩
  cases xs with
  | nil => exact h.elim
  | cons p t =>
    cases t with
    | cons q t => cases p <;> exact h.elim
    | nil =>
      cases p with
      | str s =>
        obtain ⟨v, rfl, hv⟩ := rv.one
        obtain ⟨y, rfl, rfl, hy⟩ := hv.str_inv
        exact ⟨_, y.cps.toList.length, rfl, ⟨hy.1, by simp [Str.length]⟩, fin_val r h (.int _)⟩
      | loc n =>
        have h0 := h
        simp only [callB] at h
        cases hs : S[n]? with
        | none => rw [hs] at h; exact h.elim
        | some c =>
          rw [hs] at h
          cases c with
          | lst l =>
            refine one _ rfl ?_
            simp only [seqOf, hs, lift, R.bind]
            exact h
          | dct l =>
            obtain ⟨v, rfl, hv⟩ := rv.one
            obtain ⟨a, rfl, hm⟩ := hv.loc_inv
            exact (r.cell n _ a hs hm).elim
          | ins c l => exact h.elim
      | _ => exact one _ rfl h
theorem cb_tuple (r : RS K G B M H S) (rv : RVs K B M H vs xs) (h : RP K G W B M H (callB .tuple b xs S) Q) :
    ∃ p ys, vs = [.ref p] ∧ ((SqL K H p ys ∧ ∀ l, H l = none → Q (.ref l) (upd H l (.tup ys))) ∨ (SqT K H p ys ∧ Q (.ref p) H)) := by
  cases xs with
  | nil => exact h.elim
  | cons p t =>
    cases t with
    | cons q t => exact h.elim
    | nil =>
      obtain ⟨v, rfl, hv⟩ := rv.one
      have h : RP K G W B M H ((lift (seqOf S p) S).bind fun l S => .ok (.tup l) S) Q := h
      cases e : seqOf S p with
      | none => rw [e] at h; exact h.elim
      | some l =>
        rw [e] at h
        have lists : ∀ l', seqOf S p = some l' → (∃ a vs, v = .ref a ∧ SqL K H a vs ∧ RVs K B M H vs l ∧ l.length ≤ sizeLine) → ∃ p ys, [v] = [.ref p] ∧ ((SqL K H p ys ∧ ∀ l, H l = none → Q (.ref l) (upd H l (.tup ys))) ∨ (SqT K H p ys ∧ Q (.ref p) H)) := fun l' _ ⟨a, vs, ev, hs, rl, hl⟩ => by
          subst ev
          exact ⟨a, vs, rfl, .inl ⟨hs, fun q hq => h _ M _ (ext_new hq) (upd_bsy r hq) (r.new hq) (.tup q _ _ (.inl ⟨.inl upd_same, r.free hq⟩) (rl.mv (ext_new hq)) hl)⟩⟩
        cases p with
        | tup l' =>
          cases e
          obtain ⟨a, vs, rfl, t, rl, hl⟩ := hv.tup_inv
          exact ⟨a, vs, rfl, .inr ⟨t.sq, fin_val r h (.tup a vs _ t rl hl)⟩⟩
        | fl l' =>
          have e0 := e
          cases e
          obtain ⟨a, vs, rfl, t, rl, hl⟩ := hv.fl_inv
          exact lists _ e0 ⟨a, vs, rfl, t.sq, rl, hl⟩
        | loc n =>
          have h' : lstOf S (.loc n) = some l := e
          obtain ⟨a, vs, rfl, rd, rl, hl⟩ := lst_of r hv h'
          exact lists _ e ⟨a, vs, rfl, .inl rd, rl, hl⟩
        | _ => cases e
theorem cb_list (r : RS K G B M H S) (rv : RVs K B M H vs xs) (h : RP K G W B M H (callB .list b xs S) Q) : ∃ p ys, vs = [.ref p] ∧ (SqL K H p ys ∨ SqT K H p ys) ∧ ∀ l, H l = none → Q (.ref l) (upd H l (.lst ys)) := by
  cases xs with
  | nil => exact h.elim
  | cons p t =>
    cases t with
    | cons q t => exact h.elim
    | nil =>
      obtain ⟨v, rfl, hv⟩ := rv.one
      have h : RP K G W B M H ((lift (seqOf S p) S).bind fun l S => newList b l S) Q := h
      cases e : seqOf S p with
      | none => rw [e] at h; exact h.elim
      | some l =>
        rw [e] at h
        obtain ⟨a, vs, rfl, hs, rl, _⟩ := seq_sq r hv e
        exact ⟨a, vs, rfl, hs, fun q hq => fin_list r rl h hq⟩
theorem cb_abs (r : RS K G B M H S) (rv : RVs K B M H vs xs) (h : RP K G W B M H (callB .abs b xs S) Q) : ∃ i, vs = [.int i] ∧ Q (.int (if i < 0 then -i else i)) H := by
  cases xs with
  | nil => exact h.elim
  | cons p t =>
    cases t with
    | cons q t => cases p <;> exact h.elim
    | nil =>
      obtain ⟨v, rfl, hv⟩ := rv.one
      cases p with
      | int i =>
        rw [hv.int_inv]
        exact ⟨i, rfl, fin_val r h (.int _)⟩
      | _ => exact h.elim
theorem cb_int (r : RS K G B M H S) (rv : RVs K B M H vs xs) (hs : ∀ s, xs ≠ [.str s]) (h : RP K G W B M H (callB .int b xs S) Q) : (∃ i, vs = [.int i] ∧ Q (.int i) H) ∨ ∃ k, vs = [.bl k] ∧ Q (.int (if k then 1 else 0)) H := by
  cases xs with
  | nil => exact h.elim
  | cons p t =>
    cases t with
    | cons q t => cases p <;> exact h.elim
    | nil =>
      obtain ⟨v, rfl, hv⟩ := rv.one
      cases p with
      | int i =>
        rw [hv.int_inv]
        exact .inl ⟨i, rfl, fin_val r h (.int _)⟩
      | bl k =>
        rw [hv.bl_inv]
        exact .inr ⟨k, rfl, fin_val r h (.int _)⟩
      | str s => exact absurd rfl (hs s)
      | _ => exact h.elim
theorem bools_rvs : ∀ {l : List PV} {bs : List Bool} {vs : List V}, bools l = some bs → RVs K B M H vs l → vs = bs.map V.bl
  | [], bs, vs, h, r => by cases h; rw [r.nil_inv]; rfl
  | p :: l, bs, vs, h, r => by
    obtain ⟨v, t, rfl, h1, h2⟩ := r.cons_inv
    cases p with
    | bl k =>
      simp only [bools] at h
      cases e : bools l with
      | none => rw [e] at h; cases h
      | some cs =>
        rw [e] at h
        cases h
        rw [h1.bl_inv, bools_rvs e h2]
        rfl
    | _ => cases h
theorem ints_rvs : ∀ {l : List PV} {bs : List Int} {vs : List V}, intsOf l = some bs → RVs K B M H vs l → vs = bs.map V.int
  | [], bs, vs, h, r => by cases h; rw [r.nil_inv]; rfl
  | p :: l, bs, vs, h, r => by
    obtain ⟨v, t, rfl, h1, h2⟩ := r.cons_inv
    cases p with
    | int k =>
      simp only [intsOf] at h
      cases e : intsOf l with
      | none => rw [e] at h; cases h
      | some cs =>
        rw [e] at h
        cases h
        rw [h1.int_inv, ints_rvs e h2]
        rfl
    | _ => cases h
theorem rvs_ints : ∀ (l : List Int), RVs K B M H (l.map V.int) (l.map PV.int)
  | [] => .nil
  | i :: l => .cons _ _ _ _ (.int i) (rvs_ints l)
theorem lst_sq (r : RS K G B M H S) (hx : RV K B M H x p) (h : lstOf S p = some l) : ∃ a vs, x = .ref a ∧ SqL K H a vs ∧ RVs K B M H vs l ∧ l.length ≤ sizeLine := by
  obtain ⟨a, vs, e, rd, rv, hl⟩ := lst_of r hx h
  exact ⟨a, vs, e, .inl rd, rv, hl⟩
/-- a builtin of one list of plain things -/
theorem cb_lst1 {α β : Type} {f : List PV → Option β} {g : β → Store → R PV} (r : RS K G B M H S) (hv : RV K B M H x p) (h : RP K G W B M H ((lift ((lstOf S p).bind f) S).bind g) Q) :
    ∃ a vs l b, x = .ref a ∧ SqL K H a vs ∧ RVs K B M H vs l ∧ f l = some b ∧ l.length ≤ sizeLine ∧ RP K G W B M H (g b S) Q := by
  cases e : lstOf S p with
  | none => rw [e] at h; exact h.elim
  | some l =>
    rw [e] at h
    obtain ⟨a, vs, rfl, hs, rl, hl⟩ := lst_sq r hv e
    cases e2 : f l with
    | none => simp only [Option.bind_some, e2] at h; exact h.elim
    | some b' => simp only [Option.bind_some, e2] at h; exact ⟨a, vs, l, b', rfl, hs, rl, e2, hl, h⟩
theorem cb_all (r : RS K G B M H S) (rv : RVs K B M H vs xs) (h : RP K G W B M H (callB .all b xs S) Q) : rAll K vs H Q := by
  cases xs with
  | nil => exact h.elim
  | cons p t =>
    cases t with
    | cons q t => exact h.elim
    | nil =>
      obtain ⟨v, rfl, hv⟩ := rv.one
      obtain ⟨a, vs, l, bs, rfl, hs, rl, e, _, h⟩ := cb_lst1 (α := Bool) (f := bools) (g := fun l S => .ok (.bl (l.all id)) S) r hv h
      rw [bools_rvs e rl] at hs
      exact ⟨a, bs, rfl, hs, fin_val r h (.bl _)⟩
theorem cb_any (r : RS K G B M H S) (rv : RVs K B M H vs xs) (h : RP K G W B M H (callB .any b xs S) Q) : rAny K vs H Q := by
  cases xs with
  | nil => exact h.elim
  | cons p t =>
    cases t with
    | cons q t => exact h.elim
    | nil =>
      obtain ⟨v, rfl, hv⟩ := rv.one
      obtain ⟨a, vs, l, bs, rfl, hs, rl, e, _, h⟩ := cb_lst1 (α := Bool) (f := bools) (g := fun l S => .ok (.bl (l.any id)) S) r hv h
      rw [bools_rvs e rl] at hs
      exact ⟨a, bs, rfl, hs, fin_val r h (.bl _)⟩
theorem cb_sum (r : RS K G B M H S) (rv : RVs K B M H vs xs) (h : RP K G W B M H (callB .sum b xs S) Q) : rSum K vs H Q := by
  cases xs with
  | nil => exact h.elim
  | cons p t =>
    cases t with
    | cons q t => exact h.elim
    | nil =>
      obtain ⟨v, rfl, hv⟩ := rv.one
      obtain ⟨a, vs, l, bs, rfl, hs, rl, e, _, h⟩ := cb_lst1 (α := Int) (f := intsOf) (g := fun l S => .ok (.int l.sum) S) r hv h
      rw [ints_rvs e rl] at hs
      exact ⟨a, bs, rfl, hs, fin_val r h (.int _)⟩
theorem isIns_perm (x : Int) : ∀ l : List Int, (isIns x l).Perm (x :: l)
  | [] => .refl _
  | y :: r => by
    unfold isIns
    split
    · exact .refl _
    · exact ((isIns_perm x r).cons y).trans (.swap x y r)
theorem isort_perm : ∀ l : List Int, (isort l).Perm l
  | [] => .refl _
  | x :: r => (isIns_perm x _).trans ((isort_perm r).cons x)
theorem isIns_le (x : Int) : ∀ l : List Int, l.Pairwise (· ≤ ·) → (isIns x l).Pairwise (· ≤ ·)
  | [], _ => by simp [isIns]
  | y :: r, h => by
    unfold isIns
    rw [List.pairwise_cons] at h
    split
    · rename_i hxy
      rw [List.pairwise_cons, List.pairwise_cons]
      refine ⟨fun z hz => ?_, h⟩
      rcases List.mem_cons.mp hz with e | hz
      · rw [e]; exact hxy
      · exact Int.le_trans hxy (h.1 z hz)
    · rename_i hxy
      rw [List.pairwise_cons]
      refine ⟨fun z hz => ?_, isIns_le x r h.2⟩
      rcases List.mem_cons.mp ((isIns_perm x r).mem_iff.mp hz) with e | hz
      · rw [e]; omega
      · exact h.1 z hz
theorem isort_le : ∀ l : List Int, (isort l).Pairwise (· ≤ ·)
  | [] => .nil
  | x :: r => isIns_le x _ (isort_le r)
theorem isort_eq {l r : List Int} (h : r.Perm l) (k : r.Pairwise (· ≤ ·)) : r = isort l :=
  List.Perm.eq_of_pairwise (fun a b _ _ h1 h2 => by omega) k (isort_le l) (h.trans (isort_perm l).symm)
/-! ### sorted pairs -/
theorem isIns2_perm (x : Int × Int) : ∀ l : List (Int × Int), (isIns2 x l).Perm (x :: l)
  | [] => .refl _
  | y :: r => by
    unfold isIns2
    split
    · exact .refl _
    · exact ((isIns2_perm x r).cons y).trans (.swap x y r)
theorem psort2_perm : ∀ l : List (Int × Int), (psort2 l).Perm l
  | [] => .refl _
  | x :: r => (isIns2_perm x _).trans ((psort2_perm r).cons x)
theorem isIns2_le (x : Int × Int) : ∀ l : List (Int × Int), l.Pairwise (fun a b => pcode a ≤ pcode b) → (isIns2 x l).Pairwise (fun a b => pcode a ≤ pcode b)
  | [], _ => by simp [isIns2]
  | y :: r, h => by
    unfold isIns2
    rw [List.pairwise_cons] at h
    split
    · rename_i hxy
      rw [List.pairwise_cons, List.pairwise_cons]
      refine ⟨fun z hz => ?_, h⟩
      rcases List.mem_cons.mp hz with e | hz
      · rw [e]; exact hxy
      · exact Int.le_trans hxy (h.1 z hz)
    · rename_i hxy
      rw [List.pairwise_cons]
      refine ⟨fun z hz => ?_, isIns2_le x r h.2⟩
      rcases List.mem_cons.mp ((isIns2_perm x r).mem_iff.mp hz) with e | hz
      · rw [e]; omega
      · exact h.1 z hz
theorem psort2_le : ∀ l : List (Int × Int), (psort2 l).Pairwise (fun a b => pcode a ≤ pcode b)
  | [] => .nil
  | x :: r => isIns2_le x _ (psort2_le r)
def PairOk (p : Int × Int) : Prop := 0 ≤ p.1 ∧ p.1 < pairLim ∧ 0 ≤ p.2 ∧ p.2 < pairLim
theorem pcode_inj {p q : Int × Int} (hp : PairOk p) (hq : PairOk q) (h : pcode p = pcode q) : p = q := by
  unfold pcode pairLim at h
  unfold PairOk pairLim at hp hq
  exact Prod.ext (by omega) (by omega)
theorem psort2_eq {l r : List (Int × Int)} (ok : ∀ p ∈ l, PairOk p) (h : r.Perm l) (k : r.Pairwise (fun a b => pcode a ≤ pcode b)) : r = psort2 l :=
  List.Perm.eq_of_pairwise (fun a b ha hb h1 h2 => pcode_inj (ok a (h.mem_iff.mp ha)) (ok b ((psort2_perm l).mem_iff.mp hb)) (Int.le_antisymm h1 h2)) k (psort2_le l) (h.trans (psort2_perm l).symm)
theorem pairs_eq : ∀ {l : List PV} {ps : List (Int × Int)}, pairsOf l = some ps → l = ps.map pairV ∧ ∀ p ∈ ps, PairOk p
  | [], ps, h => by cases h; exact ⟨rfl, by simp⟩
  | x :: l, ps, h => by
    unfold pairsOf at h
    split at h
    · rename_i heq; cases heq
    · rename_i i j r heq
      cases heq
      split at h
      · rename_i hb
        cases e : pairsOf l with
        | none => rw [e] at h; cases h
        | some qs =>
          rw [e] at h
          cases h
          obtain ⟨e1, e2⟩ := pairs_eq e
          refine ⟨by rw [List.map_cons, ← e1]; rfl, fun p hp => ?_⟩
          rcases List.mem_cons.mp hp with rfl | hp
          · exact hb
          · exact e2 p hp
      · cases h
    · cases h
theorem rvs_perm {l : List (Int × Int)} {xs ys : List V} (hp : ys.Perm xs) : RVs K B M H xs (l.map pairV) → ∃ l' : List (Int × Int), l'.Perm l ∧ RVs K B M H ys (l'.map pairV) := by
  induction hp generalizing l with
  | nil => exact fun h => ⟨l, .refl _, h⟩
  | cons x p ih =>
    intro h
    cases l with
    | nil => have := h.length; simp at this
    | cons q l =>
      obtain ⟨v, r, e, h1, h2⟩ := h.cons_inv
      cases e
      obtain ⟨l', p', h'⟩ := ih h2
      exact ⟨q :: l', p'.cons q, .cons _ _ _ _ h1 h'⟩
  | swap x y zs =>
    intro h
    cases l with
    | nil => have := h.length; simp at this
    | cons q l =>
      obtain ⟨v, r, e, h1, h2⟩ := h.cons_inv
      cases e
      cases l with
      | nil => have := h2.length; simp at this
      | cons q2 l =>
        obtain ⟨v, r, e, h3, h4⟩ := h2.cons_inv
        cases e
        exact ⟨q2 :: q :: l, .swap q q2 l, .cons _ _ _ _ h3 (.cons _ _ _ _ h1 h4)⟩
  | trans p1 p2 ih1 ih2 =>
    intro h
    obtain ⟨l1, q1, h1⟩ := ih2 h
    obtain ⟨l2, q2, h2⟩ := ih1 h1
    exact ⟨l2, q2.trans q1, h2⟩
theorem pair_at {x : V} {p : Int × Int} (h : RV K B M H x (pairV p)) : TupI K H x [p.1, p.2] := by
  obtain ⟨a, vs, rfl, t, r, _⟩ := h.tup_inv
  obtain ⟨v, w, rfl, h1, h2⟩ := r.two
  rw [h1.int_inv, h2.int_inv] at t
  exact ⟨a, rfl, t.sq⟩
theorem pcode_code {p : Int × Int} : TS.code pairLim [p.1, p.2] = pcode p := by
  show p.1 * pairLim ^ 1 + (p.2 * pairLim ^ 0 + 0) = p.1 * pairLim + p.2
  rw [Int.pow_succ, Int.pow_zero, Int.one_mul, Int.mul_one, Int.add_zero]
theorem rvs_mem {l : List (Int × Int)} {xs : List V} : RVs K B M H xs (l.map pairV) → ∀ x ∈ xs, ∃ p ∈ l, RV K B M H x (pairV p) := by
  intro h x hx
  obtain ⟨i, hi, e⟩ := List.mem_iff_getElem.mp hx
  obtain ⟨p, hp, hr⟩ := h.get' (i := i) (v := x) (by rw [List.getElem?_eq_getElem hi, e])
  rw [List.getElem?_map] at hp
  cases e2 : l[i]? with
  | none => rw [e2] at hp; cases hp
  | some q =>
    rw [e2] at hp
    cases hp
    exact ⟨q, List.mem_of_getElem? e2, hr⟩
theorem rvs_pw : ∀ {l : List (Int × Int)} {ys : List V}, RVs K B M H ys (l.map pairV) → ys.Pairwise (fun x y => ∀ n m, TupI K H x n → TupI K H y m → TS.code pairLim n ≤ TS.code pairLim m) → l.Pairwise (fun a b => pcode a ≤ pcode b)
  | [], ys, _, _ => .nil
  | p :: l, ys, h, hp => by
    obtain ⟨v, r, rfl, h1, h2⟩ := h.cons_inv
    rw [List.pairwise_cons] at hp ⊢
    refine ⟨fun q hq => ?_, rvs_pw h2 hp.2⟩
    obtain ⟨i, hi, e⟩ := List.mem_iff_getElem.mp hq
    obtain ⟨w, hw, hr⟩ := h2.get (i := i) (p := pairV q) (by rw [List.getElem?_map, List.getElem?_eq_getElem hi, e]; rfl)
    have := hp.1 w (List.mem_of_getElem? hw) [p.1, p.2] [q.1, q.2] (pair_at h1) (pair_at hr)
    rwa [pcode_code, pcode_code] at this
theorem cb_sorted (r : RS K G B M H S) (rv : RVs K B M H vs xs) (h : RP K G W B M H (callB .sorted b xs S) Q) : rSorted K vs H Q ∨ rSortU K 2 pairLim vs H Q := by
  cases xs with
  | nil => exact h.elim
  | cons p t =>
    cases t with
    | cons q t => exact h.elim
    | nil =>
      obtain ⟨v, rfl, hv⟩ := rv.one
      have hInts : RP K G W B M H ((lift ((lstOf S p).bind intsOf) S).bind fun l S => if l.length < 64 then newList b ((isort l).map .int) S else .bad) Q → rSorted K [v] H Q := fun h => by
        obtain ⟨a, vs, l, bs, rfl, hs, rl, e, _, h⟩ := cb_lst1 (α := Int) (f := intsOf) (g := fun l S => if l.length < 64 then newList b ((isort l).map .int) S else .bad) r hv h
        rw [ints_rvs e rl] at hs
        have h : RP K G W B M H (if bs.length < 64 then newList b ((isort bs).map .int) S else .bad) Q := h
        split at h
        · rename_i h64
          refine ⟨a, bs, rfl, hs, h64, fun ns' q hp hl hq => ?_⟩
          rw [isort_eq hp hl]
          exact fin_list r (rvs_ints _) h hq
        · exact h.elim
      have h : RP K G W B M H (match (lstOf S p).bind pairsOf with
        | some (p :: l) => if (p :: l).length < 64 then newList b ((psort2 (p :: l)).map pairV) S else .bad
        | _ => (lift ((lstOf S p).bind intsOf) S).bind fun l S => if l.length < 64 then newList b ((isort l).map .int) S else .bad) Q := h
      cases e : (lstOf S p).bind pairsOf with
      | none => rw [e] at h; exact .inl (hInts h)
      | some ps =>
        rw [e] at h
        cases ps with
        | nil => exact .inl (hInts h)
        | cons p0 l0 =>
          have h : RP K G W B M H (if (p0 :: l0).length < 64 then newList b ((psort2 (p0 :: l0)).map pairV) S else .bad) Q := h
          cases el : lstOf S p with
          | none => rw [el] at e; cases e
          | some l =>
            rw [el] at e
            obtain ⟨e1, e2⟩ := pairs_eq (show pairsOf l = some (p0 :: l0) from e)
            obtain ⟨a, vs, rfl, hs, rl, hl⟩ := lst_sq r hv el
            rw [e1] at rl
            split at h
            · rename_i h64
              refine .inr ⟨a, vs, rfl, hs, ?_, fun x hx => ?_, fun ys q hp hl hq => ?_⟩
              · have := rl.length; rw [List.length_map] at this; omega
              · obtain ⟨p, hp, hr⟩ := rvs_mem rl x hx
                refine ⟨[p.1, p.2], pair_at hr, rfl, fun m hm => ?_⟩
                have ok := e2 p hp
                unfold PairOk at ok
                simp at hm
                rcases hm with rfl | rfl
                · exact ⟨ok.1, ok.2.1⟩
                · exact ⟨ok.2.2.1, ok.2.2.2⟩
              · obtain ⟨l', p', h'⟩ := rvs_perm hp rl
                have e3 := psort2_eq e2 p' (rvs_pw h' hl)
                rw [e3] at h'
                exact fin_list r h' h hq
            · exact h.elim
theorem cb_max2 (r : RS K G B M H S) (rv : RVs K B M H vs xs) (h : RP K G W B M H (callB .max2 b xs S) Q) : ∃ i j, vs = [.int i, .int j] ∧ Q (.int (if j > i then j else i)) H := by
  rcases xs with _ | ⟨p, _ | ⟨q, _ | ⟨o, t⟩⟩⟩
  · exact h.elim
  · cases p <;> exact h.elim
  · obtain ⟨v, w, rfl, hv, hw⟩ := rv.two
    cases p with
    | int i =>
      cases q with
      | int j =>
        rw [hv.int_inv, hw.int_inv]
        exact ⟨i, j, rfl, fin_val r h (.int _)⟩
      | _ => exact h.elim
    | _ => exact h.elim
  · cases p <;> cases q <;> exact h.elim
theorem cb_min2 (r : RS K G B M H S) (rv : RVs K B M H vs xs) (h : RP K G W B M H (callB .min2 b xs S) Q) : ∃ i j, vs = [.int i, .int j] ∧ Q (.int (if j < i then j else i)) H := by
  rcases xs with _ | ⟨p, _ | ⟨q, _ | ⟨o, t⟩⟩⟩
  · exact h.elim
  · cases p <;> exact h.elim
  · obtain ⟨v, w, rfl, hv, hw⟩ := rv.two
    cases p with
    | int i =>
      cases q with
      | int j =>
        rw [hv.int_inv, hw.int_inv]
        exact ⟨i, j, rfl, fin_val r h (.int _)⟩
      | _ => exact h.elim
    | _ => exact h.elim
  · cases p <;> cases q <;> exact h.elim
end
end G

namespace G
open PySem PySem.Spec PyProof.Rows L2
/-- σ' is σ but for the slots of A -/
def Ag (A : Nat → Bool) (σ σ' : St) : Prop := σ'.length = σ.length ∧ ∀ i, A i = false → σ'[i]? = σ[i]?
theorem Ag.refl {A : Nat → Bool} {σ : St} : Ag A σ σ := ⟨rfl, fun _ _ => rfl⟩
theorem Ag.trans {A : Nat → Bool} {σ σ1 σ2 : St} (a : Ag A σ σ1) (b : Ag A σ1 σ2) : Ag A σ σ2 := ⟨b.1.trans a.1, fun i h => (b.2 i h).trans (a.2 i h)⟩
theorem Ag.set {A : Nat → Bool} {σ : St} {i : Nat} {v : Option V} (h : A i = true) : Ag A σ (σ.set i v) := ⟨by simp, fun j hj => by
  have : i ≠ j := fun e => by rw [e, hj] at h; cases h
  rw [List.getElem?_set_ne this]⟩
section
variable (K : PySem.W.Frag) (G : Nm)
/-- what is wanted of a result at which slots may have changed -/
def RGS {α : Type} (A : Nat → Bool) (σ : St) (W : WX) (B M : List Addr) (H : Hp) (r : R α) (Q : α → List Addr → Hp → Store → Prop) : Prop :=
  match r with
  | .ok a S' => ∀ M' H', Ext B M H B M' H' → (∀ b ∈ B, H' b = H b) → RS K G B M' H' S' → Q a M' H' S'
  | .ex e S' => ∀ cls d σ' M' H', Ag A σ σ' → Ext B M H B M' H' → (∀ b ∈ B, H' b = H b) → RS K G B M' H' S' → RX K G B M' H' cls d e → W cls d σ' H'
  | .bad => False
def FlQ (A : Nat → Bool) (σ : St) (B : List Addr) (D : Ends) : Fl → List Addr → Hp → Store → Prop
  | .nx env, M, H, S => ∀ σ', Ag A σ σ' → At K G B M H σ' env S → D.nx σ' H
  | .bk env, M, H, S => ∀ σ', Ag A σ σ' → At K G B M H σ' env S → D.bk σ' H
  | .ct env, M, H, S => ∀ σ', Ag A σ σ' → At K G B M H σ' env S → D.ct σ' H
  | .rt p, M, H, _ => ∀ v, RV K B M H v p → D.rt v H
def tS (A : Nat → Bool) (W : WX) (f : Env → Store → R Fl) : TS := fun D σ H => ∃ B M env S, At K G B M H σ env S ∧ RGS K G A σ W B M H (f env S) (FlQ K G A σ B D)
def tG (A : Nat → Bool) (W : WX) (f : PV → Env → Store → R Env) : TG := fun v σ H Q => ∃ B M env S p, At K G B M H σ env S ∧ RV K B M H v p ∧
  RGS K G A σ W B M H (f p env S) (fun env' M' H' S' => ∀ σ', Ag A σ σ' → At K G B M' H' σ' env' S' → Q σ' H')
def tGs (A : Nat → Bool) (W : WX) (f : List PV → Env → Store → R Env) : TGs := fun v σ H Q => ∃ B M env S p, At K G B M H σ env S ∧ RVs K B M H v p ∧
  RGS K G A σ W B M H (f p env S) (fun env' M' H' S' => ∀ σ', Ag A σ σ' → At K G B M' H' σ' env' S' → Q σ' H')
end
section
variable {K : PySem.W.Frag} {G : Nm} {A : Nat → Bool} {σ : St} {W : WX} {B M M1 : List Addr} {H H1 : Hp} {α β : Type}
theorem RGS.rg {r : R α} {Q : α → List Addr → Hp → Store → Prop} (h : RGS K G A σ W B M H r Q) : RG K G (fun c d => W c d σ) B M H r Q := by
  cases r with
  | ok p S => exact h
  | ex x S => exact fun cls d M' H' => h cls d σ M' H' .refl
  | bad => exact h
theorem RGS.imp {r : R α} {Q Q' : α → List Addr → Hp → Store → Prop} (h : RGS K G A σ W B M H r Q) (i : ∀ a M' H' S', Q a M' H' S' → Q' a M' H' S') : RGS K G A σ W B M H r Q' := by
  cases r with
  | ok p S => exact fun M' H' e hb rs => i _ _ _ _ (h M' H' e hb rs)
  | ex x S => exact h
  | bad => exact h
theorem RGS.mv {r : R α} {σ1 : St} {Q : α → List Addr → Hp → Store → Prop} (h : RGS K G A σ W B M H r Q) (a : Ag A σ σ1) (e : Ext B M H B M1 H1) (hb : ∀ b ∈ B, H1 b = H b) : RGS K G A σ1 W B M1 H1 r Q := by
  cases r with
  | ok p S => exact fun M' H' e' hb' rs => h M' H' (e.trans e') (fun b q => (hb' b q).trans (hb b q)) rs
  | ex x S => exact fun c d σ' M' H' a' e' hb' rs rx => h c d σ' M' H' (a.trans a') (e.trans e') (fun b q => (hb' b q).trans (hb b q)) rs rx
  | bad => exact h
theorem RGS.here {a : α} {S : Store} {Q : α → List Addr → Hp → Store → Prop} (h : RGS K G A σ W B M H (.ok a S) Q) (r : RS K G B M H S) : Q a M H S := h M H .refl (fun _ _ => rfl) r
theorem RGS.bind {r : R α} {g : α → Store → R β} {Q : β → List Addr → Hp → Store → Prop} (h : RGS K G A σ W B M H (r.bind g) Q) :
    RGS K G A σ W B M H r fun a M1 H1 S1 => ∀ σ1, Ag A σ σ1 → Ext B M H B M1 H1 ∧ (∀ b ∈ B, H1 b = H b) ∧ RS K G B M1 H1 S1 ∧ RGS K G A σ1 W B M1 H1 (g a S1) Q := by
  cases r with
  | ok p S => exact fun M' H' e' hb' rs σ1 ag => ⟨e', hb', rs, RGS.mv (show RGS K G A σ W B M H (g p S) Q from h) ag e' hb'⟩
  | ex x S => exact h
  | bad => exact h
end
section
variable {X : Cx} {G : Nm} {A : Nat → Bool} {W : WX} {σ : St} {H : Hp} {B M : List Addr} {env : Env} {S : Store} {α β : Type} {Q : β → List Addr → Hp → Store → Prop}
theorem tE_thenS {f : Env → Store → R PV} {g : PV → Store → R β} {Q' : VK} (st : At X.K G B M H σ env S)
    (h : RGS X.K G A σ W B M H ((f env S).bind g) Q)
    (k : ∀ p S1 x M1 H1, Ext B M H B M1 H1 → (∀ b ∈ B, H1 b = H b) → At X.K G B M1 H1 σ env S1 → RV X.K B M1 H1 x p → RGS X.K G A σ W B M1 H1 (g p S1) Q → Q' x H1) : tE X.K G W f σ H Q' := by
  refine ⟨B, M, env, S, st, RG.rp (RG.imp h.bind.rg fun a M' H' S' q => ?_)⟩
  intro v rv
  have q := q σ .refl
  exact k a S' v M' H' q.1 q.2.1 (st.mv q.1 q.2.2.1) rv q.2.2.2
theorem tT_thenS {f : Env → Store → R Bool} {g : Bool → Store → R β} {Q' : Bool → Hp → Prop} (st : At X.K G B M H σ env S)
    (h : RGS X.K G A σ W B M H ((f env S).bind g) Q)
    (k : ∀ p S1 M1 H1, Ext B M H B M1 H1 → (∀ b ∈ B, H1 b = H b) → At X.K G B M1 H1 σ env S1 → RGS X.K G A σ W B M1 H1 (g p S1) Q → Q' p H1) : tT X.K G W f σ H Q' := by
  refine ⟨B, M, env, S, st, RG.imp h.bind.rg fun a M' H' S' q => ?_⟩
  have q := q σ .refl
  exact k a S' M' H' q.1 q.2.1 (st.mv q.1 q.2.2.1) q.2.2.2
theorem tG_thenS {f : PV → Env → Store → R Env} {g : Env → Store → R β} {Q' : St → Hp → Prop} {v : V} {p : PV} (st : At X.K G B M H σ env S) (rv : RV X.K B M H v p)
    (h : RGS X.K G A σ W B M H ((f p env S).bind g) Q)
    (k : ∀ σ1 env1 S1 M1 H1, Ag A σ σ1 → Ext B M H B M1 H1 → (∀ b ∈ B, H1 b = H b) → At X.K G B M1 H1 σ1 env1 S1 → RGS X.K G A σ1 W B M1 H1 (g env1 S1) Q → Q' σ1 H1) : tG X.K G A W f v σ H Q' := by
  refine ⟨B, M, env, S, p, st, rv, RGS.imp h.bind fun a M' H' S' q => ?_⟩
  intro σ' ag at'
  have q := q σ' ag
  exact k σ' a S' M' H' ag q.1 q.2.1 at' q.2.2.2
end
theorem PS.imp {X : Cx} {st : Stmt} {t t' : TS} (h : PS X st t) (i : ∀ D σ H, t' D σ H → t D σ H) : PS X st t' := ⟨fun pins s σ H D I q => h.run pins s σ H D I (i D σ H q)⟩
theorem PSs.imp {X : Cx} {st : List Stmt} {t t' : TS} (h : PSs X st t) (i : ∀ D σ H, t' D σ H → t D σ H) : PSs X st t' := ⟨fun pins s σ H D I q => h.run pins s σ H D I (i D σ H q)⟩
theorem PG.imp {X : Cx} {e : Expr} {t t' : TG} (h : PG X e t) (i : ∀ v σ H Q, t' v σ H Q → t v σ H Q) : PG X e t' := ⟨fun pins s σ H v u Q I r q => h.run pins s σ H v u Q I r (i v σ H Q q)⟩
theorem PGs.imp {X : Cx} {e : List Expr} {t t' : TGs} (h : PGs X e t) (i : ∀ v σ H Q, t' v σ H Q → t v σ H Q) : PGs X e t' := ⟨fun pins s σ H v u Q I r q => h.run pins s σ H v u Q I r (i v σ H Q q)⟩
section
variable (P : Prog) (C : Nat → List PV → Store → R PV) (G : Nm) (X : Cx) (A : Nat → Bool) (W : WX)
abbrev SS (st : Stmt) (m : MS) : Prop := PS X st (tS X.K G A W (exS P C m))
abbrev SSs (st : List Stmt) (m : List MS) : Prop := PSs X st (tS X.K G A W (exL P C m))
abbrev SG (e : Expr) (m : MT) : Prop := PG X e (tG X.K G A W (asgT P C m))
abbrev SGs (e : List Expr) (m : List MT) : Prop := PGs X e (tGs X.K G A W (asgTs P C m))
end
section
variable {P : Prog} {C : Nat → List PV → Store → R PV} {G : Nm} {X : Cx} {A : Nat → Bool} {W : WX} {p pos pos2 : Pos} {e e1 e2 e3 : Expr} {m m1 m2 m3 : ME} {es : List Expr} {ms : List ME}
/-! ### targets -/
theorem sg_name {i : Nat} {x : Str} (hN : X.N.Nodup) (hi : X.N[i]? = some x) (hx : Loc X.env.scope x) (hf : X.fn x = true ∨ X.env.scope.names.lookup x = some .local) (ha : A i = true) : SG P C G X A W (.Name x pos) (.nm i) := by
  refine PG.imp (pg_name hN hi hx hf) fun v σ H Q q => ?_
  obtain ⟨B, M, env, S, p, st, rv, q⟩ := q
  simp only [asgT] at q
  exact q.here st.s _ (.set ha) ⟨st.e.set i rv, st.s⟩
theorem sgs_nil : SGs P C G X A W [] [] := by
  refine PGs.imp pgs_nil fun v σ H Q q => ?_
  obtain ⟨B, M, env, S, p, st, rv, q⟩ := q
  cases p with
  | nil => exact ⟨rv.nil_inv, by simp only [asgTs] at q; exact q.here st.s _ .refl st⟩
  | cons p l => simp only [asgTs] at q; exact q.elim
theorem sgs_cons {t : MT} {ts : List MT} (h1 : SG P C G X A W e t) (h2 : SGs P C G X A W es ts) (hs : (assignEach (e :: es) X.env).map (·.2) = assign e X.env :: (assignEach es X.env).map (·.2)) : SGs P C G X A W (e :: es) (t :: ts) := by
  refine PGs.imp (pgs_cons h1 h2 hs) fun v σ H Q q => ?_
  obtain ⟨B, M, env, S, p, st, rv, q⟩ := q
  cases p with
  | nil => simp only [asgTs] at q; exact q.elim
  | cons p l =>
    obtain ⟨v, r, rfl, r1, r2⟩ := rv.cons_inv
    simp only [asgTs] at q
    refine ⟨v, r, rfl, tG_thenS st r1 q fun σ1 env1 S1 M1 H1 ag e1 b1 st1 q1 => ?_⟩
    exact ⟨B, M1, env1, S1, l, st1, r2.mv e1, q1.imp fun a M' H' S' q σ' ag' at' => q σ' (ag.trans ag') at'⟩
theorem PG.or {t1 t2 : TG} (h1 : PG X e t1) (h2 : PG X e t2) : PG X e (fun v σ H Q => t1 v σ H Q ∨ t2 v σ H Q) :=
  ⟨fun pins s σ H v u Q I r q => q.elim (h1.run pins s σ H v u Q I r) (h2.run pins s σ H v u Q I r)⟩
theorem sg_tup {k : Nat} {ts : List MT} (hc : X.calm = true) (h : SGs P C G X A W es ts) (hn : (assignEach es X.env).length = ts.length) (hst : (assignEach es X.env).findIdx? (·.1) = none) : SG P C G X A W (.Tuple es k pos) (.tup ts) := by
  refine PG.imp (PG.or (pg_tup (n := ts.length) hc h hn hst) (pg_lst (n := ts.length) hc h hn hst)) fun v σ H Q q => ?_
  obtain ⟨B, M, env, S, p, st, rv, q⟩ := q
  simp only [asgT] at q
  cases e : seqOf S p with
  | none => rw [e] at q; exact q.elim
  | some l =>
    rw [e] at q
    simp only at q
    obtain ⟨a, vs, rfl, hs, r, _⟩ := seq_of st.s rv e
    split at q
    · rename_i hl
      rcases hs with hs | hs
      · exact .inr ⟨a, vs, rfl, hs, r.length.trans hl, B, M, env, S, l, st, r, q⟩
      · exact .inl ⟨a, vs, rfl, hs, r.length.trans hl, B, M, env, S, l, st, r, q⟩
    · exact q.elim
theorem set_ok {K : PySem.W.Frag} {G : Nm} {A : Nat → Bool} {W : WX} {σ : St} {B M : List Addr} {H : Hp} {S : Store} {x y v : V} {p q w : PV} {env : Env} {Q : St → Hp → Prop} (st : At K G B M H σ env S) (hx : RV K B M H x p) (hy : RV K B M H y q) (hv : RV K B M H v w)
    (h : RGS K G A σ W B M H ((setIx p q w S).bind fun _ S => .ok env S) (fun env' M' H' S' => ∀ σ', Ag A σ σ' → At K G B M' H' σ' env' S' → Q σ' H')) : rSetL x y v H fun H3 => Q σ H3 := by
  cases p with
  | loc n =>
    simp only [setIx] at h
    cases hs : S[n]? with
    | none => rw [hs] at h; exact h.elim
    | some c =>
      rw [hs] at h
      cases c with
      | lst l =>
        obtain ⟨a, rfl, hm⟩ := hx.loc_inv
        obtain ⟨vs, ha, rv, hl⟩ := st.s.cell n _ a hs hm
        cases q with
        | int k =>
          simp only at h
          cases e : _root_.G.ixN l.length k with
          | none => rw [e] at h; exact h.elim
          | some j =>
            rw [e] at h
            refine ⟨a, vs, k, j, rfl, hy.int_inv, ha, by rw [rv.length]; exact e, ?_⟩
            have e2 : Ext B M H B M (upd H a (.lst (vs.set j v))) := ext_set hm
            have s2 : RS K G B M (upd H a (.lst (vs.set j v))) (S.set n (.lst (l.set j w))) :=
              st.s.set hm ⟨_, upd_same, (rv.set j hv).mv e2, by rw [List.length_set]; exact hl⟩
            exact h M _ e2 (fun b hb => upd_ne (fun e => (st.s.bsy b hb).1 (by rw [e]; exact List.mem_of_getElem? hm))) s2 σ .refl ⟨st.e.mv e2, s2⟩
        | _ => exact h.elim
      | dct l =>
        obtain ⟨a, rfl, hm⟩ := hx.loc_inv
        exact (st.s.cell n _ a hs hm).elim
      | ins c l => exact h.elim
  | _ => exact h.elim
theorem sg_sub (h1 : SE P C G X W e1 m1) (h2 : SE P C G X W e2 m2)
    (ha : ∀ v, assign (.Subscript e1 e2 pos) X.env v = (do
      let ov ← holding [v] (eval e1 X.env)
      let iv ← holding [v, ov] (eval e2 X.env)
      standAt pos
      holding [v, ov, iv] (setItem ov iv v)
      release [v, ov, iv] [])) : SG P C G X A W (.Subscript e1 e2 pos) (.sub m1 m2) := by
  refine PG.imp (pg_sub h1 h2 set_list ha) fun v σ H Q q => ?_
  obtain ⟨B, M, env, S, p, st, rv, q⟩ := q
  simp only [asgT] at q
  refine tE_thenS st q fun p1 S1 x M1 H1 e1 b1 st1 r1 q1 => tE_thenS st1 q1 fun p2 S2 y M2 H2 e2 b2 st2 r2 q2 => ?_
  exact set_ok st2 (r1.mv e2) r2 ((rv.mv e1).mv e2) q2
/-! ### statements -/
theorem ss_pass : SS P C G X A W (.Pass pos) .pass := PS.imp ps_pass fun D σ H q => by
  obtain ⟨B, M, env, S, st, q⟩ := q
  simp only [exS] at q
  exact q.here st.s σ .refl st
theorem ss_brk : SS P C G X A W (.Break pos) .brk := PS.imp ps_break fun D σ H q => by
  obtain ⟨B, M, env, S, st, q⟩ := q
  simp only [exS] at q
  exact q.here st.s σ .refl st
theorem ss_cont : SS P C G X A W (.Continue pos) .cont := PS.imp ps_continue fun D σ H q => by
  obtain ⟨B, M, env, S, st, q⟩ := q
  simp only [exS] at q
  exact q.here st.s σ .refl st
theorem ss_never {st : Stmt} : SS P C G X A W st .never := PS.imp ps_never fun D σ H q => by
  obtain ⟨B, M, env, S, st, q⟩ := q
  simp only [exS] at q
  exact q.elim
theorem ss_doc {x : Str} {j : Nat} : SS P C G X A W (.Expr (.Constant (.str x) j p) pos) .pass := PS.imp ps_doc fun D σ H q => by
  obtain ⟨B, M, env, S, st, q⟩ := q
  simp only [exS] at q
  exact q.here st.s σ .refl st
theorem ss_expr (h : SE P C G X W e m) (hs : swapsWith e none pos.line X.env = pure false) : SS P C G X A W (.Expr e pos) (.expr m) := by
  refine PS.imp (ps_expr h hs) fun D σ H q => ?_
  obtain ⟨B, M, env, S, st, q⟩ := q
  simp only [exS] at q
  exact tE_thenS st q fun p1 S1 x M1 H1 e1 b1 st1 r1 q1 => q1.here st1.s σ .refl st1
theorem ss_ret (h : SE P C G X W e m) : SS P C G X A W (.Return (some e) pos) (.ret m) := by
  refine PS.imp (ps_ret h) fun D σ H q => ?_
  obtain ⟨B, M, env, S, st, q⟩ := q
  simp only [exS] at q
  exact tE_thenS st q fun p1 S1 x M1 H1 e1 b1 st1 r1 q1 => q1.here st1.s x r1
theorem ss_retN : SS P C G X A W (.Return none pos) (.ret .non) := by
  refine PS.imp ps_retN fun D σ H q => ?_
  obtain ⟨B, M, env, S, st, q⟩ := q
  simp only [exS, ev] at q
  exact q.here st.s .non .non
theorem ss_if {a b : List Stmt} {ma mb : List MS} (h : ST P C G X W e m) (ha : SSs P C G X A W a ma) (hb : SSs P C G X A W b mb) : SS P C G X A W (.If e a b pos) (.ite m ma mb) := by
  refine PS.imp (ps_if h ha hb) fun D σ H q => ?_
  obtain ⟨B, M, env, S, st, q⟩ := q
  simp only [exS] at q
  refine tT_thenS st q fun k S1 M1 H1 e1 b1 st1 q1 => ?_
  cases k with
  | true => exact iteT ⟨B, M1, env, S1, st1, q1⟩
  | false => exact iteF ⟨B, M1, env, S1, st1, q1⟩
theorem ss_asg {t : MT} {tg : Expr} (h : SE P C G X W e m) (hg : SG P C G X A W tg t) (hs : swapsWithSole [tg] e pos.line X.env = pure false) (hw : swappedStores [tg] e X.env = pure none) (h1 : (assignEach [tg] X.env).map (·.2) = [assign tg X.env]) : SS P C G X A W (.Assign [tg] e pos) (.asg t m) := by
  refine PS.imp (ps_asg h hg hs hw h1) fun D σ H q => ?_
  obtain ⟨B, M, env, S, st, q⟩ := q
  simp only [exS] at q
  refine tE_thenS st q fun p1 S1 x M1 H1 e1 b1 st1 r1 q1 => tG_thenS st1 r1 q1 fun σ1 env1 S2 M2 H2 ag e2 b2 st2 q2 => ?_
  exact q2.here st2.s σ1 ag st2
theorem RGS.know {α : Type} {K : PySem.W.Frag} {G : Nm} {A : Nat → Bool} {σ : St} {W : WX} {B M : List Addr} {H : Hp} {r : R α} {Q : α → List Addr → Hp → Store → Prop} {L : α → Prop} (h : RGS K G A σ W B M H r Q) (hl : ∀ a S, r = .ok a S → L a) : RGS K G A σ W B M H r fun a M' H' S' => L a ∧ Q a M' H' S' := by
  cases r with
  | ok p S => exact fun M' H' e hb rs => ⟨hl p S rfl, h M' H' e hb rs⟩
  | ex x S => exact h
  | bad => exact h
theorem tA_thenS {β : Type} {B M : List Addr} {env : Env} {S : Store} {σ : St} {H : Hp} {g : List PV → Store → R β} {Q : β → List Addr → Hp → Store → Prop} {Q' : List V → Hp → Prop} (st : At X.K G B M H σ env S)
    (h : RGS X.K G A σ W B M H ((evL P C ms env S).bind g) Q)
    (k : ∀ ps S1 vs M1 H1, ps.length = ms.length → Ext B M H B M1 H1 → (∀ b ∈ B, H1 b = H b) → At X.K G B M1 H1 σ env S1 → RVs X.K B M1 H1 vs ps → RGS X.K G A σ W B M1 H1 (g ps S1) Q → Q' vs H1) : tA X.K G W (evL P C ms) σ H Q' := by
  refine ⟨B, M, env, S, st, RG.imp (RGS.know h.bind fun a S' e => evL_len e).rg fun a M' H' S' q => ?_⟩
  intro vs rv
  have q2 := q.2 σ .refl
  exact k a S' vs M' H' q.1 q2.1 q2.2.1 (st.mv q2.1 q2.2.2.1) rv q2.2.2.2
theorem ss_par {i j : Nat} {x y : Str} {a b : Expr} {ma mb : ME} {px py pt : Pos} {kt k2 : Nat} {pt2 : Pos} (hc : X.calm = true) (hN : X.N.Nodup) (hi : X.N[i]? = some x) (hj : X.N[j]? = some y) (hij : i ≠ j) (hx : X.env.scope.names.lookup x = some .local) (hy : X.env.scope.names.lookup y = some .local) (ha : SA P C G X W [a, b] [ma, mb])
    (hw : swappedStores [.Tuple [.Name x px, .Name y py] kt pt] (.Tuple [a, b] k2 pt2) X.env = pure (some [x, y])) (hs : swapsWithSole [.Tuple [.Name x px, .Name y py] kt pt] (.Tuple [a, b] k2 pt2) pos.line X.env = pure false) (ai : A i = true) (aj : A j = true) :
    SS P C G X A W (.Assign [.Tuple [.Name x px, .Name y py] kt pt] (.Tuple [a, b] k2 pt2) pos) (.asg (.tup [.nm i, .nm j]) (.tup [ma, mb])) := by
  refine PS.imp (ps_par hc hN hi hj hij hx hy ha hw hs) fun D σ H q => ?_
  obtain ⟨B, M, env, S, st, q⟩ := q
  simp only [exS, ev, R.bind_assoc] at q
  refine tA_thenS st q fun ps S1 vs M1 H1 l1 e1 b1 st1 r1 q1 => ?_
  rcases ps with _ | ⟨p, _ | ⟨p2, _ | ⟨p3, t⟩⟩⟩ <;> try (simp at l1; done)
  obtain ⟨v, w, rfl, rv, rw'⟩ := r1.two
  refine ⟨v, w, rfl, ?_⟩
  exact q1.here st1.s _ ((Ag.set ai).trans (Ag.set aj)) ⟨(st1.e.set i rv).set j rw', st1.s⟩
theorem ss_par3 {i j l : Nat} {x y z : Str} {a b c : Expr} {ma mb mc : ME} {px py pz pt : Pos} {kt k2 : Nat} {pt2 : Pos} (hc : X.calm = true) (hN : X.N.Nodup) (hi : X.N[i]? = some x) (hj : X.N[j]? = some y) (hl : X.N[l]? = some z) (hij : i ≠ j) (hil : i ≠ l) (hjl : j ≠ l)
    (hx : X.env.scope.names.lookup x = some .local) (hy : X.env.scope.names.lookup y = some .local) (hz : X.env.scope.names.lookup z = some .local) (ha : SA P C G X W [a, b, c] [ma, mb, mc])
    (hw : swappedStores [.Tuple [.Name x px, .Name y py, .Name z pz] kt pt] (.Tuple [a, b, c] k2 pt2) X.env = pure (some [x, y, z])) (hs : swapsWithSole [.Tuple [.Name x px, .Name y py, .Name z pz] kt pt] (.Tuple [a, b, c] k2 pt2) pos.line X.env = pure false) (ai : A i = true) (aj : A j = true) (al : A l = true) :
    SS P C G X A W (.Assign [.Tuple [.Name x px, .Name y py, .Name z pz] kt pt] (.Tuple [a, b, c] k2 pt2) pos) (.asg (.tup [.nm i, .nm j, .nm l]) (.tup [ma, mb, mc])) := by
  refine PS.imp (ps_par3 hc hN hi hj hl hij hil hjl hx hy hz ha hw hs) fun D σ H q => ?_
  obtain ⟨B, M, env, S, st, q⟩ := q
  simp only [exS, ev, R.bind_assoc] at q
  refine tA_thenS st q fun ps S1 vs M1 H1 l1 e1 b1 st1 r1 q1 => ?_
  rcases ps with _ | ⟨p, _ | ⟨p2, _ | ⟨p3, _ | ⟨p4, t⟩⟩⟩⟩ <;> try (simp at l1; done)
  obtain ⟨v, r, rfl, rv, r2⟩ := r1.cons_inv
  obtain ⟨w, u, rfl, rw', ru⟩ := r2.two
  refine ⟨v, w, u, rfl, ?_⟩
  exact q1.here st1.s _ (((Ag.set ai).trans (Ag.set aj)).trans (Ag.set al)) ⟨((st1.e.set i rv).set j rw').set l ru, st1.s⟩
theorem sl_nil : SSs P C G X A W [] [] := PSs.imp pss_nil fun D σ H q => by
  obtain ⟨B, M, env, S, st, q⟩ := q
  simp only [exL] at q
  exact q.here st.s σ .refl st
theorem sl_cons {s : Stmt} {r : List Stmt} {ms : MS} {mr : List MS} (h1 : SS P C G X A W s ms) (h2 : SSs P C G X A W r mr) : SSs P C G X A W (s :: r) (ms :: mr) := by
  refine PSs.imp (pss_cons h1 h2) fun D σ H q => ?_
  obtain ⟨B, M, env, S, st, q⟩ := q
  simp only [exL] at q
  refine ⟨B, M, env, S, st, RGS.imp q.bind fun f M' H' S' q => ?_⟩
  have q0 := q σ .refl
  cases f with
  | nx env' => exact fun σ' ag at' => ⟨B, M', env', S', at', RGS.imp (q σ' ag).2.2.2 fun f M2 H2 S2 q2 => by
      have ag2 := ag
      cases f with
      | nx e2 => exact fun σ2 a2 t2 => q2 σ2 (ag.trans a2) t2
      | bk e2 => exact fun σ2 a2 t2 => q2 σ2 (ag.trans a2) t2
      | ct e2 => exact fun σ2 a2 t2 => q2 σ2 (ag.trans a2) t2
      | rt v => exact q2⟩
  | bk env' => exact fun σ' ag at' => (q0.2.2.2.here q0.2.2.1) σ' ag at'
  | ct env' => exact fun σ' ag at' => (q0.2.2.2.here q0.2.2.1) σ' ag at'
  | rt v => exact fun x rv => (q0.2.2.2.here q0.2.2.1) x rv
end
end G

namespace G
open PySem PySem.Spec PyProof.Rows L2
/-- its is what the walk J gives -/
structure WalkOk (K : PySem.W.Frag) (G : Nm) (its : Its) (J : It) (B M : List Addr) (H : Hp) : Prop where
  go : ∀ (i : Nat) (p : PV) B1 M1 H1 S1, its.xs[i]? = some p → Ext B M H B1 M1 H1 → RS K G B1 M1 H1 S1 → its.ok S1 = true →
    J.go i H1 ∧ ∀ x H2, J.yld i H1 x H2 → Ext B1 M1 H1 B1 M1 H2 ∧ (∀ b ∈ B1, H2 b = H1 b) ∧ RS K G B1 M1 H2 S1 ∧ RV K B1 M1 H2 x p
  stop : ∀ B1 M1 H1 S1, Ext B M H B1 M1 H1 → RS K G B1 M1 H1 S1 → its.ok S1 = true → J.stop its.xs.length H1
def tI (K : PySem.W.Frag) (G : Nm) (W : WX) (f : Env → Store → R Its) : TI := fun σ H Rr => ∃ B M env S, At K G B M H σ env S ∧ RG K G (fun c d => W c d σ) B M H (f env S) (fun its M' H' _ => ∀ J, WalkOk K G its J B M' H' → Rr J H')
abbrev SI (P : Prog) (C : Nat → List PV → Store → R PV) (G : Nm) (X : Cx) (W : WX) (tg iter : Expr) (mi : MI) : Prop := PI X tg iter (tI X.K G W (evI P C mi))
theorem PI.imp {X : Cx} {tg e : Expr} {t t' : TI} (h : PI X tg e t) (i : ∀ σ H Q, t' σ H Q → t σ H Q) : PI X tg e t' := ⟨fun pins s σ H Q I q => h.run pins s σ H Q I (i σ H Q q)⟩
section
variable {K : PySem.W.Frag} {G : Nm} {A : Nat → Bool} {σ σ1 : St} {W : WX} {B M : List Addr} {H : Hp}
theorem FlQ.ag {D : Ends} {f : Fl} {S : Store} (a : Ag A σ σ1) (h : FlQ K G A σ B D f M H S) : FlQ K G A σ1 B D f M H S := by
  cases f with
  | nx e => exact fun σ2 a2 t => h σ2 (a.trans a2) t
  | bk e => exact fun σ2 a2 t => h σ2 (a.trans a2) t
  | ct e => exact fun σ2 a2 t => h σ2 (a.trans a2) t
  | rt v => exact h
theorem tI_thenS {X : Cx} {β : Type} {env : Env} {S : Store} {f : Env → Store → R Its} {g : Its → Store → R β} {Q : β → List Addr → Hp → Store → Prop} {Q' : It → Hp → Prop} (st : At X.K G B M H σ env S)
    (h : RGS X.K G A σ W B M H ((f env S).bind g) Q)
    (k : ∀ its S1 J M1 H1, Ext B M H B M1 H1 → (∀ b ∈ B, H1 b = H b) → At X.K G B M1 H1 σ env S1 → WalkOk X.K G its J B M1 H1 → RGS X.K G A σ W B M1 H1 (g its S1) Q → Q' J H1) : tI X.K G W f σ H Q' := by
  refine ⟨B, M, env, S, st, RG.imp h.bind.rg fun a M' H' S' q => ?_⟩
  intro J w
  have q := q σ .refl
  exact k a S' J M' H' q.1 q.2.1 (st.mv q.1 q.2.2.1) w q.2.2.2
theorem tI_thenG {X : Cx} {β : Type} {env : Env} {S : Store} {f : Env → Store → R Its} {g : Its → Store → R β} {Q : β → List Addr → Hp → Store → Prop} {Q' : It → Hp → Prop} (st : At X.K G B M H σ env S)
    (h : RG X.K G (fun c d => W c d σ) B M H ((f env S).bind g) Q)
    (k : ∀ its S1 J M1 H1, Ext B M H B M1 H1 → (∀ b ∈ B, H1 b = H b) → At X.K G B M1 H1 σ env S1 → WalkOk X.K G its J B M1 H1 → RG X.K G (fun c d => W c d σ) B M1 H1 (g its S1) Q → Q' J H1) : tI X.K G W f σ H Q' := by
  refine ⟨B, M, env, S, st, RG.imp h.bind fun a M' H' S' q => ?_⟩
  intro J w
  exact k a S' J M' H' q.1 q.2.1 (st.mv q.1 q.2.2.1) w q.2.2.2
end
def forK (go : Env → Store → R Fl) : Fl → Store → R Fl
  | .nx e, S => go e S
  | .ct e, S => go e S
  | .bk e, S => .ok (.nx e) S
  | .rt v, S => .ok (.rt v) S
theorem forL_cons {w : Store → Bool} {body : PV → Env → Store → R Fl} {x : PV} {xs : List PV} {env : Env} {S : Store} : forL w body (x :: xs) env S = if w S then (body x env S).bind (forK (forL w body xs)) else .bad := by
  simp only [forL]
  split
  · cases body x env S with
    | ok f S' => cases f <;> rfl
    | ex e S' => rfl
    | bad => rfl
  · rfl
section
variable {P : Prog} {C : Nat → List PV → Store → R PV} {G : Nm} {X : Cx} {A : Nat → Bool} {W : WX} {p pos pos2 : Pos} {e e1 e2 e3 tg iter elt : Expr} {m m1 m2 m3 : ME} {es : List Expr} {ms : List ME} {k : Nat}
theorem ss_for {mi : MI} {t : MT} {body : List Stmt} {mb : List MS} (g : Good k X W) (hi : SI P C G X W tg iter mi) (hg : SG P C G X A W tg t) (hb : SSs P C G X A W body mb) (hs : ∀ x, foldedSetIterable iter X.env x = pure x) : SS P C G X A W (.For tg iter body [] pos) (.for_ t mi mb) := by
  refine PS.imp (ps_for g.own g.calm hi hg hb hs) fun D σ H q => ?_
  obtain ⟨B, M, env, S, st, q⟩ := q
  simp only [exS] at q
  refine tI_thenS st q fun its S1 J M1 H1 e1 b1 st1 wk q1 => ?_
  refine ⟨fun i m σ' H' => m = its.xs.length - i ∧ i ≤ its.xs.length ∧ ∃ M' env' S', Ag A σ σ' ∧ Ext B M1 H1 B M' H' ∧ At X.K G B M' H' σ' env' S' ∧
    RGS X.K G A σ' W B M' H' (forL its.ok (fun x env S => (asgT P C t x env S).bind fun env S => exL P C mb env S) (its.xs.drop i) env' S') (FlQ X.K G A σ' B D), ⟨_, rfl, Nat.zero_le _, M1, env, S1, .refl, .refl, st1, q1⟩, ?_⟩
  rintro i m σ' H' ⟨rfl, hi, M', env', S', ag, ex, at', q⟩
  cases hx : its.xs[i]? with
  | none =>
    have hl : its.xs.length ≤ i := List.getElem?_eq_none_iff.mp hx
    have hd : its.xs.drop i = [] := List.drop_eq_nil_of_le hl
    obtain rfl : i = its.xs.length := by omega
    rw [hd] at q
    simp only [forL] at q
    cases hw : its.ok S' with
    | false => rw [hw] at q; exact q.elim
    | true =>
      rw [hw, if_pos rfl] at q
      exact .inl ⟨wk.stop B M' H' S' ex at'.s hw, q.here at'.s σ' .refl at'⟩
  | some x =>
    have hlt : i < its.xs.length := (List.getElem?_eq_some_iff.mp hx).1
    have hd : its.xs.drop i = x :: its.xs.drop (i + 1) := by
      rw [List.drop_eq_getElem_cons hlt, (List.getElem?_eq_some_iff.mp hx).2]
    rw [hd, forL_cons] at q
    cases hw : its.ok S' with
    | false => rw [hw] at q; exact q.elim
    | true =>
      rw [hw, if_pos rfl] at q
      obtain ⟨go, yl⟩ := wk.go i x B M' H' S' hx ex at'.s hw
      refine .inr ⟨go, _, fun σ'' H'' h => h, fun v H2 y => ?_⟩
      obtain ⟨ex2, bz, s2, rv⟩ := yl v H2 y
      have q' := q.mv .refl ex2 bz
      rw [R.bind_assoc] at q'
      refine tG_thenS (at'.mv ex2 s2) rv q' fun σ3 env3 S3 M3 H3 ag3 ex3 b3 st3 q3 => ?_
      refine ⟨B, M3, env3, S3, st3, RGS.imp q3.bind fun f M4 H4 S4 q4 => ?_⟩
      have q40 := q4 σ3 .refl
      have again : ∀ env4 σ4, Ag A σ3 σ4 → At X.K G B M4 H4 σ4 env4 S4 → RGS X.K G A σ4 W B M4 H4 (forL its.ok (fun x env S => (asgT P C t x env S).bind fun env S => exL P C mb env S) (its.xs.drop (i + 1)) env4 S4) (FlQ X.K G A σ' B D) →
          ∃ m', m' < its.xs.length - i ∧ m' = its.xs.length - (i + 1) ∧ i + 1 ≤ its.xs.length ∧ ∃ M' env' S', Ag A σ σ4 ∧ Ext B M1 H1 B M' H4 ∧ At X.K G B M' H4 σ4 env' S' ∧
            RGS X.K G A σ4 W B M' H4 (forL its.ok (fun x env S => (asgT P C t x env S).bind fun env S => exL P C mb env S) (its.xs.drop (i + 1)) env' S') (FlQ X.K G A σ4 B D) := fun env4 σ4 ag4 at4 q5 =>
        ⟨its.xs.length - (i + 1), by omega, rfl, by omega, M4, env4, S4, (ag.trans ag3).trans ag4, ((ex.trans ex2).trans ex3).trans q40.1, at4, RGS.imp q5 fun a M' H' S' z => z.ag (ag3.trans ag4)⟩
      cases f with
      | nx e4 => exact fun σ4 ag4 at4 => again e4 σ4 ag4 at4 (q4 σ4 ag4).2.2.2
      | ct e4 => exact fun σ4 ag4 at4 => again e4 σ4 ag4 at4 (q4 σ4 ag4).2.2.2
      | bk e4 => exact fun σ4 ag4 at4 => q40.2.2.2.here q40.2.2.1 σ4 (ag3.trans ag4) at4
      | rt v4 => exact fun v rv => q40.2.2.2.here q40.2.2.1 v rv
/-! ### comprehensions -/
theorem wipe_eq {σ : St} {env : Env} : ∀ {vs : List Nat}, wipe σ vs = wipe σ vs → True := fun _ => trivial
theorem wipe_get {σ : St} {i : Nat} : ∀ {vs : List Nat}, i ∈ vs → (wipe σ vs)[i]? = none ∨ (wipe σ vs)[i]? = some none
  | [], h => by cases h
  | v :: vs, h => by
    unfold wipe
    by_cases e : v = i
    · subst e
      by_cases hl : v < (wipe σ vs).length
      · exact .inr (by rw [List.getElem?_set_self hl])
      · exact .inl (by rw [List.getElem?_eq_none]; simpa using hl)
    · rw [List.getElem?_set_ne e]
      rcases List.mem_cons.mp h with q | q
      · exact absurd q.symm e
      · exact wipe_get q
theorem wipe_len2 {σ σ2 : St} {vs : List Nat} (h : σ2.length = σ.length) (hk : ∀ i, i ∉ vs → σ2[i]? = σ[i]?) : wipe σ2 vs = wipe σ vs := by
  apply List.ext_getElem?
  intro i
  by_cases hi : i ∈ vs
  · have l1 := wipe_length σ2 vs
    have l2 := wipe_length σ vs
    by_cases hl : i < σ.length
    · have z1 : (wipe σ2 vs)[i]? ≠ none := by
        intro e
        have := List.getElem?_eq_none_iff.mp e
        omega
      have z2 : (wipe σ vs)[i]? ≠ none := by
        intro e
        have := List.getElem?_eq_none_iff.mp e
        omega
      rcases wipe_get (σ := σ2) hi with a | a
      · exact absurd a z1
      · rcases wipe_get (σ := σ) hi with b | b
        · exact absurd b z2
        · rw [a, b]
    · rw [List.getElem?_eq_none (by omega), List.getElem?_eq_none (by omega)]
  · rw [wipe_out hi, wipe_out hi]
    exact hk i hi
/-- the slots of the block -/
def inL (vs : List Nat) : Nat → Bool := fun i => vs.contains i
theorem wipe_ag {σ σ2 : St} {vs us : List Nat} (h : Ag (inL us) (wipe σ vs) σ2) (hu : ∀ i ∈ us, i ∈ vs) : wipe σ2 vs = wipe σ vs := by
  have e1 : wipe σ2 vs = wipe (wipe σ vs) vs := wipe_len2 h.1 fun i hi => h.2 i (by
    unfold inL
    cases q : us.contains i with
    | false => rfl
    | true => exact absurd (hu i (by simpa using q)) hi)
  have e2 : wipe (wipe σ vs) vs = wipe σ vs := by
    apply List.ext_getElem?
    intro i
    by_cases hi : i ∈ vs
    · by_cases hl : i < σ.length
      · have z1 : (wipe (wipe σ vs) vs)[i]? ≠ none := by
          intro e
          have := List.getElem?_eq_none_iff.mp e
          rw [wipe_length, wipe_length] at this
          omega
        have z2 : (wipe σ vs)[i]? ≠ none := by
          intro e
          have := List.getElem?_eq_none_iff.mp e
          rw [wipe_length] at this
          omega
        rcases wipe_get (σ := wipe σ vs) hi with a | a
        · exact absurd a z1
        · rcases wipe_get (σ := σ) hi with b | b
          · exact absurd b z2
          · rw [a, b]
      · rw [List.getElem?_eq_none (by rw [wipe_length, wipe_length]; omega), List.getElem?_eq_none (by rw [wipe_length]; omega)]
    · rw [wipe_out hi]
  rw [e1, e2]
theorem RE.wipe {K : PySem.W.Frag} {B M : List Addr} {H : Hp} {σ : St} {env : Env} (h : RE K B M H σ env) : ∀ vs : List Nat, RE K B M H (wipe σ vs) (wipeE env vs)
  | [] => h
  | v :: vs => by
    have q := RE.wipe h vs
    unfold L2.wipe wipeE
    refine ⟨by rw [List.length_set, List.length_set]; exact q.len, fun i p e => ?_⟩
    by_cases hv : v = i
    · subst hv
      by_cases hl : v < (wipeE env vs).length
      · rw [List.getElem?_set_self hl] at e; cases e
      · rw [List.getElem?_eq_none (by simpa using hl)] at e; cases e
    · rw [List.getElem?_set_ne hv] at e ⊢
      exact q.val i p e
abbrev STs (P : Prog) (C : Nat → List PV → Store → R PV) (G : Nm) (X : Cx) (W : WX) (es : List Expr) (ms : List ME) : Prop := PTs X es (tT X.K G W fun env S => evB (evAnd P C ms env S))
theorem PTs.imp {X : Cx} {e : List Expr} {t t' : TT} (h : PTs X e t) (i : ∀ σ H Q, t' σ H Q → t σ H Q) : PTs X e t' := ⟨fun pins s σ H Q I q => h.run pins s σ H Q I (i σ H Q q)⟩
theorem sts_nil : STs P C G X W [] [] := by
  refine PTs.imp pts_nil fun σ H Q q => ?_
  obtain ⟨B, M, env, S, st, q⟩ := q
  simp only [evAnd] at q
  exact RG.here (show RG X.K G (fun c d => W c d σ) B M H (.ok true S) (fun k _ H' _ => Q k H') from q) st.s
theorem sts_one (h : ST P C G X W e m) : STs P C G X W [e] [m] := by
  refine PTs.imp (pts_one h) fun σ H Q q => ?_
  obtain ⟨B, M, env, S, st, q⟩ := q
  refine ⟨B, M, env, S, st, ?_⟩
  have ee : evB (evAnd P C [m] env S) = evB (ev P C m env S) := by
    simp only [evAnd]
    cases evB (ev P C m env S) with
    | ok b S1 => cases b <;> rfl
    | ex x S1 => rfl
    | bad => rfl
  show RG X.K G (fun c d => W c d σ) B M H (evB (ev P C m env S)) _
  rw [← ee]
  exact q
/-- leaving the list under way: it is a value now -/
theorem ext_drop {B M : List Addr} {H : Hp} {D : Addr} : Ext (D :: B) M H B M H := ⟨List.prefix_refl _, fun x q => by
  rcases q with q | q
  · exact .inl q
  · exact .inr (.inl (List.mem_cons_of_mem _ q)), fun _ _ h _ _ => h⟩
theorem RC.mvB {K : PySem.W.Frag} {G : Nm} {B M B' M' : List Addr} {H : Hp} {a : Addr} {c : Cell} (h : RC K G B M H a c) (e : Ext B M H B' M' H) : RC K G B' M' H a c := h.mv e rfl
theorem RS.drop {K : PySem.W.Frag} {G : Nm} {B M : List Addr} {H : Hp} {S : Store} {D : Addr} (r : RS K G (D :: B) M H S) : RS K G B M H S :=
  ⟨r.len, r.nd, fun n c a hs hm => (r.cell n c a hs hm).mvB ext_drop, fun b hb => r.bsy b (List.mem_cons_of_mem _ hb)⟩
theorem ext_give {B M : List Addr} {H : Hp} {D : Addr} : Ext (D :: B) M H B (M ++ [D]) H := ⟨List.prefix_append _ _, fun x q => by
  rcases q with q | q
  · rcases List.mem_append.mp q with q | q
    · exact .inl q
    · exact .inr (.inl (by rw [List.mem_singleton.mp q]; exact List.mem_cons_self ..))
  · exact .inr (.inl (List.mem_cons_of_mem _ q)), fun _ _ h _ _ => h⟩
theorem RS.give {K : PySem.W.Frag} {G : Nm} {B M : List Addr} {H : Hp} {S : Store} {D : Addr} {c : Cell} (r : RS K G (D :: B) M H S) (hB : D ∉ B) (hc : RC K G B (M ++ [D]) H D c) : RS K G B (M ++ [D]) H (S ++ [c]) := by
  have hD := (r.bsy D (List.mem_cons_self ..)).1
  refine ⟨by simp [r.len], ?_, fun n d a hs hm => ?_, fun b hb => ⟨?_, (r.bsy b (List.mem_cons_of_mem _ hb)).2⟩⟩
  · rw [List.nodup_append]
    refine ⟨r.nd, by simp, fun x hx y hy => ?_⟩
    rw [List.mem_singleton.mp hy]
    intro e; rw [e] at hx; exact hD hx
  · by_cases hn : n < S.length
    · rw [List.getElem?_append_left hn] at hs
      rw [List.getElem?_append_left (by rw [r.len]; exact hn)] at hm
      exact (r.cell n d a hs hm).mvB ext_give
    · have hn' : n = S.length := by
        have := (List.getElem?_eq_some_iff.mp hs).1
        simp at this; omega
      subst hn'
      have e1 : d = c := by simpa using hs.symm
      have e2 : a = D := by rw [← r.len] at hm; simpa using hm.symm
      subst e1 e2
      exact hc
  · intro q
    rcases List.mem_append.mp q with q | q
    · exact (r.bsy b (List.mem_cons_of_mem _ hb)).1 q
    · rw [List.mem_singleton.mp q] at hb; exact hB hb
/-- the list under way is given back -/
theorem lst_done {K : PySem.W.Frag} {G : Nm} {W : Value → Option Addr → Hp → Prop} {B M M' : List Addr} {H0 H : Hp} {S : Store} {D : Addr} {acc : List V} {ps : List PV} {b : Bool} {Q : VK} (r : RS K G (D :: B) M' H S) (hB : D ∉ B) (hD : H D = some (.lst acc)) (rv : RVs K (D :: B) M' H acc ps)
    (ex : Ext B M H0 (D :: B) M' H) (hb : ∀ b ∈ B, H b = H0 b) (h : RP K G W B M H0 (newList b ps S) Q) : Q (.ref D) H := by
  have hl := newList_len h
  unfold newList at h
  rw [if_pos (by rw [sizeL_eq]; exact hl)] at h
  have hDM := (r.bsy D (List.mem_cons_self ..)).1
  cases b with
  | false => exact h (.ref D) M' H (ex.trans ext_drop) hb r.drop (.fl D acc ps ⟨.inl hD, hDM, hB⟩ (rv.mv ext_drop) hl)
  | true =>
    refine h (.ref D) (M' ++ [D]) H (ex.trans ext_give) hb (r.give hB ⟨acc, hD, rv.mv ext_give, hl⟩) (.loc D _ ?_)
    rw [← r.len]
    simp
theorem noEx_bind {α β : Type} {r : R α} {g : α → Store → R β} {K : PySem.W.Frag} {G : Nm} {W : Value → Option Addr → Hp → Prop} {B M : List Addr} {H : Hp} {Q : β → List Addr → Hp → Store → Prop} (h : RG K G W B M H ((noEx r).bind g) Q) : ∃ a S, r = .ok a S ∧ RG K G W B M H (g a S) Q := by
  cases r with
  | ok a S => exact ⟨a, S, rfl, h⟩
  | ex e S => exact h.elim
  | bad => exact h.elim
theorem bind_ok {α β : Type} {r : R α} {g : α → Store → R β} {b : β} {S' : Store} (h : r.bind g = .ok b S') : ∃ a S, r = .ok a S ∧ g a S = .ok b S' := by
  cases r with
  | ok a S => exact ⟨a, S, rfl, h⟩
  | ex e S => cases h
  | bad => cases h
/-- one turn of a comprehension -/
def lcBody (P : Prog) (C : Nat → List PV → Store → R PV) (t : MT) (cs : List ME) (m : ME) (env0 : Env) : PV → Store → R (List PV) := fun x S => noEx <| (asgT P C t x env0 S).bind fun env S => (evB (evAnd P C cs env S)).bind fun k S => if k then (ev P C m env S).bind fun v S => .ok [v] S else .ok [] S
theorem RG.of_ok {α : Type} {K : PySem.W.Frag} {G : Nm} {W : Value → Option Addr → Hp → Prop} {B M : List Addr} {H : Hp} {r : R α} {a : α} {S : Store} {Q : α → List Addr → Hp → Store → Prop} (e : r = .ok a S) (h : ∀ M' H', Ext B M H B M' H' → (∀ b ∈ B, H' b = H b) → RS K G B M' H' S → Q a M' H' S) : RG K G W B M H r Q := by rw [e]; exact h
theorem noEx_ex {α : Type} {r : R α} {e : PV} {S : Store} : noEx r ≠ .ex e S := by
  cases r <;> exact fun h => nomatch h
theorem compL_noex {w : Store → Bool} {body : PV → Store → R (List PV)} : ∀ {xs : List PV} {S S' : Store} {e : PV}, compL w (fun x S => noEx (body x S)) xs S ≠ .ex e S'
  | [], S, S', e, h => by
    simp only [compL] at h
    split at h <;> cases h
  | x :: xs, S, S', e, h => by
    rw [compL] at h
    split at h
    · have h : (noEx (body x S)).bind (fun a S => (compL w (fun x S => noEx (body x S)) xs S).bind fun r S => .ok (a ++ r) S) = .ex e S' := h
      cases h1 : noEx (body x S) with
      | ok a S1 =>
        rw [h1] at h
        have h : (compL w (fun x S => noEx (body x S)) xs S1).bind (fun r S => .ok (a ++ r) S) = .ex e S' := h
        cases h2 : compL w (fun x S => noEx (body x S)) xs S1 with
        | ok r S2 => rw [h2] at h; cases h
        | ex x S2 => exact compL_noex h2
        | bad => rw [h2] at h; cases h
      | ex x S1 => exact noEx_ex h1
      | bad => rw [h1] at h; cases h
    · cases h
theorem lc_ok {mi : MI} {t : MT} {cs : List ME} {own us : List Nat} {b : Bool} (hu : ∀ i ∈ us, i ∈ own) {σ : St} {H : Hp} {Q : VK} (q : tE X.K G W (ev P C (.lc b own m t mi cs)) σ H Q) :
    tLc (tI X.K G W (evI P C mi)) (tG X.K G (inL us) W0 (asgT P C t)) (tT X.K G W0 fun env S => evB (evAnd P C cs env S)) (tE X.K G W0 (ev P C m)) own σ H Q := by
  obtain ⟨B, M, env, S, st, q⟩ := q
  simp only [ev] at q
  refine tI_thenG st q.rg fun its S1 J M1 H1 e1 b1 st1 wk q1 => ?_
  have q1 : RP X.K G (fun c d => W c d σ) B M1 H1 ((compL its.ok (lcBody P C t cs m (wipeE env own)) its.xs S1).bind fun r S => newList b r S) Q := RG.rp q1
  intro D hD
  have fr := st1.s.free hD
  refine ⟨fun i n H' => n = its.xs.length - i ∧ i ≤ its.xs.length ∧ ∃ M' S' acc ps, Ext B M1 H1 (D :: B) M' H' ∧ (∀ b ∈ B, H' b = H1 b) ∧ At X.K G (D :: B) M' H' (wipe σ own) (wipeE env own) S' ∧ H' D = some (.lst acc) ∧ RVs X.K (D :: B) M' H' acc ps ∧
    RP X.K G (fun c d => W c d σ) B M1 H1 ((compL its.ok (lcBody P C t cs m (wipeE env own)) (its.xs.drop i) S').bind fun r S => newList b (ps ++ r) S) Q, ⟨_, rfl, Nat.zero_le _, M1, S1, [], [], ?_, ?_, ?_, upd_same, .nil, q1⟩, ?_⟩
  · refine ⟨List.prefix_refl _, fun x z => ?_, fun x o z _ _ => ?_⟩
    · rcases z with z | z
      · exact .inl z
      · rcases List.mem_cons.mp z with z | z
        · rw [z]; exact .inr (.inr hD)
        · exact .inr (.inl z)
    · rw [upd_ne (ne_of_none z hD)]; exact z
  · exact fun x hx => upd_ne (fun e => fr.2 (by rw [← e]; exact hx))
  · have en : Ext B M1 H1 B M1 (upd H1 D (.lst [])) := ext_new hD
    have ed : Ext B M1 (upd H1 D (.lst [])) (D :: B) M1 (upd H1 D (.lst [])) → True := fun _ => trivial
    have e0 : Ext B M1 H1 (D :: B) M1 (upd H1 D (.lst [])) := by
      refine ⟨List.prefix_refl _, fun x z => ?_, fun x o z _ _ => ?_⟩
      · rcases z with z | z
        · exact .inl z
        · rcases List.mem_cons.mp z with z | z
          · rw [z]; exact .inr (.inr hD)
          · exact .inr (.inl z)
      · rw [upd_ne (ne_of_none z hD)]; exact z
    refine ⟨(st1.e.wipe own).mv e0, ⟨st1.s.len, st1.s.nd, fun n c a hs hm => ?_, fun x hx => ?_⟩⟩
    · have z := st1.s.cell n c a hs hm
      obtain ⟨u, ez⟩ := z.there
      exact z.mv e0 (upd_ne (ne_of_none ez hD))
    · rcases List.mem_cons.mp hx with z | z
      · rw [z]; exact ⟨fr.1, _, upd_same⟩
      · obtain ⟨u, ez⟩ := (st1.s.bsy x z).2
        exact ⟨(st1.s.bsy x z).1, u, by rw [upd_ne (ne_of_none ez hD)]; exact ez⟩
  · rintro i n H' ⟨rfl, hi, M', S', acc, ps, ex, bz, at', hacc, rps, q⟩
    cases hx : its.xs[i]? with
    | none =>
      have hl : its.xs.length ≤ i := List.getElem?_eq_none_iff.mp hx
      have hd : its.xs.drop i = [] := List.drop_eq_nil_of_le hl
      obtain rfl : i = its.xs.length := by omega
      rw [hd] at q
      simp only [compL] at q
      cases hw : its.ok S' with
      | false => rw [hw] at q; exact q.elim
      | true =>
        rw [hw, if_pos rfl] at q
        have q : RP X.K G (fun c d => W c d σ) B M1 H1 (newList b (ps ++ []) S') Q := q
        rw [List.append_nil] at q
        exact .inl ⟨wk.stop _ M' H' S' ex at'.s hw, lst_done at'.s fr.2 hacc rps ex bz q⟩
    | some x =>
      have hlt : i < its.xs.length := (List.getElem?_eq_some_iff.mp hx).1
      have hd : its.xs.drop i = x :: its.xs.drop (i + 1) := by
        rw [List.drop_eq_getElem_cons hlt, (List.getElem?_eq_some_iff.mp hx).2]
      rw [hd] at q
      simp only [compL] at q
      cases hw : its.ok S' with
      | false => rw [hw] at q; exact q.elim
      | true =>
        rw [hw, if_pos rfl, R.bind_assoc] at q
        obtain ⟨go, yl⟩ := wk.go i x _ M' H' S' hx ex at'.s hw
        refine .inr ⟨go, _, fun H'' h => h, fun v H2 y => ?_⟩
        obtain ⟨ex2, bz2, s2, rv⟩ := yl v H2 y
        obtain ⟨a, S5, ea, q5⟩ := noEx_bind q.rg
        have q5 : RP X.K G (fun c d => W c d σ) B M1 H1 (((compL its.ok (lcBody P C t cs m (wipeE env own)) (its.xs.drop (i + 1)) S5).bind fun r S => .ok (a ++ r) S).bind fun r S => newList b (ps ++ r) S) Q := RG.rp q5
        rw [R.bind_assoc] at q5
        obtain ⟨env2, S2, ea1, ea⟩ := bind_ok ea
        obtain ⟨kk, S3, ea2, ea⟩ := bind_ok ea
        have at2 : At X.K G (D :: B) M' H2 (wipe σ own) (wipeE env own) S' := at'.mv ex2 s2
        have Dmem : D ∈ D :: B := List.mem_cons_self ..
        refine ⟨_, M', _, S', x, at2, rv, ?_⟩
        rw [ea1]
        intro M3 H3 ex3 b3 s3 σ3 ag3 at3
        refine ⟨wipe_ag ag3 hu, _, M3, env2, S2, at3, RG.of_ok ea2 fun M4 H4 ex4 b4 s4 => ?_⟩
        have fin : ∀ (H6 : Hp) (M6 : List Addr) (acc' : List V) (ps' : List PV) , Ext B M1 H1 (D :: B) M6 H6 → (∀ b ∈ B, H6 b = H1 b) → RS X.K G (D :: B) M6 H6 S5 → Ext (D :: B) M' H' (D :: B) M6 H6 → H6 D = some (.lst acc') → RVs X.K (D :: B) M6 H6 acc' ps' →
            RP X.K G (fun c d => W c d σ) B M1 H1 ((compL its.ok (lcBody P C t cs m (wipeE env own)) (its.xs.drop (i + 1)) S5).bind fun r S => newList b (ps' ++ r) S) Q →
            ∃ m', m' < its.xs.length - i ∧ m' = its.xs.length - (i + 1) ∧ i + 1 ≤ its.xs.length ∧ ∃ M' S' acc ps, Ext B M1 H1 (D :: B) M' H6 ∧ (∀ b ∈ B, H6 b = H1 b) ∧ At X.K G (D :: B) M' H6 (wipe σ own) (wipeE env own) S' ∧ H6 D = some (.lst acc) ∧ RVs X.K (D :: B) M' H6 acc ps ∧
              RP X.K G (fun c d => W c d σ) B M1 H1 ((compL its.ok (lcBody P C t cs m (wipeE env own)) (its.xs.drop (i + 1)) S').bind fun r S => newList b (ps ++ r) S) Q :=
          fun H6 M6 acc' ps' x1 x2 x3 x4 x5 x6 x7 => ⟨_, by omega, rfl, hlt, M6, S5, acc', ps', x1, x2, at'.mv x4 x3, x5, x6, x7⟩
        cases kk with
        | false =>
          rw [if_neg Bool.false_ne_true] at ea
          cases ea
          refine iteF (fin H4 M4 acc ps (((ex.trans ex2).trans ex3).trans ex4) ?_ s4 ((ex2.trans ex3).trans ex4) ?_ (((rps.mv ex2).mv ex3).mv ex4) ?_)
          · exact fun z hz => ((b4 z (List.mem_cons_of_mem _ hz)).trans ((b3 z (List.mem_cons_of_mem _ hz)).trans (bz2 z (List.mem_cons_of_mem _ hz)))).trans (bz z hz)
          · rw [b4 D Dmem, b3 D Dmem, bz2 D Dmem]; exact hacc
          · exact q5
        | true =>
          rw [if_pos rfl] at ea
          obtain ⟨w, S6, ea3, ea⟩ := bind_ok ea
          cases ea
          refine iteT ⟨_, M4, env2, S3, at3.mv ex4 s4, ?_⟩
          rw [ea3]
          intro z M6 H6 ex6 b6 s6 rz
          have hD6 : H6 D = some (.lst acc) := by rw [b6 D Dmem, b4 D Dmem, b3 D Dmem, bz2 D Dmem]; exact hacc
          have exT : Ext (D :: B) M' H' (D :: B) M6 H6 := ((ex2.trans ex3).trans ex4).trans ex6
          have rps6 := rps.mv exT
          have hl6 : (ps ++ [w]).length ≤ sizeLine := by
            have q6 := q5
            cases ec : compL its.ok (lcBody P C t cs m (wipeE env own)) (its.xs.drop (i + 1)) S5 with
            | ok r S8 =>
              rw [ec] at q6
              have hh := newList_len (show RP X.K G (fun c d => W c d σ) B M1 H1 (newList b (ps ++ ([w] ++ r)) S8) Q from q6)
              simp at hh ⊢
              omega
            | ex x8 S8 =>
              exact absurd ec compL_noex
            | bad => rw [ec] at q6; exact q6.elim
          refine ⟨acc, hD6, by rw [rps6.length]; simp at hl6; omega, ?_⟩
          have eu : Ext (D :: B) M6 H6 (D :: B) M6 (upd H6 D (.lst (acc ++ [z]))) := ⟨List.prefix_refl _, fun a h => by rcases h with h | h; exact .inl h; exact .inr (.inl h), fun a o h _ hb => by rw [upd_ne (fun e => hb (by rw [e]; exact Dmem))]; exact h⟩
          have hDM := (s6.bsy D Dmem).1
          have s7 : RS X.K G (D :: B) M6 (upd H6 D (.lst (acc ++ [z]))) S5 := ⟨s6.len, s6.nd, fun n c a hs hm => (s6.cell n c a hs hm).mv eu (upd_ne fun e => hDM (by rw [← e]; exact List.mem_of_getElem? hm)), fun a ha => ⟨(s6.bsy a ha).1, by
            by_cases hx : a = D
            · exact ⟨_, by rw [hx]; exact upd_same⟩
            · obtain ⟨u, eq⟩ := (s6.bsy a ha).2
              exact ⟨u, by rw [upd_ne hx]; exact eq⟩⟩⟩
          refine fin _ M6 (acc ++ [z]) (ps ++ [w]) ((ex.trans exT).trans eu) ?_ s7 (exT.trans eu) upd_same ((rps6.append (.cons _ _ _ _ rz .nil)).mv eu) ?_
          · intro a ha
            have hne : a ≠ D := fun e => fr.2 (by rw [← e]; exact ha)
            rw [upd_ne hne]
            have hm := List.mem_cons_of_mem D ha
            exact ((b6 a hm).trans ((b4 a hm).trans ((b3 a hm).trans (bz2 a hm)))).trans (bz a ha)
          · simp only [List.append_assoc]
            exact q5
end
end G

namespace G
open PySem PySem.Spec PyProof.Rows L2
section
variable {X : Cx} {tg : Expr}
/-- a list, a tuple, a text -/
def iAny (K : PySem.W.Frag) (te : TE) : TI := fun σ H Rr => te σ H fun v H1 => (∃ a, v = .ref a ∧ (∃ xs, SqL K H1 a xs) ∧ Rr (Itl K a) H1) ∨ (∃ a, v = .ref a ∧ (∃ xs, SqT K H1 a xs) ∧ Rr (Itt K a) H1) ∨ ∃ x, v = .str x ∧ Rr (L2.Its x) H1
theorem pi_any {e : Expr} {te : TE} (he : PE X e te) : PI X tg e (iAny X.K te) := by
  refine ⟨fun pins s σ H Rr I h => ?_⟩
  refine thn (he.run pins s σ H _ I h) fun v s1 ⟨y, H1, I1, r1, q1⟩ => ?_
  have one : ∀ (b : Addr), b ∈ [s1.heap.objs.size] → FpOk X pins H1 b := fun b hb => by
    have e : b = s1.heap.objs.size := by simpa using hb
    subst e
    exact I1.fpOk (Nat.le_refl _) (I1.hok.fresh (Nat.le_refl _))
  rcases q1 with ⟨a, ex, ⟨xs, hq⟩, q⟩ | ⟨a, ex, ⟨xs, hq⟩, q⟩ | ⟨x, ex, q⟩
  · subst ex
    cases r1
    obtain ⟨its, rv, p, hz⟩ := I1.list hq
    refine wpAny_pyIter_list p.isList ?_
    exact ⟨s1.heap.objs.size, [s1.heap.objs.size], _, _, H1, rfl, I1.kept (t' := s1.toks) fun b o e => Heap.get?_push_of_some _ e, turn_list a _, ⟨_, Heap.get?_push_size _ rfl, rfl, rfl⟩, one, q⟩
  · subst ex
    cases r1
    obtain ⟨its, rv, p, hz⟩ := I1.tuple hq
    refine wpAny_pyIter_tuple (show s1.heap.IsTuple a its.toArray from p) ?_
    exact ⟨s1.heap.objs.size, [s1.heap.objs.size], _, _, H1, rfl, I1.kept (t' := s1.toks) fun b o e => Heap.get?_push_of_some _ e, turn_tuple a _, ⟨_, Heap.get?_push_size _ rfl, rfl, rfl⟩, one, q⟩
  · subst ex
    obtain ⟨t, rfl⟩ := r1
    cases ha : x.cps.all (· < 128)
    · exact wpAny_pyIter_wide ha (pi_one (tk := s1.toks) I1 _ (turn_str _ x t "str_iterator" (.inr rfl)) ⟨_, Heap.get?_push_size _ rfl, rfl, rfl⟩ q)
    · exact wpAny_pyIter_ascii ha (pi_one (tk := s1.toks) I1 _ (turn_str _ x t "str_ascii_iterator" (.inl rfl)) ⟨_, Heap.get?_push_size _ rfl, rfl, rfl⟩ q)
end
section
variable {K : PySem.W.Frag} {G : Nm} {its : Its} {B M : List Addr} {H : Hp} {a : Addr}
theorem same_go {B M : List Addr} {H : Hp} {S : Store} {x : V} {p : PV} (r : RS K G B M H S) (h : RV K B M H x p) : Ext B M H B M H ∧ (∀ b ∈ B, H b = H b) ∧ RS K G B M H S ∧ RV K B M H x p := ⟨.refl, fun _ _ => rfl, r, h⟩
theorem wk_l (h : ∀ B1 M1 H1 S1, Ext B M H B1 M1 H1 → RS K G B1 M1 H1 S1 → its.ok S1 = true → ∃ vs, SqL K H1 a vs ∧ RVs K B1 M1 H1 vs its.xs) : WalkOk K G its (Itl K a) B M H := by
  refine ⟨fun i p B1 M1 H1 S1 hi ex rs hw => ?_, fun B1 M1 H1 S1 ex rs hw => ?_⟩
  · obtain ⟨vs, hs, rv⟩ := h B1 M1 H1 S1 ex rs hw
    obtain ⟨v, ev, r1⟩ := rv.get hi
    refine ⟨⟨vs, v, hs, ev⟩, fun x H2 y => ?_⟩
    obtain ⟨rfl, y⟩ := y
    have e := y vs hs
    rw [ev] at e
    obtain rfl := Option.some.inj e
    exact same_go rs r1
  · obtain ⟨vs, hs, rv⟩ := h B1 M1 H1 S1 ex rs hw
    exact ⟨vs, hs, by rw [rv.length]; exact Nat.le_refl _⟩
theorem wk_t (h : ∀ B1 M1 H1 S1, Ext B M H B1 M1 H1 → RS K G B1 M1 H1 S1 → its.ok S1 = true → ∃ vs, SqT K H1 a vs ∧ RVs K B1 M1 H1 vs its.xs) : WalkOk K G its (Itt K a) B M H := by
  refine ⟨fun i p B1 M1 H1 S1 hi ex rs hw => ?_, fun B1 M1 H1 S1 ex rs hw => ?_⟩
  · obtain ⟨vs, hs, rv⟩ := h B1 M1 H1 S1 ex rs hw
    obtain ⟨v, ev, r1⟩ := rv.get hi
    refine ⟨⟨vs, v, hs, ev⟩, fun x H2 y => ?_⟩
    obtain ⟨rfl, y⟩ := y
    have e := y vs hs
    rw [ev] at e
    obtain rfl := Option.some.inj e
    exact same_go rs r1
  · obtain ⟨vs, hs, rv⟩ := h B1 M1 H1 S1 ex rs hw
    exact ⟨vs, hs, by rw [rv.length]; exact Nat.le_refl _⟩
/-- the list of a value, later too, while the store keeps it -/
theorem seq_later {S : Store} {x : V} {p : PV} {l : List PV} (r : RS K G B M H S) (hx : RV K B M H x p) (h : seqOf S p = some l) :
    ∃ a, x = .ref a ∧ ((∀ B1 M1 H1 S1, Ext B M H B1 M1 H1 → RS K G B1 M1 H1 S1 → (wOf S p).all (fun q => decide (S1[q.1]? = some q.2)) = true → ∃ vs, SqL K H1 a vs ∧ RVs K B1 M1 H1 vs l) ∨
      (∀ B1 M1 H1 S1, Ext B M H B1 M1 H1 → RS K G B1 M1 H1 S1 → (wOf S p).all (fun q => decide (S1[q.1]? = some q.2)) = true → ∃ vs, SqT K H1 a vs ∧ RVs K B1 M1 H1 vs l)) := by
  cases p with
  | tup l' =>
    cases h
    obtain ⟨a, vs, rfl, t, rv, hl⟩ := hx.tup_inv
    exact ⟨a, rfl, .inr fun B1 M1 H1 S1 ex _ _ => ⟨vs, (t.mv ex).sq, rv.mv ex⟩⟩
  | fl l' =>
    cases h
    obtain ⟨a, vs, rfl, t, rv, hl⟩ := hx.fl_inv
    exact ⟨a, rfl, .inl fun B1 M1 H1 S1 ex _ _ => ⟨vs, (t.mv ex).sq, rv.mv ex⟩⟩
  | loc n =>
    simp only [seqOf] at h
    cases hs : S[n]? with
    | none => rw [hs] at h; cases h
    | some c =>
      rw [hs] at h
      cases c with
      | lst l' =>
        cases h
        obtain ⟨a, rfl, hm⟩ := hx.loc_inv
        refine ⟨a, rfl, .inl fun B1 M1 H1 S1 ex rs hw => ?_⟩
        simp only [wOf, hs, List.all_cons, List.all_nil, Bool.and_true, decide_eq_true_eq] at hw
        obtain ⟨N, q⟩ := ex.pre
        have hm1 : M1[n]? = some a := by
          rw [← q, List.getElem?_append_left (List.getElem?_eq_some_iff.mp hm).1]
          exact hm
        obtain ⟨vs, e, rv, _⟩ := rs.cell n _ a hw hm1
        exact ⟨vs, .of e, rv⟩
      | dct l' => cases h
      | ins c l' => cases h
  | _ => cases h
theorem str_get {s : List Nat} {i : Nat} {p : PV} (h : (s.map fun c => PV.str [c])[i]? = some p) : ∃ c, s[i]? = some c ∧ p = .str [c] := by
  rw [List.getElem?_map] at h
  cases e : s[i]? with
  | none => rw [e] at h; cases h
  | some c => rw [e] at h; exact ⟨c, rfl, (Option.some.inj h).symm⟩
theorem one_txt {c : Nat} (h : c < 0x110000) : txtOk ⟨#[c]⟩ := ⟨by show 1 ≤ sizeLine; decide, fun d hd => by
  have : d = c := by simpa using hd
  rw [this]; exact h⟩
end
section
variable {P : Prog} {C : Nat → List PV → Store → R PV} {G : Nm} {X : Cx} {A : Nat → Bool} {W : WX} {p pos pos2 : Pos} {e e1 e2 e3 tg iter elt : Expr} {m m1 m2 m3 : ME} {es : List Expr} {ms : List ME} {k : Nat}
theorem si_any (h : SE P C G X W e m) : SI P C G X W tg e (.ex m) := by
  refine PI.imp (pi_any h) fun σ H Q q => ?_
  obtain ⟨B, M, env, S, st, q⟩ := q
  simp only [evI] at q
  refine tE_thenG st q fun p S1 x M1 H1 e1 b1 st1 r1 q1 => ?_
  have seqs : ∀ l its, seqOf S1 p = some l → itemsOf p S1 = .ok its S1 → its.xs = l → its.w = wOf S1 p → RG X.K G (fun c d => W c d σ) B M1 H1 (itemsOf p S1) (fun its M' H' _ => ∀ J, WalkOk X.K G its J B M' H' → Q J H') →
      (∃ a, x = .ref a ∧ (∃ xs, SqL X.K H1 a xs) ∧ Q (Itl X.K a) H1) ∨ (∃ a, x = .ref a ∧ (∃ xs, SqT X.K H1 a xs) ∧ Q (Itt X.K a) H1) ∨ ∃ y, x = .str y ∧ Q (L2.Its y) H1 := fun l its e ei ex ew q1 => by
    rw [ei] at q1
    have q1 := q1.here st1.s
    have hok0 : (wOf S1 p).all (fun q => decide (S1[q.1]? = some q.2)) = true := by
      cases p <;> try rfl
      rename_i n
      cases hs : S1[n]? with
      | none => simp only [seqOf, hs] at e; cases e
      | some c => simp [wOf, hs]
    obtain ⟨a, rfl, hh | hh⟩ := seq_later st1.s r1 e
    · obtain ⟨vs, h1, _⟩ := hh B M1 H1 S1 .refl st1.s hok0
      refine .inl ⟨a, rfl, ⟨vs, h1⟩, q1 _ (wk_l fun B1 M1 H1 S1 ex' rs hw => ?_)⟩
      rw [ex]
      exact hh B1 M1 H1 S1 ex' rs (by rw [← ew]; exact hw)
    · obtain ⟨vs, h1, _⟩ := hh B M1 H1 S1 .refl st1.s hok0
      refine .inr (.inl ⟨a, rfl, ⟨vs, h1⟩, q1 _ (wk_t fun B1 M1 H1 S1 ex' rs hw => ?_)⟩)
      rw [ex]
      exact hh B1 M1 H1 S1 ex' rs (by rw [← ew]; exact hw)
  cases p with
  | str s =>
    obtain ⟨y, rfl, rfl, hy⟩ := r1.str_inv
    simp only [itemsOf] at q1
    have q1 := q1.here st1.s
    refine .inr (.inr ⟨y, rfl, q1 _ ⟨fun i p B1 M1 H1 S1 hi ex rs hw => ?_, fun B1 M1 H1 S1 ex rs hw => ?_⟩⟩)
    · obtain ⟨c, hc, rfl⟩ := str_get hi
      have hc2 : y.cps[i]? = some c := by rw [← Array.getElem?_toList]; exact hc
      have hlt : i < y.cps.size := by
        by_cases hl : i < y.cps.size
        · exact hl
        · rw [Array.getElem?_eq_none (by omega)] at hc2; cases hc2
      refine ⟨hlt, fun x H2 z => ?_⟩
      obtain ⟨rfl, d, hd, rfl⟩ := z
      rw [hc2] at hd
      obtain rfl := Option.some.inj hd
      exact same_go rs (.str _ (one_txt (hy.2 c (List.mem_of_getElem? hc))))
    · show y.cps.size ≤ (y.cps.toList.map fun c => PV.str [c]).length
      simp
  | tup l => exact seqs l ⟨l, []⟩ rfl rfl rfl rfl q1
  | fl l => exact seqs l ⟨l, []⟩ rfl rfl rfl rfl q1
  | loc n =>
    cases hs : S1[n]? with
    | none => simp only [itemsOf, hs] at q1; exact q1.elim
    | some c =>
      cases c with
      | lst l => exact seqs l ⟨l, [(n, .lst l)]⟩ (by simp only [seqOf, hs]) (by simp only [itemsOf, hs]) rfl (by simp only [wOf, hs]) q1
      | dct l =>
        obtain ⟨a, rfl, hm⟩ := r1.loc_inv
        exact (st1.s.cell n _ a hs hm).elim
      | ins c l => simp only [itemsOf, hs] at q1; exact q1.elim
  | _ => exact q1.elim
/-! ### ranges -/
theorem range_get {lo : Int} {n i : Nat} {p : PV} (h : (rangeL lo n)[i]? = some p) : i < n ∧ p = .int (lo + (i : Int)) := by
  unfold rangeL at h
  rw [List.getElem?_map] at h
  by_cases hi : i < n
  · rw [List.getElem?_range hi] at h
    exact ⟨hi, (Option.some.inj h).symm⟩
  · rw [List.getElem?_eq_none (by simpa using hi)] at h
    cases h
theorem wk_r {K : PySem.W.Frag} {B M : List Addr} {H : Hp} {lo : Int} {n : Nat} : WalkOk K G ⟨rangeL lo n, []⟩ (Itr lo n) B M H := by
  refine ⟨fun i p B1 M1 H1 S1 hi ex rs hw => ?_, fun B1 M1 H1 S1 ex rs hw => ?_⟩
  · obtain ⟨hlt, rfl⟩ := range_get hi
    refine ⟨hlt, fun x H2 z => ?_⟩
    obtain ⟨rfl, rfl⟩ := z
    exact same_go rs (.int _)
  · show n ≤ (rangeL lo n).length
    simp [rangeL]
theorem down_get {lo : Int} {n i : Nat} {p : PV} (h : (rangeDown lo n)[i]? = some p) : i < n ∧ p = .int (lo - (i : Int)) := by
  unfold rangeDown at h
  rw [List.getElem?_map] at h
  by_cases hi : i < n
  · rw [List.getElem?_range hi] at h
    exact ⟨hi, (Option.some.inj h).symm⟩
  · rw [List.getElem?_eq_none (by simpa using hi)] at h
    cases h
theorem wk_d {K : PySem.W.Frag} {B M : List Addr} {H : Hp} {lo : Int} {n : Nat} : WalkOk K G ⟨rangeDown lo n, []⟩ (Itc lo (-1) n) B M H := by
  refine ⟨fun i p B1 M1 H1 S1 hi ex rs hw => ?_, fun B1 M1 H1 S1 ex rs hw => ?_⟩
  · obtain ⟨hlt, rfl⟩ := down_get hi
    refine ⟨hlt, fun x H2 z => ?_⟩
    obtain ⟨rfl, rfl⟩ := z
    have e : lo + (i : Int) * (-1) = lo - (i : Int) := by omega
    rw [e]
    exact same_go rs (.int _)
  · show n ≤ (rangeDown lo n).length
    simp [rangeDown]
theorem bnd_of {i : Int} (h : bnd62 i = true) : -(2 ^ 62) ≤ i ∧ i < 2 ^ 62 := by
  unfold bnd62 at h
  simpa using h
theorem si_rng1 {nm : Expr} (hg : Gl X "range") (hm : X.mg "range" = none) (h : SA P C G X W [e] [m]) (hs : starEach [e] X.env = [(false, eval e X.env)]) : SI P C G X W tg (.Call (.Name "range" p) [e] [] pos) (.rng [m]) := by
  refine PI.imp (pi_range1 hg hm h hs) fun σ H Q q => ?_
  obtain ⟨B, M, env, S, st, q⟩ := q
  simp only [evI] at q
  refine tA_thenL st q fun ps S1 vs M1 H1 l1 e1 b1 st1 r1 q1 => ?_
  rcases ps with _ | ⟨p, _ | ⟨p2, t⟩⟩ <;> try (simp at l1; done)
  obtain ⟨v, rfl, hv⟩ := r1.one
  cases p with
  | int j =>
    rw [hv.int_inv]
    simp only [rangeIts] at q1
    cases hb : bnd62 j with
    | false => rw [hb] at q1; exact q1.elim
    | true =>
      rw [hb, if_pos rfl] at q1
      have bj := bnd_of hb
      exact ⟨j, rfl, bj.1, bj.2, q1.here st1.s _ wk_r⟩
  | _ => exact q1.elim
theorem si_rng2 (hg : Gl X "range") (hm : X.mg "range" = none) (h : SA P C G X W [e1, e2] [m1, m2]) (hs : starEach [e1, e2] X.env = [(false, eval e1 X.env), (false, eval e2 X.env)]) (hs2 : starEach [e2] X.env = [(false, eval e2 X.env)]) :
    SI P C G X W tg (.Call (.Name "range" p) [e1, e2] [] pos) (.rng [m1, m2]) := by
  refine PI.imp (pi_range2 hg hm h hs hs2) fun σ H Q q => ?_
  obtain ⟨B, M, env, S, st, q⟩ := q
  simp only [evI] at q
  refine tA_thenL st q fun ps S1 vs M1 H1 l1 e1 b1 st1 r1 q1 => ?_
  rcases ps with _ | ⟨p, _ | ⟨p2, _ | ⟨p3, t⟩⟩⟩ <;> try (simp at l1; done)
  obtain ⟨v, w, rfl, hv, hw⟩ := r1.two
  cases p with
  | int i =>
    cases p2 with
    | int j =>
      rw [hv.int_inv, hw.int_inv]
      simp only [rangeIts] at q1
      cases hb : (bnd62 i && bnd62 j) with
      | false => rw [hb] at q1; exact q1.elim
      | true =>
        rw [hb, if_pos rfl] at q1
        rw [Bool.and_eq_true] at hb
        have bi := bnd_of hb.1
        have bj := bnd_of hb.2
        exact ⟨i, j, rfl, ⟨bi.1, bi.2, bj.1, bj.2⟩, q1.here st1.s _ wk_r⟩
    | _ => exact q1.elim
  | _ => exact q1.elim
/-! ### enumerate, zip -/
theorem enum_get : ∀ {l : List PV} {k i : Nat} {p : PV}, (enumL k l)[i]? = some p → ∃ x, l[i]? = some x ∧ p = .tup [.int (k + i : Nat), x]
  | [], k, i, p, h => by simp [enumL] at h
  | x :: l, k, 0, p, h => by
    simp only [enumL, List.getElem?_cons_zero] at h
    exact ⟨x, by simp, by rw [← Option.some.inj h]; rfl⟩
  | x :: l, k, i + 1, p, h => by
    simp only [enumL, List.getElem?_cons_succ] at h
    obtain ⟨y, h1, h2⟩ := enum_get h
    refine ⟨y, by simpa using h1, ?_⟩
    have e : k + 1 + i = k + (i + 1) := by omega
    rw [h2, e]
theorem enum_len : ∀ {l : List PV} {k : Nat}, (enumL k l).length = l.length
  | [], _ => rfl
  | _ :: l, k => by simp [enumL, enum_len (l := l)]
theorem zip2_get : ∀ {l r : List PV} {i : Nat} {p : PV}, (zipL2 l r)[i]? = some p → ∃ x y, l[i]? = some x ∧ r[i]? = some y ∧ p = .tup [x, y]
  | [], _, i, p, h => by simp [zipL2] at h
  | _ :: _, [], i, p, h => by simp [zipL2] at h
  | x :: l, y :: r, 0, p, h => by
    simp only [zipL2, List.getElem?_cons_zero] at h
    exact ⟨x, y, by simp, by simp, (Option.some.inj h).symm⟩
  | x :: l, y :: r, i + 1, p, h => by
    simp only [zipL2, List.getElem?_cons_succ] at h
    obtain ⟨a, b, h1, h2, h3⟩ := zip2_get h
    exact ⟨a, b, by simpa using h1, by simpa using h2, h3⟩
theorem zip2_len : ∀ {l r : List PV}, (zipL2 l r).length = min l.length r.length
  | [], _ => by simp [zipL2]
  | _ :: _, [] => by simp [zipL2]
  | _ :: l, _ :: r => by
    simp only [zipL2, List.length_cons, zip2_len (l := l)]
    omega
/-- a new pair is a value -/
theorem pair_new {K : PySem.W.Frag} {B M : List Addr} {H : Hp} {S : Store} {T : Addr} {x y : V} {p q : PV} (r : RS K G B M H S) (hT : H T = none) (hx : RV K B M H x p) (hy : RV K B M H y q) :
    Ext B M H B M (upd H T (.tup [x, y])) ∧ (∀ b ∈ B, upd H T (.tup [x, y]) b = H b) ∧ RS K G B M (upd H T (.tup [x, y])) S ∧ RV K B M (upd H T (.tup [x, y])) (.ref T) (.tup [p, q]) :=
  ⟨ext_new hT, upd_bsy r hT, r.new hT, .tup T _ _ (.inl ⟨.inl upd_same, r.free hT⟩) (.cons _ _ _ _ (hx.mv (ext_new hT)) (.cons _ _ _ _ (hy.mv (ext_new hT)) .nil)) (by show 2 ≤ sizeLine; decide)⟩
theorem wk_e {K : PySem.W.Frag} {B M : List Addr} {H : Hp} {a : Addr} {l : List PV} {w : List (Nat × Cell)} (h : ∀ B1 M1 H1 S1, Ext B M H B1 M1 H1 → RS K G B1 M1 H1 S1 → w.all (fun q => decide (S1[q.1]? = some q.2)) = true → ∃ vs, SqL K H1 a vs ∧ RVs K B1 M1 H1 vs l) : WalkOk K G ⟨enumL 0 l, w⟩ (Ite K a) B M H := by
  refine ⟨fun i p B1 M1 H1 S1 hi ex rs hw => ?_, fun B1 M1 H1 S1 ex rs hw => ?_⟩
  · obtain ⟨vs, hs, rv⟩ := h B1 M1 H1 S1 ex rs hw
    obtain ⟨y, hy, rfl⟩ := enum_get hi
    obtain ⟨v, ev, r1⟩ := rv.get hy
    refine ⟨⟨vs, v, hs, ev⟩, fun x H2 z => ?_⟩
    obtain ⟨T, u, rfl, hT, rfl, z⟩ := z
    have e := z vs hs
    rw [ev] at e
    obtain rfl := Option.some.inj e
    rw [Nat.zero_add]
    exact pair_new rs hT (.int _) r1
  · obtain ⟨vs, hs, rv⟩ := h B1 M1 H1 S1 ex rs hw
    refine ⟨vs, hs, ?_⟩
    show vs.length ≤ (enumL 0 l).length
    rw [enum_len, rv.length]
    exact Nat.le_refl _
theorem wk_z {K : PySem.W.Frag} {B M : List Addr} {H : Hp} {a b : Addr} {l r : List PV} {w w2 : List (Nat × Cell)} (h : ∀ B1 M1 H1 S1, Ext B M H B1 M1 H1 → RS K G B1 M1 H1 S1 → w.all (fun q => decide (S1[q.1]? = some q.2)) = true → ∃ vs, SqL K H1 a vs ∧ RVs K B1 M1 H1 vs l)
    (h2 : ∀ B1 M1 H1 S1, Ext B M H B1 M1 H1 → RS K G B1 M1 H1 S1 → w2.all (fun q => decide (S1[q.1]? = some q.2)) = true → ∃ vs, SqL K H1 b vs ∧ RVs K B1 M1 H1 vs r) : WalkOk K G ⟨zipL2 l r, w ++ w2⟩ (Itz K a b) B M H := by
  refine ⟨fun i p B1 M1 H1 S1 hi ex rs hw => ?_, fun B1 M1 H1 S1 ex rs hw => ?_⟩
  · simp only [Its.ok, List.all_append, Bool.and_eq_true] at hw
    obtain ⟨vs, hs, rv⟩ := h B1 M1 H1 S1 ex rs hw.1
    obtain ⟨ws, hs2, rv2⟩ := h2 B1 M1 H1 S1 ex rs hw.2
    obtain ⟨y, z, hy, hz, rfl⟩ := zip2_get hi
    obtain ⟨v, ev, r1⟩ := rv.get hy
    obtain ⟨u, eu, r2⟩ := rv2.get hz
    refine ⟨⟨vs, ws, v, u, hs, hs2, ev, eu⟩, fun x H2 z => ?_⟩
    obtain ⟨T, v', u', rfl, hT, rfl, z1, z2⟩ := z
    have e := z1 vs hs
    rw [ev] at e
    obtain rfl := Option.some.inj e
    have e := z2 ws hs2
    rw [eu] at e
    obtain rfl := Option.some.inj e
    exact pair_new rs hT r1 r2
  · simp only [Its.ok, List.all_append, Bool.and_eq_true] at hw
    obtain ⟨vs, hs, rv⟩ := h B1 M1 H1 S1 ex rs hw.1
    obtain ⟨ws, hs2, rv2⟩ := h2 B1 M1 H1 S1 ex rs hw.2
    refine ⟨vs, ws, hs, hs2, ?_⟩
    show vs.length ≤ (zipL2 l r).length ∨ ws.length ≤ (zipL2 l r).length
    rw [zip2_len, rv.length, rv2.length]
    omega
theorem wk_zT {K : PySem.W.Frag} {B M : List Addr} {H : Hp} {a b : Addr} {l r : List PV} {w w2 : List (Nat × Cell)} (h : ∀ B1 M1 H1 S1, Ext B M H B1 M1 H1 → RS K G B1 M1 H1 S1 → w.all (fun q => decide (S1[q.1]? = some q.2)) = true → ∃ vs, SqT K H1 a vs ∧ RVs K B1 M1 H1 vs l)
    (h2 : ∀ B1 M1 H1 S1, Ext B M H B1 M1 H1 → RS K G B1 M1 H1 S1 → w2.all (fun q => decide (S1[q.1]? = some q.2)) = true → ∃ vs, SqT K H1 b vs ∧ RVs K B1 M1 H1 vs r) : WalkOk K G ⟨zipL2 l r, w ++ w2⟩ (RZ.ItzT K a b) B M H := by
  refine ⟨fun i p B1 M1 H1 S1 hi ex rs hw => ?_, fun B1 M1 H1 S1 ex rs hw => ?_⟩
  · simp only [Its.ok, List.all_append, Bool.and_eq_true] at hw
    obtain ⟨vs, hs, rv⟩ := h B1 M1 H1 S1 ex rs hw.1
    obtain ⟨ws, hs2, rv2⟩ := h2 B1 M1 H1 S1 ex rs hw.2
    obtain ⟨y, z, hy, hz, rfl⟩ := zip2_get hi
    obtain ⟨v, ev, r1⟩ := rv.get hy
    obtain ⟨u, eu, r2⟩ := rv2.get hz
    refine ⟨⟨vs, ws, v, u, hs, hs2, ev, eu⟩, fun x H2 z => ?_⟩
    obtain ⟨T, v', u', rfl, hT, rfl, z1, z2⟩ := z
    have e := z1 vs hs
    rw [ev] at e
    obtain rfl := Option.some.inj e
    have e := z2 ws hs2
    rw [eu] at e
    obtain rfl := Option.some.inj e
    exact pair_new rs hT r1 r2
  · simp only [Its.ok, List.all_append, Bool.and_eq_true] at hw
    obtain ⟨vs, hs, rv⟩ := h B1 M1 H1 S1 ex rs hw.1
    obtain ⟨ws, hs2, rv2⟩ := h2 B1 M1 H1 S1 ex rs hw.2
    refine ⟨vs, ws, hs, hs2, ?_⟩
    show vs.length ≤ (zipL2 l r).length ∨ ws.length ≤ (zipL2 l r).length
    rw [zip2_len, rv.length, rv2.length]
    omega
/-! ### comprehensions as values -/
theorem se_lc {mi : MI} {t : MT} {ifs : List Expr} {cs : List ME} {scope : Scope} {own : List (Str × Nat)} {us : List Nat} {b : Bool} (hc : X.calm = true) (hN : X.N.Nodup) (hi : SI P C G X W tg iter mi) (ok : BlkOk X.N X.env.scope scope own) (hu : ∀ i ∈ us, i ∈ own.map (·.2))
    (hg : ∀ (s : Shared) (H : Hp) (D : Addr) (cl : List (Str × Addr)) (fp : List Addr), SG P C G (X.blk s H scope (compEnvC scope cl D X.env) fp) (inL us) W0 tg t)
    (ht : ∀ (s : Shared) (H : Hp) (D : Addr) (cl : List (Str × Addr)) (fp : List Addr), STs P C G (X.blk s H scope (compEnvC scope cl D X.env) fp) W0 ifs cs)
    (he : ∀ (s : Shared) (H : Hp) (D : Addr) (cl : List (Str × Addr)) (fp : List Addr), SE P C G (X.blk s H scope (compEnvC scope cl D X.env) fp) W0 elt m) (hs : ∀ x, foldedSetIterable iter X.env x = pure x) :
    SE P C G X W (.ListComp elt [⟨tg, iter, ifs, 0⟩] scope pos) (.lc b (own.map (·.2)) m t mi cs) := PE.imp (pe_lc (g := tG X.K G (inL us) W0 (asgT P C t)) (tt := tT X.K G W0 fun env S => evB (evAnd P C cs env S)) (te := tE X.K G W0 (ev P C m)) hc hN hi ok hg ht he hs) fun σ H Q q => lc_ok hu q
theorem ss_setLc {mi : MI} {t : MT} {ifs : List Expr} {cs : List ME} {scope : Scope} {own : List (Str × Nat)} {us : List Nat} {b : Bool} {i : Nat} {y : Str} {py : Pos} (hc : X.calm = true) (hN : X.N.Nodup) (hy : X.N[i]? = some y) (hyl : X.env.scope.names.lookup y = some .local)
    (hsw : swapsWith (.ListComp elt [⟨tg, iter, ifs, 0⟩] scope pos) (some (.Name y py)) pos2.line X.env = pure true) (hi : SI P C G X W tg iter mi) (ok : BlkOk X.N X.env.scope scope own) (hu : ∀ i ∈ us, i ∈ own.map (·.2)) (ha : A i = true)
    (hg : ∀ (s : Shared) (H : Hp) (D : Addr) (cl : List (Str × Addr)) (fp : List Addr), SG P C G (X.blk s H scope (compEnvC scope cl D X.env) fp) (inL us) W0 tg t)
    (ht : ∀ (s : Shared) (H : Hp) (D : Addr) (cl : List (Str × Addr)) (fp : List Addr), STs P C G (X.blk s H scope (compEnvC scope cl D X.env) fp) W0 ifs cs)
    (he : ∀ (s : Shared) (H : Hp) (D : Addr) (cl : List (Str × Addr)) (fp : List Addr), SE P C G (X.blk s H scope (compEnvC scope cl D X.env) fp) W0 elt m) (hs : ∀ x, foldedSetIterable iter X.env x = pure x) :
    SS P C G X A W (.Assign [.Name y py] (.ListComp elt [⟨tg, iter, ifs, 0⟩] scope pos) pos2) (.asg (.nm i) (.lc b (own.map (·.2)) m t mi cs)) := by
  refine PS.imp (ps_setLc (g := tG X.K G (inL us) W0 (asgT P C t)) (tt := tT X.K G W0 fun env S => evB (evAnd P C cs env S)) (te := tE X.K G W0 (ev P C m)) hc hN hy hyl hsw hi ok hg ht he hs) fun D σ H q => ?_
  obtain ⟨B, M, env, S, st, q⟩ := q
  simp only [exS] at q
  refine lc_ok hu (tE_thenS st q fun p1 S1 x M1 H1 e1 b1 st1 r1 q1 => ?_)
  simp only [asgT] at q1
  exact q1.here st1.s _ (.set ha) ⟨st1.e.set i r1, st1.s⟩
end
end G

set_option maxHeartbeats 1000000
/-! enumerate of tuples, enumerate of zips of tuples -/
namespace GZ
open PySem
open PySem.Sem (wp)
section
variable {prog : Program} {w : World} {A : Around} {E : Value → Shared → Prop} {s : Shared}
/-- a zip object; f0: the pair it gave last, or none -/
def ZF (h : Heap) (z TI TO : Addr) : Prop := ∃ (f0 : Value) (f : Bool), (f0 = .none ∨ ∃ T : Addr, f0 = rawInt T) ∧
  h.get? z = some { cls := .type "zip", dict := none, data := .fields #[f0, .bool f, .bool false, .ref TI, .ref TO], slots := #[] }
theorem alive_any {a : Addr} {Q : Option Obj → Shared → Prop} (h : Q (s.heap.get? a) s) : wpAny (model prog w) A (loadIfAlive a) Q E s := fun _ _ _ => h
theorem free_or {z TI TO : Addr} {f0 : Value} {f : Bool} {Q : Bool → Shared → Prop} (h0 : f0 = .none ∨ ∃ T : Addr, f0 = rawInt T)
    (hz : s.heap.get? z = some { cls := .type "zip", dict := none, data := .fields #[f0, .bool f, .bool false, .ref TI, .ref TO], slots := #[] })
    (h1 : Q true s) (h2 : ∀ h', ZF h' z TI TO → Heap.SameBut z s.heap h' → Q false { s with heap := h' }) : wpAny (model prog w) A (Builtin.SmallTypes.ownedTupleIsFree (.ref z)) Q E s := by
  unfold Builtin.SmallTypes.ownedTupleIsFree
  rcases h0 with rfl | ⟨T, rfl⟩
  · exact wpAny_bind (wpAny_field hz rfl (x := .none) rfl (wpAny_pure h1))
  · refine wpAny_bind (wpAny_field hz rfl (x := rawInt T) rfl ?_)
    show wpAny _ _ (loadIfAlive ((T : Int).toNat) >>= _) _ _ _
    rw [Int.toNat_natCast]
    refine wpAny_bind (alive_any ?_)
    cases hT : s.heap.get? T with
    | none =>
      simp only [Option.isNone_none, if_true]
      exact wpAny_pure h1
    | some oT =>
      simp only [Option.isNone_some, Bool.false_eq_true, if_false]
      refine wpAny_bind (wpAny_field hz rfl (x := .bool f) rfl ?_)
      cases f with
      | true =>
        rw [if_neg (show ¬ ((Value.bool true != Value.bool true) = true) from Bool.false_ne_true)]
        exact wpAny_pure (h2 s.heap ⟨_, _, .inr ⟨T, rfl⟩, hz⟩ (Heap.SameBut.refl _ _))
      | false =>
        rw [if_pos (show (Value.bool false != Value.bool true) = true from rfl)]
        exact wpAny_bind (wpAny_setField_rec hz (by simp) fun h₁ hz₁ hs₁ => wpAny_pure (h2 h₁ ⟨_, _, .inr ⟨T, rfl⟩, hz₁⟩ hs₁))
abbrev ZE (h : Heap) (z TI TO : Addr) (f0 : Value) (f : Bool) : Prop := h.get? z = some { cls := .type "zip", dict := none, data := .fields #[f0, .bool f, .bool false, .ref TI, .ref TO], slots := #[] }
theorem zip_next {z TI TO i1 i2 l1 l2 : Addr} {k1 k2 : Nat} {xs ys : Array Value} {x y a b : Value} {Q : Value → Shared → Prop} (D : ZipApart z TI TO i1 i2 l1 l2)
    (hz : ZF s.heap z TI TO) (hTI : IsPair s.heap TI (.ref i1) (.ref i2)) (hTO : IsPair s.heap TO a b)
    (h1 : s.heap.IsTupleIter i1 l1 k1) (h2 : s.heap.IsTupleIter i2 l2 k2) (hl1 : s.heap.IsTuple l1 xs) (hl2 : s.heap.IsTuple l2 ys) (hx : xs[k1]? = some x) (hy : ys[k2]? = some y)
    (hQ : ∀ h', ZF h' z TI TO → (∃ a b, IsPair h' TO a b) → h'.IsTupleIter i1 l1 (k1 + 1) → h'.IsTupleIter i2 l2 (k2 + 1) → IsPair h' s.heap.objs.size x y → h'.objs.size = s.heap.objs.size + 1 →
      (∀ c o, c ≠ z → c ≠ TO → c ≠ i1 → c ≠ i2 → s.heap.get? c = some o → h'.get? c = some o) → Q (.ref s.heap.objs.size) { s with heap := h' }) :
    wpAny (model prog w) A (Builtin.«zip.__next__» ⟨[.ref z], []⟩) (fun fin s' => ∃ v, fin = .done (.ret v) ∧ Q v s') E s := by
  obtain ⟨f0, f, hf0, hz⟩ := hz
  show wpAny _ _ (field (.ref z) 2 >>= _) _ _ _
  refine wpAny_bind (wpAny_field hz rfl (x := .bool false) rfl ?_)
  show wpAny _ _ (field (.ref z) 3 >>= _) _ _ _
  refine wpAny_bind (wpAny_field hz rfl (x := .ref TI) rfl ?_)
  refine wpAny_bind (wpAny_seqItems hTI rfl ?_)
  show wpAny _ _ (Builtin.SmallTypes.ownedTupleIsFree (.ref z) >>= _) _ _ _
  refine wpAny_bind (free_or hf0 hz ?_ fun h₁ hz₁ hs₁ => ?_)
  · simp only [if_true]
    refine wpAny_bind (wpAny_rule ?_)
    refine wpAny_bind (wpAny_field hz rfl (x := .ref TO) rfl ?_)
    refine wpAny_bind (wpAny_setField_rec hz (by simp) fun h₁ hz₁ hs₁ => ?_)
    replace hz₁ : ZE h₁ z TI TO .ellipsis f := hz₁
    refine wpAny_bind ?_
    simp only [List.zipIdx_cons, List.zipIdx_nil, List.forIn_cons, List.forIn_nil]
    refine wpAny_bind (wpAny_bind (wpAny_onRaise ?_))
    show wpAny _ _ (Builtin.SmallTypes.nextOf (.ref i1) >>= _) _ _ _
    refine wpAny_bind (RZ.nextOf_tuple_item (h1.extBut hs₁.extBut D.i1z) (hl1.extBut hs₁.extBut D.l1z) hx fun h₂ h1₂ hs₂ => wpAny_pure ?_)
    have hTO₂ : IsPair h₂ TO a b := hs₂.extBut _ _ D.TOi1 (hs₁.extBut _ _ D.TOz hTO)
    refine wpAny_bind (wpAny_seqItems hTO₂ rfl ?_)
    refine wpAny_bind (wpAny_updateSeq_pair hTO₂ fun h₃ hTO₃ hs₃ => ?_)
    replace hTO₃ : IsPair h₃ TO x b := hTO₃
    refine wpAny_bind (wpAny_letGo (wpAny_pure ?_))
    refine wpAny_bind (wpAny_bind (wpAny_onRaise ?_))
    show wpAny _ _ (Builtin.SmallTypes.nextOf (.ref i2) >>= _) _ _ _
    refine wpAny_bind (RZ.nextOf_tuple_item (((h2.extBut hs₁.extBut D.i2z).extBut hs₂.extBut D.i12.symm).extBut hs₃.extBut D.TOi2.symm)
      (((hl2.extBut hs₁.extBut D.l2z).extBut hs₂.extBut D.l2i1).extBut hs₃.extBut D.l2TO) hy fun h₄ h2₄ hs₄ => wpAny_pure ?_)
    have hTO₄ : IsPair h₄ TO x b := hs₄.extBut _ _ D.TOi2 hTO₃
    refine wpAny_bind (wpAny_seqItems hTO₄ rfl ?_)
    refine wpAny_bind (wpAny_updateSeq_pair hTO₄ fun h₅ hTO₅ hs₅ => ?_)
    replace hTO₅ : IsPair h₅ TO x y := hTO₅
    refine wpAny_bind (wpAny_letGo (wpAny_pure (wpAny_pure ?_)))
    refine wpAny_bind (wpAny_seqItems hTO₅ rfl ?_)
    refine wpAny_bind (wpAny_newTuple ?_)
    have hsz : h₅.objs.size = s.heap.objs.size := by rw [hs₅.1, hs₄.1, hs₃.1, hs₂.1, hs₁.1]
    have hz₅ : ZE h₅ z TI TO .ellipsis f := hs₅.extBut _ _ D.TOz.symm (hs₄.extBut _ _ D.i2z.symm (hs₃.extBut _ _ D.TOz.symm (hs₂.extBut _ _ D.i1z.symm hz₁)))
    have hk₅ : ∀ c o, c ≠ z → c ≠ TO → c ≠ i1 → c ≠ i2 → s.heap.get? c = some o → h₅.get? c = some o := fun c o c1 c2 c3 c4 e =>
      hs₅.extBut _ _ c2 (hs₄.extBut _ _ c4 (hs₃.extBut _ _ c2 (hs₂.extBut _ _ c3 (hs₁.extBut _ _ c1 e))))
    have h1₅ : h₅.IsTupleIter i1 l1 (k1 + 1) := ((h1₂.extBut hs₃.extBut D.TOi1.symm).extBut hs₄.extBut D.i12).extBut hs₅.extBut D.TOi1.symm
    have h2₅ : h₅.IsTupleIter i2 l2 (k2 + 1) := h2₄.extBut hs₅.extBut D.TOi2.symm
    have hzlt : z < h₅.objs.size := Heap.lt_size hz₅
    show wpAny _ _ (Builtin.SmallTypes.ownedTupleHandOut (.ref z) (.ref h₅.objs.size) >>= _) _ _ _
    refine wpAny_bind ?_
    unfold Builtin.SmallTypes.ownedTupleHandOut
    have hz₆ : ZE (h₅.push { cls := .type "tuple", data := .seq #[x, y] }) z TI TO .ellipsis f := Heap.get?_push_of_some _ hz₅
    refine wpAny_bind (wpAny_setField_rec hz₆ (by simp) fun h₇ hz₇ hs₇ => ?_)
    replace hz₇ : ZE h₇ z TI TO (rawInt h₅.objs.size) f := hz₇
    refine wpAny_setField_rec hz₇ (by simp) fun h₈ hz₈ hs₈ => ?_
    replace hz₈ : ZE h₈ z TI TO (rawInt h₅.objs.size) false := hz₈
    have up : ∀ c o, c ≠ z → h₅.get? c = some o → h₈.get? c = some o := fun c o c1 e => hs₈.extBut _ _ c1 (hs₇.extBut _ _ c1 (Heap.get?_push_of_some _ e))
    have hT₈ : IsPair h₈ h₅.objs.size x y := hs₈.extBut _ _ (Nat.ne_of_gt hzlt) (hs₇.extBut _ _ (Nat.ne_of_gt hzlt) (Heap.get?_push_size _ rfl))
    have hz8 : h₈.objs.size = h₅.objs.size + 1 := by rw [hs₈.1, hs₇.1, Heap.size_push]
    rw [hsz] at hz₈ hT₈ hz8
    refine wpAny_pure ⟨_, rfl, ?_⟩
    show Q (.ref h₅.objs.size) _
    rw [hsz]
    exact hQ h₈ ⟨_, _, .inr ⟨_, rfl⟩, hz₈⟩ ⟨_, _, up _ _ D.TOz hTO₅⟩ (h1₅.at fun o e => up _ o D.i1z e) (h2₅.at fun o e => up _ o D.i2z e) hT₈ hz8 fun c o c1 c2 c3 c4 e => up c o c1 (hk₅ c o c1 c2 c3 c4 e)
  · simp only [Bool.false_eq_true, if_false]
    refine wpAny_bind ?_
    rw [← Array.forIn_toList]
    simp only [List.forIn_cons, List.forIn_nil]
    refine wpAny_bind (wpAny_bind (wpAny_holding ?_))
    show wpAny _ _ (Builtin.SmallTypes.nextOf (.ref i1) >>= _) _ _ _
    refine wpAny_bind (RZ.nextOf_tuple_item (s := { s with heap := h₁ }) (h1.extBut hs₁.extBut D.i1z) (hl1.extBut hs₁.extBut D.l1z) hx fun h₂ h1₂ hs₂ => wpAny_pure ?_)
    refine wpAny_pure ?_
    refine wpAny_bind (wpAny_bind (wpAny_holding ?_))
    show wpAny _ _ (Builtin.SmallTypes.nextOf (.ref i2) >>= _) _ _ _
    refine wpAny_bind (RZ.nextOf_tuple_item (s := { s with heap := h₂ }) ((h2.extBut hs₁.extBut D.i2z).extBut hs₂.extBut D.i12.symm) ((hl2.extBut hs₁.extBut D.l2z).extBut hs₂.extBut D.l2i1) hy fun h₃ h2₃ hs₃ => wpAny_pure ?_)
    refine wpAny_pure (wpAny_pure ?_)
    show wpAny _ _ (newTuple [x, y] >>= _) _ _ _
    refine wpAny_bind (wpAny_newTuple ?_)
    have hsz : h₃.objs.size = s.heap.objs.size := by rw [hs₃.1, hs₂.1, hs₁.1]
    obtain ⟨g0, g, hg0, hz₁⟩ := hz₁
    have hz₃ : ZE h₃ z TI TO g0 g := hs₃.extBut _ _ D.i2z.symm (hs₂.extBut _ _ D.i1z.symm hz₁)
    have hk : ∀ c o, c ≠ z → c ≠ i1 → c ≠ i2 → s.heap.get? c = some o → h₃.get? c = some o := fun c o c1 c2 c3 e => hs₃.extBut _ _ c3 (hs₂.extBut _ _ c2 (hs₁.extBut _ _ c1 e))
    have h1₃ : h₃.IsTupleIter i1 l1 (k1 + 1) := h1₂.extBut hs₃.extBut D.i12
    have hTO₃ : IsPair h₃ TO a b := hk _ _ D.TOz D.TOi1 D.TOi2 hTO
    refine wpAny_pure ⟨_, rfl, ?_⟩
    show Q (.ref h₃.objs.size) _
    have hp : IsPair (h₃.push { cls := .type "tuple", data := .seq #[x, y] }) h₃.objs.size x y := Heap.get?_push_size _ rfl
    have hz4 : (h₃.push { cls := .type "tuple", data := .seq #[x, y] }).objs.size = h₃.objs.size + 1 := Heap.size_push ..
    rw [hsz] at hp hz4 ⊢
    exact hQ _ ⟨_, _, hg0, Heap.get?_push_of_some _ hz₃⟩ ⟨_, _, Heap.get?_push_of_some _ hTO₃⟩ (h1₃.at fun o e => Heap.get?_push_of_some _ e) (h2₃.at fun o e => Heap.get?_push_of_some _ e) hp hz4 fun c o c1 _ c2 c3 e => Heap.get?_push_of_some _ (hk c o c1 c2 c3 e)
theorem zip_end {z TI TO i1 i2 l1 l2 : Addr} {k1 k2 : Nat} {xs ys : Array Value} {a b : Value} {Q : Fin → Shared → Prop} (hh : A.handled = none) (D : ZipApart z TI TO i1 i2 l1 l2)
    (hz : ZF s.heap z TI TO) (hTI : IsPair s.heap TI (.ref i1) (.ref i2)) (hTO : IsPair s.heap TO a b)
    (h1 : s.heap.IsTupleIter i1 l1 k1) (h2 : s.heap.IsTupleIter i2 l2 k2) (hl1 : s.heap.IsTuple l1 xs) (hl2 : s.heap.IsTuple l2 ys) (hend : xs[k1]? = none ∨ ys[k2]? = none)
    (hE : ∀ h' e, (∀ c o, c ≠ z → c ≠ TO → c ≠ i1 → c ≠ i2 → s.heap.get? c = some o → h'.get? c = some o) → (∃ o, h'.get? e = some o ∧ o.cls = .type "StopIteration") → E (.ref e) { s with heap := h' }) :
    wpAny (model prog w) A (Builtin.«zip.__next__» ⟨[.ref z], []⟩) Q E s := by
  obtain ⟨f0, f, hf0, hz⟩ := hz
  show wpAny _ _ (field (.ref z) 2 >>= _) _ _ _
  refine wpAny_bind (wpAny_field hz rfl (x := .bool false) rfl ?_)
  show wpAny _ _ (field (.ref z) 3 >>= _) _ _ _
  refine wpAny_bind (wpAny_field hz rfl (x := .ref TI) rfl ?_)
  refine wpAny_bind (wpAny_seqItems hTI rfl ?_)
  show wpAny _ _ (Builtin.SmallTypes.ownedTupleIsFree (.ref z) >>= _) _ _ _
  refine wpAny_bind (free_or hf0 hz ?_ fun h₁ hz₁ hs₁ => ?_)
  · simp only [if_true]
    refine wpAny_bind (wpAny_rule ?_)
    refine wpAny_bind (wpAny_field hz rfl (x := .ref TO) rfl ?_)
    refine wpAny_bind (wpAny_setField_rec hz (by simp) fun h₁ hz₁ hs₁ => ?_)
    replace hz₁ : ZE h₁ z TI TO .ellipsis f := hz₁
    refine wpAny_bind ?_
    simp only [List.zipIdx_cons, List.zipIdx_nil, List.forIn_cons, List.forIn_nil]
    refine wpAny_bind (wpAny_bind (wpAny_onRaise ?_))
    show wpAny _ _ (Builtin.SmallTypes.nextOf (.ref i1) >>= _) _ _ _
    cases hx : xs[k1]? with
    | none =>
      refine wpAny_bind (RZ.nextOf_tuple_end hh (h1.extBut hs₁.extBut D.i1z) (hl1.extBut hs₁.extBut D.l1z) hx fun h₂ e hs₂ he => ?_)
      obtain ⟨oe, hoe, hce⟩ := he
      have hz₂ : ZE h₂ z TI TO .ellipsis f := hs₂ _ _ D.i1z.symm hz₁
      have hez : e ≠ z := fun x => by subst x; rw [hz₂] at hoe; cases hoe; simp at hce
      refine wpAny_setField_rec hz₂ (by simp) fun h₃ _ hs₃ => hE h₃ e (fun c o c1 _ c3 _ x => hs₃.extBut _ _ c1 (hs₂ _ _ c3 (hs₁.extBut _ _ c1 x))) ⟨oe, hs₃.extBut _ _ hez hoe, hce⟩
    | some x =>
      have hy : ys[k2]? = none := by rcases hend with h | h; rw [hx] at h; cases h; exact h
      refine wpAny_bind (RZ.nextOf_tuple_item (h1.extBut hs₁.extBut D.i1z) (hl1.extBut hs₁.extBut D.l1z) hx fun h₂ h1₂ hs₂ => wpAny_pure ?_)
      have hTO₂ : IsPair h₂ TO a b := hs₂.extBut _ _ D.TOi1 (hs₁.extBut _ _ D.TOz hTO)
      refine wpAny_bind (wpAny_seqItems hTO₂ rfl ?_)
      refine wpAny_bind (wpAny_updateSeq_pair hTO₂ fun h₃ hTO₃ hs₃ => ?_)
      refine wpAny_bind (wpAny_letGo (wpAny_pure ?_))
      refine wpAny_bind (wpAny_bind (wpAny_onRaise ?_))
      show wpAny _ _ (Builtin.SmallTypes.nextOf (.ref i2) >>= _) _ _ _
      refine wpAny_bind (RZ.nextOf_tuple_end hh (((h2.extBut hs₁.extBut D.i2z).extBut hs₂.extBut D.i12.symm).extBut hs₃.extBut D.TOi2.symm)
        (((hl2.extBut hs₁.extBut D.l2z).extBut hs₂.extBut D.l2i1).extBut hs₃.extBut D.l2TO) hy fun h₄ e hs₄ he => ?_)
      obtain ⟨oe, hoe, hce⟩ := he
      have hz₄ : ZE h₄ z TI TO .ellipsis f := hs₄ _ _ D.i2z.symm (hs₃.extBut _ _ D.TOz.symm (hs₂.extBut _ _ D.i1z.symm hz₁))
      have hez : e ≠ z := fun x => by subst x; rw [hz₄] at hoe; cases hoe; simp at hce
      refine wpAny_setField_rec hz₄ (by simp) fun h₅ _ hs₅ => hE h₅ e (fun c o c1 c2 c3 c4 x => hs₅.extBut _ _ c1 (hs₄ _ _ c4 (hs₃.extBut _ _ c2 (hs₂.extBut _ _ c3 (hs₁.extBut _ _ c1 x))))) ⟨oe, hs₅.extBut _ _ hez hoe, hce⟩
  · simp only [Bool.false_eq_true, if_false]
    refine wpAny_bind ?_
    rw [← Array.forIn_toList]
    simp only [List.forIn_cons, List.forIn_nil]
    refine wpAny_bind (wpAny_bind (wpAny_holding ?_))
    show wpAny _ _ (Builtin.SmallTypes.nextOf (.ref i1) >>= _) _ _ _
    cases hx : xs[k1]? with
    | none =>
      refine wpAny_bind (RZ.nextOf_tuple_end (s := { s with heap := h₁ }) hh (h1.extBut hs₁.extBut D.i1z) (hl1.extBut hs₁.extBut D.l1z) hx fun h₂ e hs₂ he => ?_)
      exact hE h₂ e (fun c o c1 _ c2 _ x => hs₂ _ _ c2 (hs₁.extBut _ _ c1 x)) he
    | some x =>
      have hy : ys[k2]? = none := by rcases hend with h | h; rw [hx] at h; cases h; exact h
      refine wpAny_bind (RZ.nextOf_tuple_item (s := { s with heap := h₁ }) (h1.extBut hs₁.extBut D.i1z) (hl1.extBut hs₁.extBut D.l1z) hx fun h₂ h1₂ hs₂ => wpAny_pure ?_)
      refine wpAny_pure ?_
      refine wpAny_bind (wpAny_bind (wpAny_holding ?_))
      show wpAny _ _ (Builtin.SmallTypes.nextOf (.ref i2) >>= _) _ _ _
      refine wpAny_bind (RZ.nextOf_tuple_end (s := { s with heap := h₂ }) hh ((h2.extBut hs₁.extBut D.i2z).extBut hs₂.extBut D.i12.symm) ((hl2.extBut hs₁.extBut D.l2z).extBut hs₂.extBut D.l2i1) hy fun h₃ e hs₃ he => ?_)
      exact hE h₃ e (fun c o c1 _ c2 c3 x => hs₃ _ _ c3 (hs₂.extBut _ _ c2 (hs₁.extBut _ _ c1 x))) he
theorem ZF.ty {z TI TO : Addr} (h : ZF s.heap z TI TO) : s.TypeIs (.ref z) "zip" := let ⟨_, _, _, e⟩ := h; ⟨_, e, rfl⟩
/-- enumerate's next, over whatever nextOf gives -/
theorem enum_next {e it : Addr} {i : Nat} {old : Value} {Pst : Value → Heap → Nat → Prop} {Q : Value → Shared → Prop} (he : IsEnum s.heap e it i old)
    (hn : ∀ Q' : Value → Shared → Prop, (∀ x h₁ tk, Pst x h₁ tk → Q' x { s with heap := h₁, toks := tk }) → wpAny (model prog w) A (Builtin.SmallTypes.nextOf (.ref it)) Q' E s)
    (hk : ∀ x h₁ tk, Pst x h₁ tk → h₁.get? e = s.heap.get? e)
    (hQ : ∀ x h₁ tk h', Pst x h₁ tk → IsEnumOut h' e it ((i : Int) + 1) x h₁.objs.size → h'.get? h₁.objs.size = some { cls := .type "tuple", data := .seq #[.int i tk, x] } → h'.objs.size = h₁.objs.size + 1 →
      (∀ b o, b ≠ e → h₁.get? b = some o → h'.get? b = some o) → Q (.ref h₁.objs.size) { s with heap := h', toks := tk + 1 }) :
    wpAny (model prog w) A (Builtin.«enumerate.__next__» ⟨[.ref e], []⟩) (fun fin s' => ∃ v, fin = .done (.ret v) ∧ Q v s') E s := by
  obtain ⟨hp, g, d, tk₀, os⟩ := s
  show wpAny _ _ (field (.ref e) 2 >>= _) _ _ _
  refine wpAny_bind (wpAny_field he rfl (x := .ref it) rfl ?_)
  refine wpAny_bind (hn _ fun x h₁ tk hPx => ?_)
  have he₁ : IsEnum h₁ e it i old := (hk x h₁ tk hPx).trans he
  show wpAny _ _ (field (.ref e) 3 >>= _) _ _ ⟨h₁, g, d, tk, os⟩
  refine wpAny_bind (wpAny_field he₁ rfl (x := rawInt i) rfl ?_)
  show wpAny _ _ (field (.ref e) 4 >>= _) _ _ ⟨h₁, g, d, tk, os⟩
  refine wpAny_bind (wpAny_field he₁ rfl (x := .none) rfl ?_)
  show wpAny _ _ (mkInt i >>= _) _ _ ⟨h₁, g, d, tk, os⟩
  refine wpAny_bind (wpAny_mkInt ?_)
  show wpAny _ _ (setField (.ref e) 3 (rawInt ((i : Int) + 1)) >>= _) _ _ ⟨h₁, g, d, tk + 1, os⟩
  refine wpAny_bind (wpAny_setField_rec he₁ (by simp) fun h₂ he₂ hs₂ => ?_)
  replace hs₂ : Heap.SameBut e h₁ h₂ := hs₂
  replace he₂ : IsEnum h₂ e it ((i : Int) + 1) old := he₂
  show wpAny _ _ (setField (.ref e) 4 .none >>= _) _ _ ⟨h₂, g, d, tk + 1, os⟩
  refine wpAny_bind (wpAny_setField_rec he₂ (by simp) fun h₃ he₃ hs₃ => ?_)
  replace hs₃ : Heap.SameBut e h₂ h₃ := hs₃
  replace he₃ : IsEnum h₃ e it ((i : Int) + 1) old := he₃
  show wpAny _ _ (newTuple [.int i tk, x] >>= _) _ _ ⟨h₃, g, d, tk + 1, os⟩
  refine wpAny_bind (wpAny_newTuple ?_)
  have he₄ : IsEnum (h₃.push { cls := .type "tuple", data := .seq #[.int i tk, x] }) e it ((i : Int) + 1) old := Heap.get?_push_of_some _ he₃
  generalize hh₄ : h₃.push { cls := .type "tuple", data := .seq #[.int i tk, x] } = h₄ at he₄
  have hsz : h₃.objs.size = h₁.objs.size := by rw [hs₃.1, hs₂.1]
  have hel : e < h₁.objs.size := Heap.lt_size he₁
  have ht₄ : h₄.get? h₁.objs.size = some { cls := .type "tuple", data := .seq #[.int i tk, x] } := by rw [← hh₄, ← hsz]; exact Heap.get?_push_size _ rfl
  have hz₄ : h₄.objs.size = h₁.objs.size + 1 := by rw [← hh₄, Heap.size_push, hsz]
  have hk₄ : ∀ b o, b ≠ e → h₁.get? b = some o → h₄.get? b = some o := fun b o hbe hb => by
    rw [← hh₄]; exact Heap.get?_push_of_some _ (hs₃.extBut b o hbe (hs₂.extBut b o hbe hb))
  show wpAny _ _ (Builtin.SmallTypes.ownedTupleIsFree (.ref e) >>= _) _ _ ⟨h₄, g, d, tk + 1, os⟩
  rw [hsz]
  refine wpAny_bind ?_
  · unfold Builtin.SmallTypes.ownedTupleIsFree
    refine wpAny_bind (wpAny_field he₄ rfl (x := .none) rfl (wpAny_pure ?_))
    simp only [if_true]
    refine wpAny_bind (wpAny_rule ?_)
    refine wpAny_bind (wpAny_field he₄ rfl (x := old) rfl ?_)
    refine wpAny_bind (wpAny_setField_rec he₄ (by simp) fun h₅ he₅ hs₅ => ?_)
    replace hs₅ : Heap.SameBut e h₄ h₅ := hs₅
    replace he₅ : IsEnum h₅ e it ((i : Int) + 1) x := he₅
    show wpAny _ _ (Builtin.SmallTypes.ownedTupleHandOut (.ref e) (.ref h₁.objs.size) >>= _) _ _ ⟨h₅, g, d, tk + 1, os⟩
    refine wpAny_bind ?_
    · unfold Builtin.SmallTypes.ownedTupleHandOut
      refine wpAny_bind (wpAny_setField_rec he₅ (by simp) fun h₆ he₆ hs₆ => ?_)
      replace hs₆ : Heap.SameBut e h₅ h₆ := hs₆
      replace he₆ : IsEnumOut h₆ e it ((i : Int) + 1) x h₁.objs.size := he₆
      refine wpAny_setField_rec he₆ (by simp) fun h₇ he₇ hs₇ => ?_
      replace hs₇ : Heap.SameBut e h₆ h₇ := hs₇
      replace he₇ : IsEnumOut h₇ e it ((i : Int) + 1) x h₁.objs.size := he₇
      refine wpAny_bind (wpAny_letGo (wpAny_pure ⟨_, rfl, hQ x h₁ tk h₇ hPx he₇ ?_ ?_ ?_⟩))
      · exact hs₇.extBut _ _ (Nat.ne_of_gt hel) (hs₆.extBut _ _ (Nat.ne_of_gt hel) (hs₅.extBut _ _ (Nat.ne_of_gt hel) ht₄))
      · rw [hs₇.1, hs₆.1, hs₅.1, hz₄]
      · exact fun b o hbe hb => hs₇.extBut b o hbe (hs₆.extBut b o hbe (hs₅.extBut b o hbe (hk₄ b o hbe hb)))
theorem pyNext_enum {e it : Addr} {i : Nat} {old : Value} {Pst : Value → Heap → Nat → Prop} {Q : Option Value → Shared → Prop} (he : IsEnum s.heap e it i old)
    (hn : ∀ (Q' : Value → Shared → Prop) (E : Value → Shared → Prop), (∀ x h₁ tk, Pst x h₁ tk → Q' x { s with heap := h₁, toks := tk }) → wpAny (model prog w) A.in1 (Builtin.SmallTypes.nextOf (.ref it)) Q' E s)
    (hk : ∀ x h₁ tk, Pst x h₁ tk → h₁.get? e = s.heap.get? e)
    (hQ : ∀ x h₁ tk h', Pst x h₁ tk → IsEnumOut h' e it ((i : Int) + 1) x h₁.objs.size → h'.get? h₁.objs.size = some { cls := .type "tuple", data := .seq #[.int i tk, x] } → h'.objs.size = h₁.objs.size + 1 →
      (∀ b o, b ≠ e → h₁.get? b = some o → h'.get? b = some o) → Q (some (.ref h₁.objs.size)) { s with heap := h', toks := tk + 1 }) :
    wpAny (model prog w) A (pyNext (.ref e)) Q E s := by
  have hT : s.TypeIs (.ref e) "enumerate" := ⟨_, he, rfl⟩
  unfold pyNext
  exact wpAny_bind (wpAny_attempt (wpAny_callSpecial?_slot (name := Str.ofString "__next__") hT F.slot_enumerate_next
    (wpAny_call_entry F.slot_enumerate_next hT F.entry_enumerate_next
      (enum_next he (fun Q' => hn Q' _) hk fun x h₁ tk h' a b c d k => wpAny_pure (hQ x h₁ tk h' a b c d k)) (F.args_enumerate_next_1 _))))
theorem pyNext_enum_end {e it : Addr} {i : Int} {old : Value} {Kp : Heap → Prop} {Q : Option Value → Shared → Prop} (he : IsEnum s.heap e it i old)
    (hd : ∀ (Q' : Value → Shared → Prop) (E : Value → Shared → Prop), (∀ h' x, Kp h' → (∃ o, h'.get? x = some o ∧ o.cls = .type "StopIteration") → E (.ref x) { s with heap := h' }) → wpAny (model prog w) A.in1 (Builtin.SmallTypes.nextOf (.ref it)) Q' E s)
    (hQ : ∀ h', Kp h' → Q none { s with heap := h' }) : wpAny (model prog w) A (pyNext (.ref e)) Q E s := by
  have hT : s.TypeIs (.ref e) "enumerate" := ⟨_, he, rfl⟩
  unfold pyNext
  refine wpAny_bind (wpAny_attempt (wpAny_callSpecial?_slot (name := Str.ofString "__next__") hT F.slot_enumerate_next
    (wpAny_call_entry F.slot_enumerate_next hT F.entry_enumerate_next ?_ (F.args_enumerate_next_1 _))))
  show wpAny _ _ (field (.ref e) 2 >>= _) _ _ _
  refine wpAny_bind (wpAny_field he rfl (x := .ref it) rfl ?_)
  refine wpAny_bind (hd _ _ fun h' x he' hx' => ?_)
  obtain ⟨o, ho, hc⟩ := hx'
  refine wpAny_bind (wpAny_isInstance (T := "StopIteration") (b := true) ⟨o, ho, hc⟩ isSubtype_stop ?_)
  exact wpAny_pure (hQ _ he')
/-- nextOf of a zip -/
theorem nextOf_zip {z TI TO i1 i2 l1 l2 : Addr} {k1 k2 : Nat} {xs ys : Array Value} {x y a b : Value} {Q : Value → Shared → Prop} (D : ZipApart z TI TO i1 i2 l1 l2)
    (hz : ZF s.heap z TI TO) (hTI : IsPair s.heap TI (.ref i1) (.ref i2)) (hTO : IsPair s.heap TO a b)
    (h1 : s.heap.IsTupleIter i1 l1 k1) (h2 : s.heap.IsTupleIter i2 l2 k2) (hl1 : s.heap.IsTuple l1 xs) (hl2 : s.heap.IsTuple l2 ys) (hx : xs[k1]? = some x) (hy : ys[k2]? = some y)
    (hQ : ∀ h', ZF h' z TI TO → (∃ a b, IsPair h' TO a b) → h'.IsTupleIter i1 l1 (k1 + 1) → h'.IsTupleIter i2 l2 (k2 + 1) → IsPair h' s.heap.objs.size x y → h'.objs.size = s.heap.objs.size + 1 →
      (∀ c o, c ≠ z → c ≠ TO → c ≠ i1 → c ≠ i2 → s.heap.get? c = some o → h'.get? c = some o) → Q (.ref s.heap.objs.size) { s with heap := h' }) :
    wpAny (model prog w) A (Builtin.SmallTypes.nextOf (.ref z)) Q E s := by
  unfold Builtin.SmallTypes.nextOf
  exact wpAny_bind (wpAny_callSpecial?_slot (name := Str.ofString "__next__") hz.ty F.slot_zip_next
    (wpAny_call_entry F.slot_zip_next hz.ty F.entry_zip_next (zip_next D hz hTI hTO h1 h2 hl1 hl2 hx hy fun h' a1 a2 a3 a4 a5 a6 a7 => wpAny_pure (hQ h' a1 a2 a3 a4 a5 a6 a7)) (F.args_zip_next_1 _)))
theorem nextOf_zip_end {z TI TO i1 i2 l1 l2 : Addr} {k1 k2 : Nat} {xs ys : Array Value} {a b : Value} {Q : Value → Shared → Prop} (hh : A.handled = none) (D : ZipApart z TI TO i1 i2 l1 l2)
    (hz : ZF s.heap z TI TO) (hTI : IsPair s.heap TI (.ref i1) (.ref i2)) (hTO : IsPair s.heap TO a b)
    (h1 : s.heap.IsTupleIter i1 l1 k1) (h2 : s.heap.IsTupleIter i2 l2 k2) (hl1 : s.heap.IsTuple l1 xs) (hl2 : s.heap.IsTuple l2 ys) (hend : xs[k1]? = none ∨ ys[k2]? = none)
    (hE : ∀ h' e, (∀ c o, c ≠ z → c ≠ TO → c ≠ i1 → c ≠ i2 → s.heap.get? c = some o → h'.get? c = some o) → (∃ o, h'.get? e = some o ∧ o.cls = .type "StopIteration") → E (.ref e) { s with heap := h' }) :
    wpAny (model prog w) A (Builtin.SmallTypes.nextOf (.ref z)) Q E s := by
  unfold Builtin.SmallTypes.nextOf
  exact wpAny_bind (wpAny_callSpecial?_slot (name := Str.ofString "__next__") hz.ty F.slot_zip_next
    (wpAny_call_entry F.slot_zip_next hz.ty F.entry_zip_next (zip_end (Q := fun fin s' => ∃ v, fin = .done (.ret v) ∧ _) hh D hz hTI hTO h1 h2 hl1 hl2 hend hE) (F.args_zip_next_1 _)))
end
end GZ

set_option maxHeartbeats 1000000
namespace GZ
open PySem
open PySem.Sem (wp)
/-- iter(v) is it, the heap then F, where Hc stands -/
structure Iters (v : Value) (it : Heap → Addr) (F : Heap → Heap) (Hc : Heap → Prop) : Prop where
  iter : ∀ (prog : Program) (w : World) (A : Around) (E : Value → Shared → Prop) (s : Shared) (Q : Value → Shared → Prop), Hc s.heap → Q (.ref (it s.heap)) { s with heap := F s.heap } → wpAny (model prog w) A (pyIter v) Q E s
abbrev enumO (it : Addr) : Obj := { cls := .type "enumerate", data := .fields #[.none, .bool false, .ref it, rawInt 0, .none, .none] }
theorem meets_enum1 {v : Value} {it : Heap → Addr} {F : Heap → Heap} {Hc : Heap → Prop} (B : Iters v it F Hc) :
    Meets (Builtin.«enumerate.__new__» ⟨[.type "enumerate", v], []⟩) (fun _ R s => Hc s.heap ∧
      R (.ok (.ret (.ref (F s.heap).objs.size))) { s with heap := (F s.heap).push (enumO (it s.heap)) }) :=
  .of_wp fun prog w A R s h => by
    obtain ⟨hp, g, d, tk, os⟩ := s; obtain ⟨h1, h⟩ := h
    have hsub := sub_enumerate
    have q1 : ∀ {A' : Around} {E : Value → Shared → Prop} {Q : Value → Shared → Prop}, Q (.ref (it hp)) ⟨F hp, g, d, tk, os⟩ → wpAny (model prog w) A' (pyIter v) Q E ⟨hp, g, d, tk, os⟩ :=
      fun q => B.iter prog w _ _ ⟨hp, g, d, tk, os⟩ _ h1 q
    wp_walk using q1
    refine wpAny_stack_any fun st => wpAny_pure ?_
    split
    · rename_i c _ _ _ _ _
      cases (c == Value.type "enumerate")
      · wp_walk using q1
        exact ⟨_, rfl, h⟩
      · wp_walk using q1
        exact ⟨_, rfl, h⟩
    · wp_walk using q1
      exact ⟨_, rfl, h⟩
section
variable {prog : Program} {w : World} {A : Around} {E : Value → Shared → Prop} {s : Shared}
theorem call_enum1 {v : Value} {it : Heap → Addr} {Fh : Heap → Heap} {Hc : Heap → Prop} {Q : Value → Shared → Prop} (B : Iters v it Fh Hc) (h1 : Hc s.heap)
    (h : ∀ h', IsEnum h' (Fh s.heap).objs.size (it s.heap) 0 .none → h'.objs.size = (Fh s.heap).objs.size + 1 → (∀ b o, (Fh s.heap).get? b = some o → h'.get? b = some o) → Q (.ref (Fh s.heap).objs.size) { s with heap := h' }) :
    wpAny (model prog w) A (call (.type "enumerate") [v]) Q E s := by
  refine callType_new F.called_enumerate (by decide) (F.typeCall_enumerate_1 _) (F.newCall_enumerate_1 _) (fun obj => F.args_object_init_2 obj _) F.entry_enumerate_new (meets_enum1 B) ⟨h1, ?_⟩
  have he : IsEnum ((Fh s.heap).push (enumO (it s.heap))) (Fh s.heap).objs.size (it s.heap) 0 .none := Heap.get?_push_size _ rfl
  show _ ∧ _
  exact ⟨⟨_, he, rfl⟩, h _ he (Heap.size_push ..) fun b o x => Heap.get?_push_of_some _ x⟩
end
theorem iters_tuple (t : Addr) (items : Array Value) : Iters (.ref t) (fun h => h.objs.size) (fun h => h.push { cls := .type "tuple_iterator", data := .fields #[.ref t, .int 0 0] }) (fun h => h.IsTuple t items) :=
  ⟨fun prog w A E s Q h q => wpAny_pyIter_tuple h q⟩
theorem iters_list (t : Addr) (items : Array Value) : Iters (.ref t) (fun h => h.objs.size) (fun h => h.push { cls := .type "list_iterator", data := .fields #[.ref t, .int 0 0] }) (fun h => h.IsList t items) :=
  ⟨fun prog w A E s Q h q => wpAny_pyIter_list h q⟩
theorem iters_zip (z TI TO : Addr) : Iters (.ref z) (fun _ => z) (fun h => h) (fun h => IsZip h z TI TO .none) :=
  ⟨fun prog w A E s Q h q => wpAny_pyIter_zip h q⟩
end GZ
namespace G
open PySem PySem.Spec PyProof.Rows L2
/-! ### enumerate of a tuple -/
def IteT (K : PySem.W.Frag) (a : Addr) : It :=
  ⟨fun i H => ∃ (xs : List V) (x : V), SqT K H a xs ∧ xs[i]? = some x, fun i H v H' => ∃ T x, v = .ref T ∧ H T = none ∧ H' = upd H T (.tup [.int (i : Nat), x]) ∧ ∀ xs, SqT K H a xs → xs[i]? = some x, fun i H => ∃ xs : List V, SqT K H a xs ∧ xs.length = i⟩
theorem pair_ok {P : Program} {w : World} {H : Hp} {h : Heap} {T : Addr} {i : Int} {t : Tok} {x : V} {u : Value} (r : RelV x u) (e : h.get? T = some { cls := .type "tuple", data := .seq #[.int i t, u] }) : ObjOk P w (upd H T (.tup [.int i, x])) h T (.tup [.int i, x]) :=
  ⟨by show 2 ≤ sizeLine; decide, [.int i t, u], .cons ⟨_, rfl⟩ (.cons r .nil), ⟨_, e, rfl, _, rfl⟩⟩
theorem turn_enumT {P : Program} {w : World} {K : PySem.W.Frag} {elts : List Expr} {kk : Nat} {tpos : Pos} (a e it : Addr) :
    Turn P w K (.Tuple elts kk tpos) (IteT K a) [e, it] e (fun i h => (∃ old, IsEnum h e it ((i : Nat) : Int) old) ∧ h.IsTupleIter it a i ∧ e ≠ it) where
  mem := by simp
  obj := fun i h st b hb => by
    obtain ⟨⟨old, he⟩, ⟨o, ho, hc, hd⟩, _⟩ := st
    have e' : b = e ∨ b = it := by simpa using hb
    rcases e' with z | z
    · rw [z]; exact ⟨_, he, fun v q => nomatch q⟩
    · rw [z]; exact ⟨o, ho, fun v q => by rw [hd] at q; cases q⟩
  keep := fun i h h' st k => let ⟨⟨old, he⟩, hi, hne⟩ := st; ⟨⟨old, k e (by simp) _ he⟩, hi.at fun o q => k it (by simp) o q, hne⟩
  item := by
    intro X hP hw hK hc i pins s σ H E I hf st hg
    subst hP hw hK
    obtain ⟨⟨old, he⟩, hit, hne⟩ := st
    obtain ⟨xs, x, hq, hx⟩ := hg
    obtain ⟨its, rv, p, hz⟩ := I.tuple hq
    have p : s.heap.IsTuple a its.toArray := p
    obtain ⟨u, hu, ru⟩ := rv.get hx
    have hel : e < s.heap.objs.size := Heap.lt_size he
    have hil : it < s.heap.objs.size := by obtain ⟨_, q, _⟩ := hit; exact Heap.lt_size q
    refine GZ.pyNext_enum (Pst := fun v h1 tk => tk = s.toks ∧ v = u ∧ h1.IsTupleIter it a (i + 1) ∧ Heap.SameBut it s.heap h1) he (fun Q' E' hQ => RZ.nextOf_tuple_item hit p (by simpa using hu) fun h' a1 a2 => hQ u h' s.toks ⟨rfl, rfl, a1, a2⟩)
      (fun v h1 tk hp => hp.2.2.2.2 e hne) fun v h1 tk h' hp ho hT hsz hk => ?_
    obtain ⟨rfl, rfl, hit1, sb1⟩ := hp
    have hs1 : h1.objs.size = s.heap.objs.size := sb1.1
    rw [hs1] at ho hT hsz ⊢
    refine ⟨_, rfl, wpAny_letOwnedTupleGo_enum (s := { s with heap := h', toks := s.toks + 1 }) ho fun h'' he' sb => ?_⟩
    have hT2 : h''.get? s.heap.objs.size = some { cls := .type "tuple", data := .seq #[.int i s.toks, v] } := (sb.2 _ (Nat.ne_of_gt hel)).trans hT
    have I1 : Inv X pins σ (upd H s.heap.objs.size (.tup [.int (i : Nat), x])) { s with heap := h'', toks := s.toks + 1 } :=
      I.turnedNew (ch := [e, it]) (fun b ob hb q => (sb.2 b (fun z => hb (by simp [z]))).trans (hk b ob (fun z => hb (by simp [z])) ((sb1.2 b (fun z => hb (by simp [z]))).trans q))) hf (Nat.le_refl _) (pair_ok ru hT2)
    refine ⟨.ref s.heap.objs.size, _, I1, rfl, ⟨_, x, rfl, I.hok.fresh (Nat.le_refl _), rfl, fun ys hy => by rw [I.tuple_inj hy hq]; exact hx⟩, ⟨⟨v, ?_⟩, ?_, hne⟩, fun b hb => ?_⟩
    · have e1 : ((i + 1 : Nat) : Int) = (i : Int) + 1 := by omega
      rw [e1]; exact he'
    · exact hit1.at fun o q => (sb.2 it (Ne.symm hne)).trans (hk it o (Ne.symm hne) q)
    · have hb' : b < s.heap.objs.size := by
        have e' : b = e ∨ b = it := by simpa using hb
        rcases e' with z | z
        · rw [z]; exact hel
        · rw [z]; exact hil
      rw [upd_ne (Nat.ne_of_lt hb')]
      exact (hf b hb).1
  done := by
    intro X hP hw hK hc i pins s σ H E I hf st hg
    subst hP hw hK
    obtain ⟨⟨old, he⟩, hit, hne⟩ := st
    obtain ⟨xs, hq, hx⟩ := hg
    obtain ⟨its, rv, p, hz⟩ := I.tuple hq
    have p : s.heap.IsTuple a its.toArray := p
    obtain ⟨f0, f1, f2, f3, f4, f5⟩ := hf it (by simp)
    have hl := rv.length
    have hh : X.A.in1.handled = none := I.ok.hd hc
    exact GZ.pyNext_enum_end (Kp := fun h' => Heap.ExtBut it s.heap h') he (fun Q' E' hE => RZ.nextOf_tuple_end hh hit p (by simp; omega) fun h' x a1 a2 => hE h' x a1 a2) fun h' eb => ⟨rfl, I.turned (t' := s.toks) (fun b o hb q => eb b o hb q) f0 f1 f3 f4 f5⟩
  self := fun A i s Q E st h => let ⟨⟨_, he⟩, _⟩ := st; wpAny_pyIter_enum he h
def iEnumA (K : PySem.W.Frag) (ta : TA) : TI := fun σ H Rr => ta σ H fun vs H1 => ∃ a xs, vs = [.ref a] ∧ ((SqL K H1 a xs ∧ Rr (Ite K a) H1) ∨ (SqT K H1 a xs ∧ Rr (IteT K a) H1))
theorem pi_enumA {X : Cx} {e : Expr} {ta : TA} {p pos tpos : Pos} {elts : List Expr} {kk : Nat} (hg : Gl X "enumerate") (hm : X.mg "enumerate" = none) (ha : PA X [e] ta) (hs : starEach [e] X.env = [(false, eval e X.env)]) :
    PI X (.Tuple elts kk tpos) (.Call (.Name "enumerate" p) [e] [] pos) (iEnumA X.K ta) := by
  refine ⟨fun pins s σ H Rr I h => ?_⟩
  refine Call_ (ld_blt I hg hm boot_enumerate (PyProof.Rows.callWith_type1 (thn (ha.run pos pins s σ H _ I h) fun us s1 ⟨vs, H1, I1, r1, q1⟩ => ?_) hs rfl))
  obtain ⟨a, xs, ex, q1⟩ := q1
  subst ex
  cases r1 with
  | cons r rr =>
    cases rr
    cases r
    have two : ∀ b, b ∈ [s1.heap.objs.size + 1, s1.heap.objs.size] → FpOk X pins H1 b := fun b hb => by
      have e' : b = s1.heap.objs.size + 1 ∨ b = s1.heap.objs.size := by simpa using hb
      have hle : s1.heap.objs.size ≤ b := by
        rcases e' with z | z
        · rw [z]; exact Nat.le_add_right _ _
        · rw [z]; exact Nat.le_refl _
      exact I1.fpOk hle (I1.hok.fresh hle)
    rcases q1 with ⟨hq, q⟩ | ⟨hq, q⟩
    · obtain ⟨its, rv, p', hz⟩ := I1.list hq
      refine call_enumerate_list p'.isList fun h' he hit hsz hk => wpAny_pyIter_enum he ?_
      have I2 : Inv X pins σ H1 { s1 with heap := h' } := I1.kept (t' := s1.toks) hk
      exact ⟨s1.heap.objs.size + 1, [s1.heap.objs.size + 1, s1.heap.objs.size], _, _, H1, rfl, I2, turn_enum a (s1.heap.objs.size + 1) s1.heap.objs.size, ⟨⟨.none, he⟩, hit, Nat.succ_ne_self _⟩, two, q⟩
    · obtain ⟨its, rv, p', hz⟩ := I1.tuple hq
      have p' : s1.heap.IsTuple a its.toArray := p'
      refine GZ.call_enum1 (GZ.iters_tuple a its.toArray) p' fun h' he hsz hk => ?_
      have z1 : (s1.heap.push { cls := .type "tuple_iterator", data := .fields #[.ref a, .int 0 0] }).objs.size = s1.heap.objs.size + 1 := Heap.size_push ..
      have hk2 : ∀ b o, s1.heap.get? b = some o → h'.get? b = some o := fun b o q => hk b o (Heap.get?_push_of_some _ q)
      have hit : h'.IsTupleIter s1.heap.objs.size a 0 := ⟨_, hk _ _ (Heap.get?_push_size _ rfl), rfl, rfl⟩
      simp only [z1] at he ⊢
      refine wpAny_pyIter_enum he ?_
      have I2 : Inv X pins σ H1 { s1 with heap := h' } := I1.kept (t' := s1.toks) hk2
      exact ⟨s1.heap.objs.size + 1, [s1.heap.objs.size + 1, s1.heap.objs.size], _, _, H1, rfl, I2, turn_enumT a (s1.heap.objs.size + 1) s1.heap.objs.size, ⟨⟨.none, he⟩, hit, Nat.succ_ne_self _⟩, two, q⟩
/-! ### enumerate of a zip of tuples -/
def IteZ (K : PySem.W.Frag) (a b : Addr) : It :=
  ⟨fun i H => ∃ (xs ys : List V) (x y : V), SqT K H a xs ∧ SqT K H b ys ∧ xs[i]? = some x ∧ ys[i]? = some y,
    fun i H v H' => ∃ T U x y, v = .ref T ∧ T ≠ U ∧ H T = none ∧ H U = none ∧ H' = upd (upd H U (.tup [x, y])) T (.tup [.int (i : Nat), .ref U]) ∧ (∀ xs, SqT K H a xs → xs[i]? = some x) ∧ ∀ ys, SqT K H b ys → ys[i]? = some y,
    fun i H => ∃ xs ys : List V, SqT K H a xs ∧ SqT K H b ys ∧ (xs.length ≤ i ∨ ys.length ≤ i)⟩
theorem turn_enumZ {P : Program} {w : World} {K : PySem.W.Frag} {elts : List Expr} {kk : Nat} {tpos : Pos} {a b e z TI TO i1 i2 : Addr} (D : ZipApart z TI TO i1 i2 a b) (De : e ≠ z ∧ e ≠ TI ∧ e ≠ TO ∧ e ≠ i1 ∧ e ≠ i2) :
    Turn P w K (.Tuple elts kk tpos) (IteZ K a b) [e, z, TI, TO, i1, i2] e (fun i h => (∃ old, IsEnum h e z ((i : Nat) : Int) old) ∧ GZ.ZF h z TI TO ∧ IsPair h TI (.ref i1) (.ref i2) ∧ (∃ x y, IsPair h TO x y) ∧ h.IsTupleIter i1 a i ∧ h.IsTupleIter i2 b i) where
  mem := by simp
  obj := fun i h st c hc => by
    obtain ⟨⟨old, he⟩, ⟨_, _, _, hz⟩, hTI, ⟨x, y, hTO⟩, ⟨o1, e1, _, d1⟩, ⟨o2, e2, _, d2⟩⟩ := st
    have e' : c = e ∨ c = z ∨ c = TI ∨ c = TO ∨ c = i1 ∨ c = i2 := by simpa using hc
    rcases e' with q | q | q | q | q | q
    · rw [q]; exact ⟨_, he, fun v q => nomatch q⟩
    · rw [q]; exact ⟨_, hz, fun v q => nomatch q⟩
    · rw [q]; exact ⟨_, hTI, fun v q => nomatch q⟩
    · rw [q]; exact ⟨_, hTO, fun v q => nomatch q⟩
    · rw [q]; exact ⟨o1, e1, fun v q => by rw [d1] at q; cases q⟩
    · rw [q]; exact ⟨o2, e2, fun v q => by rw [d2] at q; cases q⟩
  keep := fun i h h' st k => by
    obtain ⟨⟨old, he⟩, ⟨f0, f, hf0, hz⟩, hTI, ⟨x, y, hTO⟩, h1, h2⟩ := st
    exact ⟨⟨old, k e (by simp) _ he⟩, ⟨f0, f, hf0, k z (by simp) _ hz⟩, k TI (by simp) _ hTI, ⟨x, y, k TO (by simp) _ hTO⟩, h1.at fun o q => k i1 (by simp) o q, h2.at fun o q => k i2 (by simp) o q⟩
  item := by
    intro X hP hw hK hc i pins s σ H E I hf st hg
    subst hP hw hK
    obtain ⟨⟨old, he⟩, hz, hTI, ⟨x0, y0, hTO⟩, h1, h2⟩ := st
    obtain ⟨ez, eTI, eTO, ei1, ei2⟩ := De
    obtain ⟨xs, ys, x, y, hqx, hqy, hx, hy⟩ := hg
    obtain ⟨its, rv, p, _⟩ := I.tuple hqx
    obtain ⟨its2, rv2, p2, _⟩ := I.tuple hqy
    have p : s.heap.IsTuple a its.toArray := p
    have p2 : s.heap.IsTuple b its2.toArray := p2
    obtain ⟨u, hu, ru⟩ := rv.get hx
    obtain ⟨u2, hu2, ru2⟩ := rv2.get hy
    have hel : e < s.heap.objs.size := Heap.lt_size he
    have hzl : z < s.heap.objs.size := by obtain ⟨_, _, _, q⟩ := hz; exact Heap.lt_size q
    have hTIl : TI < s.heap.objs.size := Heap.lt_size hTI
    have hTOl : TO < s.heap.objs.size := Heap.lt_size hTO
    have hi1l : i1 < s.heap.objs.size := by obtain ⟨_, q, _⟩ := h1; exact Heap.lt_size q
    have hi2l : i2 < s.heap.objs.size := by obtain ⟨_, q, _⟩ := h2; exact Heap.lt_size q
    refine GZ.pyNext_enum (Pst := fun v h' tk => tk = s.toks ∧ v = .ref s.heap.objs.size ∧ GZ.ZF h' z TI TO ∧ (∃ a b, IsPair h' TO a b) ∧ h'.IsTupleIter i1 a (i + 1) ∧ h'.IsTupleIter i2 b (i + 1) ∧ IsPair h' s.heap.objs.size u u2 ∧ h'.objs.size = s.heap.objs.size + 1 ∧
        (∀ c o, c ≠ z → c ≠ TO → c ≠ i1 → c ≠ i2 → s.heap.get? c = some o → h'.get? c = some o)) he
      (fun Q' E' hQ => GZ.nextOf_zip D hz hTI hTO h1 h2 p p2 (x := u) (y := u2) (by simpa using hu) (by simpa using hu2) fun h' a1 a2 a3 a4 a5 a6 a7 => hQ _ h' s.toks ⟨rfl, rfl, a1, a2, a3, a4, a5, a6, a7⟩)
      (fun v h' tk hp => (hp.2.2.2.2.2.2.2.2 e _ ez eTO ei1 ei2 he).trans he.symm) fun v h1' tk h' hp ho hT hsz hk => ?_
    obtain ⟨rfl, rfl, hz1, ⟨x1, y1, hTO1⟩, h11, h21, hU, hs1, hk1⟩ := hp
    rw [hs1] at ho hT hsz ⊢
    refine ⟨_, rfl, wpAny_letOwnedTupleGo_enum (s := { s with heap := h', toks := s.toks + 1 }) ho fun h'' he' sb => ?_⟩
    have nTe : (s.heap.objs.size + 1 : Nat) ≠ e := Nat.ne_of_gt (Nat.lt_succ_of_lt hel)
    have nTU : (s.heap.objs.size + 1 : Nat) ≠ s.heap.objs.size := Nat.succ_ne_self _
    have hT2 : h''.get? (s.heap.objs.size + 1) = some { cls := .type "tuple", data := .seq #[.int i s.toks, .ref s.heap.objs.size] } := (sb.2 _ nTe).trans hT
    have up : ∀ c o, c ≠ e → h1'.get? c = some o → h''.get? c = some o := fun c o ce q => (sb.2 c ce).trans (hk c o ce q)
    have nU : ObjOk X.prog X.w (upd H s.heap.objs.size (.tup [x, y])) h1' s.heap.objs.size (.tup [x, y]) :=
      ⟨by show 2 ≤ sizeLine; decide, [u, u2], .cons ru (.cons ru2 .nil), ⟨_, hU, rfl, _, rfl⟩⟩
    have I1 : Inv X pins σ (upd H s.heap.objs.size (.tup [x, y])) { s with heap := h1' } :=
      I.turnedNew (t' := s.toks) (ch := [e, z, TI, TO, i1, i2]) (fun c o hb q => hk1 c o (fun q' => hb (by simp [q'])) (fun q' => hb (by simp [q'])) (fun q' => hb (by simp [q'])) (fun q' => hb (by simp [q'])) q) hf (Nat.le_refl _) nU
    have I2 : Inv X pins σ (upd (upd H s.heap.objs.size (.tup [x, y])) (s.heap.objs.size + 1) (.tup [.int (i : Nat), .ref s.heap.objs.size])) { s with heap := h'', toks := s.toks + 1 } := by
      refine I1.turnedNew (t' := s.toks + 1) (ch := [e]) (fun c o hb q => up c o (fun q' => hb (by simp [q'])) q) (fun c hc => ?_) (by show h1'.objs.size ≤ _; rw [hs1]; exact Nat.le_refl _)
        ⟨by show 2 ≤ sizeLine; decide, [.int i s.toks, .ref s.heap.objs.size], .cons ⟨_, rfl⟩ (.cons rfl .nil), ⟨_, hT2, rfl, _, rfl⟩⟩
      have ec : c = e := by simpa using hc
      subst ec
      have fe := hf c (by simp)
      exact ⟨by rw [upd_ne (Nat.ne_of_lt hel)]; exact fe.1, fe.2⟩
    refine ⟨.ref (s.heap.objs.size + 1), _, I2, rfl, ⟨_, s.heap.objs.size, x, y, rfl, nTU, I.hok.fresh (Nat.le_succ _), I.hok.fresh (Nat.le_refl _), rfl, fun l hl => by rw [I.tuple_inj hl hqx]; exact hx, fun l hl => by rw [I.tuple_inj hl hqy]; exact hy⟩, ⟨⟨.ref s.heap.objs.size, ?_⟩, ?_, ?_, ⟨x1, y1, ?_⟩, ?_, ?_⟩, fun c hcm => ?_⟩
    · have e1 : ((i + 1 : Nat) : Int) = (i : Int) + 1 := by omega
      rw [e1]; exact he'
    · obtain ⟨f0, f, hf0, q⟩ := hz1
      exact ⟨f0, f, hf0, up _ _ ez.symm q⟩
    · exact up _ _ eTI.symm (hk1 _ _ D.TIz D.TITO D.TIi1 D.TIi2 hTI)
    · exact up _ _ eTO.symm hTO1
    · exact h11.at fun o q => up _ _ ei1.symm q
    · exact h21.at fun o q => up _ _ ei2.symm q
    · have hlt : c < s.heap.objs.size := by
        have e' : c = e ∨ c = z ∨ c = TI ∨ c = TO ∨ c = i1 ∨ c = i2 := by simpa using hcm
        rcases e' with q | q | q | q | q | q <;> rw [q] <;> assumption
      rw [upd_ne (Nat.ne_of_lt (Nat.lt_succ_of_lt hlt)), upd_ne (Nat.ne_of_lt hlt)]
      exact (hf c hcm).1
  done := by
    intro X hP hw hK hc i pins s σ H E I hf st hg
    subst hP hw hK
    obtain ⟨⟨old, he⟩, hz, hTI, ⟨x0, y0, hTO⟩, h1, h2⟩ := st
    obtain ⟨xs, ys, hqx, hqy, hend⟩ := hg
    obtain ⟨its, rv, p, _⟩ := I.tuple hqx
    obtain ⟨its2, rv2, p2, _⟩ := I.tuple hqy
    have p : s.heap.IsTuple a its.toArray := p
    have p2 : s.heap.IsTuple b its2.toArray := p2
    have l1 := rv.length
    have l2 := rv2.length
    have hh : X.A.in1.handled = none := I.ok.hd hc
    have hn : its.toArray[i]? = none ∨ its2.toArray[i]? = none := by
      rcases hend with q | q
      · exact .inl (by simp; omega)
      · exact .inr (by simp; omega)
    exact GZ.pyNext_enum_end (Kp := fun h' => ∀ c o, c ≠ z → c ≠ TO → c ≠ i1 → c ≠ i2 → s.heap.get? c = some o → h'.get? c = some o) he (fun Q' E' hE => GZ.nextOf_zip_end hh D hz hTI hTO h1 h2 p p2 hn fun h' x a1 a2 => hE h' x a1 a2)
      fun h' hk => ⟨rfl, I.turnedL (t' := s.toks) (ch := [e, z, TI, TO, i1, i2]) (fun c o hb q => hk c o (fun q' => hb (by simp [q'])) (fun q' => hb (by simp [q'])) (fun q' => hb (by simp [q'])) (fun q' => hb (by simp [q'])) q) hf⟩
  self := fun A i s Q E st h => let ⟨⟨_, he⟩, _⟩ := st; wpAny_pyIter_enum he h
def iEnumZ (K : PySem.W.Frag) (ta : TA) : TI := fun σ H Rr => ta σ H fun vs H1 => ∃ a b xs ys, vs = [.ref a, .ref b] ∧ SqT K H1 a xs ∧ SqT K H1 b ys ∧ Rr (IteZ K a b) H1
theorem pi_enumZ {X : Cx} {e e2 : Expr} {ta : TA} {p pos pz pos2 tpos : Pos} {elts : List Expr} {kk : Nat} (hg : Gl X "enumerate") (hm : X.mg "enumerate" = none) (hg2 : Gl X "zip") (hm2 : X.mg "zip" = none) (ha : PA X [e, e2] ta)
    (hs : starEach [e, e2] X.env = (false, eval e X.env) :: starEach [e2] X.env) (hpl : (backTo pos2 (starEach [e2] X.env)).any (·.1) = false) :
    PI X (.Tuple elts kk tpos) (.Call (.Name "enumerate" p) [.Call (.Name "zip" pz) [e, e2] [] pos2] [] pos) (iEnumZ X.K ta) := by
  refine ⟨fun pins s σ H Rr I h => ?_⟩
  refine Call_ (ld_blt I hg hm boot_enumerate (PyProof.Rows.callWith_type1 ?_ rfl rfl))
  show wpAny _ _ (spliced ((false, eval (.Call (.Name "zip" pz) [e, e2] [] pos2) X.env) :: backTo pos (starEach [] X.env))) _ _ s
  refine Calls.spliced_cons (Call_ (ld_blt I hg2 hm2 PyProof.Rows.boot_zip (PyProof.Rows.callWith_type1 (thn (ha.run pos2 pins s σ H _ I h) fun us s1 ⟨vs, H1, I1, r1, q1⟩ => ?_) hs hpl)))
  obtain ⟨a, b, xs, ys, ex, hqx, hqy, q⟩ := q1
  subst ex
  cases r1 with
  | cons r rr =>
    cases rr with
    | cons r' rr =>
      cases rr
      cases r
      cases r'
      obtain ⟨its, rv, p1, _⟩ := I1.tuple hqx
      obtain ⟨its2, rv2, p2, _⟩ := I1.tuple hqy
      obtain ⟨o1, ho1, _⟩ := id p1
      obtain ⟨o2, ho2, _⟩ := id p2
      refine RZ.call_zipT (show s1.heap.IsTuple a its.toArray from p1) (show s1.heap.IsTuple b its2.toArray from p2) fun h' hz hTI hTO h1 h2 hsz hk => ?_
      refine Calls.spliced_nil ?_
      show wpAny _ _ (call (.type "enumerate") [.ref (s1.heap.objs.size + 4)]) _ _ _
      refine GZ.call_enum1 (GZ.iters_zip (s1.heap.objs.size + 4) (s1.heap.objs.size + 2) (s1.heap.objs.size + 3)) hz fun h'' he hsz2 hk2 => ?_
      have he : IsEnum h'' h'.objs.size (s1.heap.objs.size + 4) 0 .none := he
      have hk2 : ∀ b o, h'.get? b = some o → h''.get? b = some o := hk2
      refine wpAny_pyIter_enum he ?_
      have I2 : Inv X pins σ H1 { s1 with heap := h'' } := I1.kept (t' := s1.toks) fun c o q => hk2 c o (hk c o q)
      have six : ∀ c, c ∈ [h'.objs.size, s1.heap.objs.size + 4, s1.heap.objs.size + 2, s1.heap.objs.size + 3, s1.heap.objs.size, s1.heap.objs.size + 1] → FpOk X pins H1 c := fun c hcm => by
        have e' : c = h'.objs.size ∨ c = s1.heap.objs.size + 4 ∨ c = s1.heap.objs.size + 2 ∨ c = s1.heap.objs.size + 3 ∨ c = s1.heap.objs.size ∨ c = s1.heap.objs.size + 1 := by simpa using hcm
        have hle : s1.heap.objs.size ≤ c := by
          rcases e' with z | z | z | z | z | z
          · rw [z, hsz]; exact Nat.le_add_right _ _
          · rw [z]; exact Nat.le_add_right _ _
          · rw [z]; exact Nat.le_add_right _ _
          · rw [z]; exact Nat.le_add_right _ _
          · rw [z]; exact Nat.le_refl _
          · rw [z]; exact Nat.le_add_right _ _
        exact I1.fpOk hle (I1.hok.fresh hle)
      have gt : ∀ k : Nat, k < 5 → h'.objs.size ≠ s1.heap.objs.size + k := fun k hk => by rw [hsz]; omega
      exact ⟨h'.objs.size, [h'.objs.size, s1.heap.objs.size + 4, s1.heap.objs.size + 2, s1.heap.objs.size + 3, s1.heap.objs.size, s1.heap.objs.size + 1], _, _, H1, rfl, I2,
        turn_enumZ (PySem.W.ktu_apart s1.heap.objs.size a b (Heap.lt_size ho1) (Heap.lt_size ho2)) ⟨gt 4 (by decide), gt 2 (by decide), gt 3 (by decide), gt 0 (by decide), gt 1 (by decide)⟩,
        ⟨⟨_, he⟩, ⟨_, _, .inl rfl, hk2 _ _ hz⟩, hk2 _ _ hTI, ⟨_, _, hk2 _ _ hTO⟩, h1.at fun o q => hk2 _ o q, h2.at fun o q => hk2 _ o q⟩, six, q⟩
/-! ### in the small syntax -/
theorem wk_eT {K : PySem.W.Frag} {G : Nm} {B M : List Addr} {H : Hp} {a : Addr} {l : List PV} {w : List (Nat × Cell)} (h : ∀ B1 M1 H1 S1, Ext B M H B1 M1 H1 → RS K G B1 M1 H1 S1 → w.all (fun q => decide (S1[q.1]? = some q.2)) = true → ∃ vs, SqT K H1 a vs ∧ RVs K B1 M1 H1 vs l) : WalkOk K G ⟨enumL 0 l, w⟩ (IteT K a) B M H := by
  refine ⟨fun i p B1 M1 H1 S1 hi ex rs hw => ?_, fun B1 M1 H1 S1 ex rs hw => ?_⟩
  · obtain ⟨vs, hs, rv⟩ := h B1 M1 H1 S1 ex rs hw
    obtain ⟨y, hy, rfl⟩ := enum_get hi
    obtain ⟨v, ev, r1⟩ := rv.get hy
    refine ⟨⟨vs, v, hs, ev⟩, fun x H2 z => ?_⟩
    obtain ⟨T, u, rfl, hT, rfl, z⟩ := z
    have e := z vs hs
    rw [ev] at e
    obtain rfl := Option.some.inj e
    rw [Nat.zero_add]
    exact pair_new rs hT (.int _) r1
  · obtain ⟨vs, hs, rv⟩ := h B1 M1 H1 S1 ex rs hw
    refine ⟨vs, hs, ?_⟩
    show vs.length = (enumL 0 l).length
    rw [enum_len, rv.length]
theorem wk_eZ {K : PySem.W.Frag} {G : Nm} {B M : List Addr} {H : Hp} {a b : Addr} {l r : List PV} {w w2 : List (Nat × Cell)} (h : ∀ B1 M1 H1 S1, Ext B M H B1 M1 H1 → RS K G B1 M1 H1 S1 → w.all (fun q => decide (S1[q.1]? = some q.2)) = true → ∃ vs, SqT K H1 a vs ∧ RVs K B1 M1 H1 vs l)
    (h2 : ∀ B1 M1 H1 S1, Ext B M H B1 M1 H1 → RS K G B1 M1 H1 S1 → w2.all (fun q => decide (S1[q.1]? = some q.2)) = true → ∃ vs, SqT K H1 b vs ∧ RVs K B1 M1 H1 vs r) : WalkOk K G ⟨enumL 0 (zipL2 l r), w ++ w2⟩ (IteZ K a b) B M H := by
  refine ⟨fun i p B1 M1 H1 S1 hi ex rs hw => ?_, fun B1 M1 H1 S1 ex rs hw => ?_⟩
  · simp only [Its.ok, List.all_append, Bool.and_eq_true] at hw
    obtain ⟨vs, hs, rv⟩ := h B1 M1 H1 S1 ex rs hw.1
    obtain ⟨ws, hs2, rv2⟩ := h2 B1 M1 H1 S1 ex rs hw.2
    obtain ⟨pp, hpp, rfl⟩ := enum_get hi
    obtain ⟨y, z, hy, hz, rfl⟩ := zip2_get hpp
    obtain ⟨v, ev, r1⟩ := rv.get hy
    obtain ⟨u, eu, r2⟩ := rv2.get hz
    refine ⟨⟨vs, ws, v, u, hs, hs2, ev, eu⟩, fun x H2 z => ?_⟩
    obtain ⟨T, U, v', u', rfl, hTU, hT, hU, rfl, z1, z2⟩ := z
    have e := z1 vs hs
    rw [ev] at e
    obtain rfl := Option.some.inj e
    have e := z2 ws hs2
    rw [eu] at e
    obtain rfl := Option.some.inj e
    obtain ⟨e1, b1, s1, rU⟩ := pair_new rs hU r1 r2
    have hT' : upd H1 U (.tup [v, u]) T = none := by rw [upd_ne hTU]; exact hT
    rw [Nat.zero_add]
    obtain ⟨e2, b2, s2, rT⟩ := pair_new s1 hT' (.int (i : Int)) rU
    exact ⟨e1.trans e2, fun c hc => (b2 c hc).trans (b1 c hc), s2, rT⟩
  · simp only [Its.ok, List.all_append, Bool.and_eq_true] at hw
    obtain ⟨vs, hs, rv⟩ := h B1 M1 H1 S1 ex rs hw.1
    obtain ⟨ws, hs2, rv2⟩ := h2 B1 M1 H1 S1 ex rs hw.2
    refine ⟨vs, ws, hs, hs2, ?_⟩
    show vs.length ≤ (enumL 0 (zipL2 l r)).length ∨ ws.length ≤ (enumL 0 (zipL2 l r)).length
    rw [enum_len, zip2_len, rv.length, rv2.length]
    omega
theorem w_self {S : Store} {p : PV} {l : List PV} (e : seqOf S p = some l) : (wOf S p).all (fun q => decide (S[q.1]? = some q.2)) = true := by
  cases p <;> try rfl
  rename_i n
  cases hs : S[n]? with
  | none => simp only [seqOf, hs] at e; cases e
  | some c => simp [wOf, hs]
section
variable {P : Prog} {C : Nat → List PV → Store → R PV} {G : Nm} {X : Cx} {A : Nat → Bool} {W : WX} {p pos pz pos2 tpos : Pos} {e e1 e2 e3 tg iter elt : Expr} {m m1 m2 m3 : ME} {es elts : List Expr} {ms : List ME} {k kk : Nat}
theorem si_enum (hg : Gl X "enumerate") (hm : X.mg "enumerate" = none) (h : SA P C G X W [e] [m]) (hs : starEach [e] X.env = [(false, eval e X.env)]) : SI P C G X W (.Tuple elts kk tpos) (.Call (.Name "enumerate" p) [e] [] pos) (.enu m) := by
  refine PI.imp (pi_enumA hg hm h hs) fun σ H Q q => ?_
  obtain ⟨B, M, env, S, st, q⟩ := q
  have ee : evI P C (.enu m) env S = (evL P C [m] env S).bind fun xs S => match xs with | [x] => enuV x S | _ => .bad := by
    simp only [evI, evL]
    cases ev P C m env S <;> rfl
  rw [ee] at q
  refine tA_thenL st q fun ps S1 vs M1 H1 l1 e1 b1 st1 r1 q1 => ?_
  rcases ps with _ | ⟨p, _ | ⟨p2, t⟩⟩ <;> try (simp at l1; done)
  obtain ⟨v, rfl, hv⟩ := r1.one
  have q1 : RG X.K G (fun c d => W c d σ) B M1 H1 (enuV p S1) (fun its M' H' _ => ∀ J, WalkOk X.K G its J B M' H' → Q J H') := q1
  unfold enuV at q1
  cases e : seqOf S1 p with
  | none => rw [e] at q1; exact q1.elim
  | some l =>
    rw [e] at q1
    have q1 := q1.here st1.s
    obtain ⟨a, rfl, hh | hh⟩ := seq_later st1.s hv e
    · obtain ⟨vs, h1, _⟩ := hh B M1 H1 S1 .refl st1.s (w_self e)
      exact ⟨a, vs, rfl, .inl ⟨h1, q1 _ (wk_e hh)⟩⟩
    · obtain ⟨vs, h1, _⟩ := hh B M1 H1 S1 .refl st1.s (w_self e)
      exact ⟨a, vs, rfl, .inr ⟨h1, q1 _ (wk_eT hh)⟩⟩
theorem lst_seqOf {S : Store} {p : PV} {l : List PV} (h : lstOf S p = some l) : seqOf S p = some l := by
  cases p <;> first | exact h | cases h
/-- a list, later too -/
theorem lst_later {K : PySem.W.Frag} {G : Nm} {B M : List Addr} {H : Hp} {S : Store} {x : V} {p : PV} {l : List PV} (r : RS K G B M H S) (hx : RV K B M H x p) (h : lstOf S p = some l) :
    ∃ a, x = .ref a ∧ ∀ B1 M1 H1 S1, Ext B M H B1 M1 H1 → RS K G B1 M1 H1 S1 → (wOf S p).all (fun q => decide (S1[q.1]? = some q.2)) = true → ∃ vs, SqL K H1 a vs ∧ RVs K B1 M1 H1 vs l := by
  cases p with
  | fl l' =>
    cases h
    obtain ⟨a, vs, rfl, t, rv, hl⟩ := hx.fl_inv
    exact ⟨a, rfl, fun B1 M1 H1 S1 ex _ _ => ⟨vs, (t.mv ex).sq, rv.mv ex⟩⟩
  | loc n =>
    simp only [lstOf] at h
    cases hs : S[n]? with
    | none => rw [hs] at h; cases h
    | some c =>
      rw [hs] at h
      cases c with
      | lst l' =>
        cases h
        obtain ⟨a, rfl, hm⟩ := hx.loc_inv
        refine ⟨a, rfl, fun B1 M1 H1 S1 ex rs hw => ?_⟩
        simp only [wOf, hs, List.all_cons, List.all_nil, Bool.and_true, decide_eq_true_eq] at hw
        obtain ⟨N, q⟩ := ex.pre
        have hm1 : M1[n]? = some a := by
          rw [← q, List.getElem?_append_left (List.getElem?_eq_some_iff.mp hm).1]
          exact hm
        obtain ⟨vs, e, rv, _⟩ := rs.cell n _ a hw hm1
        exact ⟨vs, .of e, rv⟩
      | dct l' => cases h
      | ins c l' => cases h
  | _ => cases h
theorem tup_later {K : PySem.W.Frag} {G : Nm} {B M : List Addr} {H : Hp} {S : Store} {x : V} {l : List PV} (r : RS K G B M H S) (hx : RV K B M H x (.tup l)) :
    ∃ a, x = .ref a ∧ ∀ B1 M1 H1 S1, Ext B M H B1 M1 H1 → RS K G B1 M1 H1 S1 → (([] : List (Nat × Cell)).all (fun q => decide (S1[q.1]? = some q.2))) = true → ∃ vs, SqT K H1 a vs ∧ RVs K B1 M1 H1 vs l := by
  obtain ⟨a, vs, rfl, t, rv, hl⟩ := hx.tup_inv
  exact ⟨a, rfl, fun B1 M1 H1 S1 ex _ _ => ⟨vs, (t.mv ex).sq, rv.mv ex⟩⟩
theorem evI_zip2 {env : Env} {S : Store} : evI P C (.zip2 m1 m2) env S = (evL P C [m1, m2] env S).bind fun xs S => match xs with | [x, y] => zip2V x y S | _ => .bad := by
  simp only [evI, evL]
  cases ev P C m1 env S with
  | ok a S1 =>
    simp only [R.bind]
    cases ev P C m2 env S1 <;> rfl
  | ex a S1 => rfl
  | bad => rfl
theorem evI_enz {env : Env} {S : Store} : evI P C (.enz m1 m2) env S = (evL P C [m1, m2] env S).bind fun xs S => match xs with | [x, y] => enzV x y S | _ => .bad := by
  simp only [evI, evL]
  cases ev P C m1 env S with
  | ok a S1 =>
    simp only [R.bind]
    cases ev P C m2 env S1 <;> rfl
  | ex a S1 => rfl
  | bad => rfl
theorem si_zip (hg : Gl X "zip") (hm : X.mg "zip" = none) (h : SA P C G X W [e1, e2] [m1, m2]) (hs : starEach [e1, e2] X.env = (false, eval e1 X.env) :: starEach [e2] X.env) (hpl : (backTo pos (starEach [e2] X.env)).any (·.1) = false) :
    SI P C G X W (.Tuple elts kk tpos) (.Call (.Name "zip" p) [e1, e2] [] pos) (.zip2 m1 m2) := by
  refine PI.imp (RZ.pi_zipA hg hm h hs hpl) fun σ H Q q => ?_
  obtain ⟨B, M, env, S, st, q⟩ := q
  rw [evI_zip2] at q
  refine tA_thenL st q fun ps S1 vs M1 H1 l1 e1 b1 st1 r1 q1 => ?_
  rcases ps with _ | ⟨p, _ | ⟨p2, _ | ⟨p3, t⟩⟩⟩ <;> try (simp at l1; done)
  obtain ⟨v, w, rfl, hv, hw⟩ := r1.two
  have q1 : RG X.K G (fun c d => W c d σ) B M1 H1 (zip2V p p2 S1) (fun its M' H' _ => ∀ J, WalkOk X.K G its J B M' H' → Q J H') := q1
  have lists : RG X.K G (fun c d => W c d σ) B M1 H1 (match lstOf S1 p, lstOf S1 p2 with | some a, some b => R.ok ⟨zipL2 a b, wOf S1 p ++ wOf S1 p2⟩ S1 | _, _ => R.bad) (fun its M' H' _ => ∀ J, WalkOk X.K G its J B M' H' → Q J H') →
      ∃ a b xs ys, [v, w] = [V.ref a, V.ref b] ∧ ((SqL X.K H1 a xs ∧ SqL X.K H1 b ys ∧ Q (Itz X.K a b) H1) ∨ (SqT X.K H1 a xs ∧ SqT X.K H1 b ys ∧ Q (RZ.ItzT X.K a b) H1)) := fun q1 => by
    cases e : lstOf S1 p with
    | none => rw [e] at q1; exact q1.elim
    | some l =>
      cases e2 : lstOf S1 p2 with
      | none => rw [e, e2] at q1; exact q1.elim
      | some r =>
        rw [e, e2] at q1
        have q1 := q1.here st1.s
        obtain ⟨a, rfl, hh⟩ := lst_later st1.s hv e
        obtain ⟨b, rfl, hh2⟩ := lst_later st1.s hw e2
        obtain ⟨vs, h1, _⟩ := hh B M1 H1 S1 .refl st1.s (w_self (lst_seqOf e))
        obtain ⟨ws, h2, _⟩ := hh2 B M1 H1 S1 .refl st1.s (w_self (lst_seqOf e2))
        exact ⟨a, b, vs, ws, rfl, .inl ⟨h1, h2, q1 _ (wk_z hh hh2)⟩⟩
  cases p with
  | tup l =>
    cases p2 with
    | tup r =>
      have q1 := RG.here (a := (⟨zipL2 l r, []⟩ : _root_.G.Its)) q1 st1.s
      obtain ⟨a, rfl, hh⟩ := tup_later st1.s hv
      obtain ⟨b, rfl, hh2⟩ := tup_later st1.s hw
      obtain ⟨vs, h1, _⟩ := hh B M1 H1 S1 .refl st1.s rfl
      obtain ⟨ws, h2, _⟩ := hh2 B M1 H1 S1 .refl st1.s rfl
      exact ⟨a, b, vs, ws, rfl, .inr ⟨h1, h2, q1 _ (wk_zT hh hh2)⟩⟩
    | _ => exact lists q1
  | _ => exact lists q1
theorem si_enz (hg : Gl X "enumerate") (hm : X.mg "enumerate" = none) (hg2 : Gl X "zip") (hm2 : X.mg "zip" = none) (h : SA P C G X W [e1, e2] [m1, m2]) (hs : starEach [e1, e2] X.env = (false, eval e1 X.env) :: starEach [e2] X.env) (hpl : (backTo pos2 (starEach [e2] X.env)).any (·.1) = false) :
    SI P C G X W (.Tuple elts kk tpos) (.Call (.Name "enumerate" p) [.Call (.Name "zip" pz) [e1, e2] [] pos2] [] pos) (.enz m1 m2) := by
  refine PI.imp (pi_enumZ hg hm hg2 hm2 h hs hpl) fun σ H Q q => ?_
  obtain ⟨B, M, env, S, st, q⟩ := q
  rw [evI_enz] at q
  refine tA_thenL st q fun ps S1 vs M1 H1 l1 e1 b1 st1 r1 q1 => ?_
  rcases ps with _ | ⟨p, _ | ⟨p2, _ | ⟨p3, t⟩⟩⟩ <;> try (simp at l1; done)
  obtain ⟨v, w, rfl, hv, hw⟩ := r1.two
  have q1 : RG X.K G (fun c d => W c d σ) B M1 H1 (enzV p p2 S1) (fun its M' H' _ => ∀ J, WalkOk X.K G its J B M' H' → Q J H') := q1
  cases p with
  | tup l =>
    cases p2 with
    | tup r =>
      have q1 := RG.here (a := (⟨enumL 0 (zipL2 l r), []⟩ : _root_.G.Its)) q1 st1.s
      obtain ⟨a, rfl, hh⟩ := tup_later st1.s hv
      obtain ⟨b, rfl, hh2⟩ := tup_later st1.s hw
      obtain ⟨vs, h1, _⟩ := hh B M1 H1 S1 .refl st1.s rfl
      obtain ⟨ws, h2, _⟩ := hh2 B M1 H1 S1 .refl st1.s rfl
      exact ⟨a, b, vs, ws, rfl, h1, h2, q1 _ (wk_eZ hh hh2)⟩
    | _ => exact q1.elim
  | _ => exact q1.elim
end
end G

namespace G
open PySem PySem.Spec PyProof.Rows L2
section
variable {P : Prog} {C : Nat → List PV → Store → R PV} {G : Nm} {X : Cx} {A : Nat → Bool} {W : WX} {p pos pos2 : Pos} {e e1 e2 e3 tg iter tg1 iter1 elt : Expr} {m m1 m2 m3 : ME} {es : List Expr} {ms : List ME} {k : Nat}
/-- a list under way is begun -/
theorem ext_begin {B M : List Addr} {H : Hp} {D : Addr} {o : HO} (hD : H D = none) : Ext B M H (D :: B) M (upd H D o) := by
  refine ⟨List.prefix_refl _, fun x z => ?_, fun x o z _ _ => ?_⟩
  · rcases z with z | z
    · exact .inl z
    · rcases List.mem_cons.mp z with z | z
      · rw [z]; exact .inr (.inr hD)
      · exact .inr (.inl z)
  · rw [upd_ne (ne_of_none z hD)]; exact z
theorem RS.begin {K : PySem.W.Frag} {G : Nm} {B M : List Addr} {H : Hp} {S : Store} {D : Addr} {o : HO} (r : RS K G B M H S) (hD : H D = none) : RS K G (D :: B) M (upd H D o) S := by
  have fr := r.free hD
  refine ⟨r.len, r.nd, fun n c a hs hm => ?_, fun x hx => ?_⟩
  · have z := r.cell n c a hs hm
    obtain ⟨u, ez⟩ := z.there
    exact z.mv (ext_begin hD) (upd_ne (ne_of_none ez hD))
  · rcases List.mem_cons.mp hx with z | z
    · rw [z]; exact ⟨fr.1, _, upd_same⟩
    · obtain ⟨u, ez⟩ := (r.bsy x z).2
      exact ⟨(r.bsy x z).1, u, by rw [upd_ne (ne_of_none ez hD)]; exact ez⟩
/-- the list under way grows -/
theorem ext_grow {B M : List Addr} {H : Hp} {D : Addr} {o : HO} : Ext (D :: B) M H (D :: B) M (upd H D o) := ⟨List.prefix_refl _, fun a h => by rcases h with h | h; exact .inl h; exact .inr (.inl h), fun a o h _ hb => by rw [upd_ne (fun e => hb (by rw [e]; exact List.mem_cons_self ..))]; exact h⟩
theorem RS.grow {K : PySem.W.Frag} {G : Nm} {B M : List Addr} {H : Hp} {S : Store} {D : Addr} {o : HO} (r : RS K G (D :: B) M H S) : RS K G (D :: B) M (upd H D o) S := by
  have hDM := (r.bsy D (List.mem_cons_self ..)).1
  refine ⟨r.len, r.nd, fun n c a hs hm => (r.cell n c a hs hm).mv ext_grow (upd_ne fun e => hDM (by rw [← e]; exact List.mem_of_getElem? hm)), fun a ha => ⟨(r.bsy a ha).1, ?_⟩⟩
  by_cases hx : a = D
  · exact ⟨_, by rw [hx]; exact upd_same⟩
  · obtain ⟨u, eq⟩ := (r.bsy a ha).2
    exact ⟨u, by rw [upd_ne hx]; exact eq⟩
def lc2Body (P : Prog) (C : Nat → List PV → Store → R PV) (t : MT) (cs : List ME) (own2 : List Nat) (t2 : MT) (i2 : MI) (cs2 : List ME) (m : ME) (env0 : Env) : PV → Store → R (List PV) := fun x S => noEx <| (asgT P C t x env0 S).bind fun env S => (evB (evAnd P C cs env S)).bind fun k S =>
  if k then (evI P C i2 env S).bind fun its2 S => compL its2.ok (lcBody P C t2 cs2 m (wipeE env own2)) its2.xs S else .ok [] S
theorem len_of_done {b : Bool} {w : Store → Bool} {body : PV → Store → R (List PV)} {xs a : List PV} {S : Store} {l : List PV} {K : PySem.W.Frag} {W : Value → Option Addr → Hp → Prop} {B M : List Addr} {H : Hp} {Q : VK}
    (q : RP K G W B M H ((compL w (fun x S => noEx (body x S)) xs S).bind fun r S => newList b (l ++ (a ++ r)) S) Q) : (l ++ a).length ≤ sizeLine := by
  cases ec : compL w (fun x S => noEx (body x S)) xs S with
  | ok r S8 =>
    rw [ec] at q
    have hh := newList_len (show RP K G W B M H (newList b (l ++ (a ++ r)) S8) Q from q)
    simp at hh ⊢
    omega
  | ex x8 S8 => exact absurd ec compL_noex
  | bad => rw [ec] at q; exact q.elim
theorem lc2_ok {mi mi2 : MI} {t t2 : MT} {cs cs2 : List ME} {own us own2 us2 : List Nat} {b : Bool} (hu : ∀ i ∈ us, i ∈ own) (hu2 : ∀ i ∈ us2, i ∈ own2) {σ : St} {H : Hp} {Q : VK} (q : tE X.K G W (ev P C (.lc2 b own m t mi cs own2 t2 mi2 cs2)) σ H Q) :
    tLc2 (tI X.K G W (evI P C mi)) (tG X.K G (inL us) W0 (asgT P C t)) (tT X.K G W0 fun env S => evB (evAnd P C cs env S))
      (tI X.K G W0 (evI P C mi2)) (tG X.K G (inL us2) W0 (asgT P C t2)) (tT X.K G W0 fun env S => evB (evAnd P C cs2 env S)) (tE X.K G W0 (ev P C m)) own own2 σ H Q := by
  obtain ⟨B, M, env, S, st, q⟩ := q
  simp only [ev] at q
  refine tI_thenG st q.rg fun its S1 J M1 H1 e1 b1 st1 wk q1 => ?_
  have q1 : RP X.K G (fun c d => W c d σ) B M1 H1 ((compL its.ok (lc2Body P C t cs own2 t2 mi2 cs2 m (wipeE env own)) its.xs S1).bind fun r S => newList b r S) Q := RG.rp q1
  intro D hD
  have fr := st1.s.free hD
  have Dmem : D ∈ D :: B := List.mem_cons_self ..
  refine ⟨fun i n H' => n = its.xs.length - i ∧ i ≤ its.xs.length ∧ ∃ M' S' acc ps, Ext B M1 H1 (D :: B) M' H' ∧ (∀ b ∈ B, H' b = H1 b) ∧ At X.K G (D :: B) M' H' (wipe σ own) (wipeE env own) S' ∧ H' D = some (.lst acc) ∧ RVs X.K (D :: B) M' H' acc ps ∧
    RP X.K G (fun c d => W c d σ) B M1 H1 ((compL its.ok (lc2Body P C t cs own2 t2 mi2 cs2 m (wipeE env own)) (its.xs.drop i) S').bind fun r S => newList b (ps ++ r) S) Q, ⟨_, rfl, Nat.zero_le _, M1, S1, [], [], ext_begin hD, fun x hx => upd_ne (fun e => fr.2 (by rw [← e]; exact hx)), ⟨(st1.e.wipe own).mv (ext_begin hD), st1.s.begin hD⟩, upd_same, .nil, q1⟩, ?_⟩
  rintro i n H' ⟨rfl, hi, M', S', acc, ps, ex, bz, at', hacc, rps, q⟩
  cases hx : its.xs[i]? with
  | none =>
    have hl : its.xs.length ≤ i := List.getElem?_eq_none_iff.mp hx
    have hd : its.xs.drop i = [] := List.drop_eq_nil_of_le hl
    obtain rfl : i = its.xs.length := by omega
    rw [hd] at q
    simp only [compL] at q
    cases hw : its.ok S' with
    | false => rw [hw] at q; exact q.elim
    | true =>
      rw [hw, if_pos rfl] at q
      have q : RP X.K G (fun c d => W c d σ) B M1 H1 (newList b (ps ++ []) S') Q := q
      rw [List.append_nil] at q
      exact .inl ⟨wk.stop _ M' H' S' ex at'.s hw, lst_done at'.s fr.2 hacc rps ex bz q⟩
  | some x =>
    have hlt : i < its.xs.length := (List.getElem?_eq_some_iff.mp hx).1
    have hd : its.xs.drop i = x :: its.xs.drop (i + 1) := by
      rw [List.drop_eq_getElem_cons hlt, (List.getElem?_eq_some_iff.mp hx).2]
    rw [hd] at q
    simp only [compL] at q
    cases hw : its.ok S' with
    | false => rw [hw] at q; exact q.elim
    | true =>
      rw [hw, if_pos rfl, R.bind_assoc] at q
      obtain ⟨go, yl⟩ := wk.go i x _ M' H' S' hx ex at'.s hw
      refine .inr ⟨go, _, fun H'' h => h, fun v H2 y => ?_⟩
      obtain ⟨ex2, bz2, s2, rv⟩ := yl v H2 y
      obtain ⟨a, S5, ea, q5⟩ := noEx_bind q.rg
      have q5 : RP X.K G (fun c d => W c d σ) B M1 H1 (((compL its.ok (lc2Body P C t cs own2 t2 mi2 cs2 m (wipeE env own)) (its.xs.drop (i + 1)) S5).bind fun r S => .ok (a ++ r) S).bind fun r S => newList b (ps ++ r) S) Q := RG.rp q5
      rw [R.bind_assoc] at q5
      have q5 : RP X.K G (fun c d => W c d σ) B M1 H1 ((compL its.ok (lc2Body P C t cs own2 t2 mi2 cs2 m (wipeE env own)) (its.xs.drop (i + 1)) S5).bind fun r S => newList b (ps ++ (a ++ r)) S) Q := q5
      have hlen : (ps ++ a).length ≤ sizeLine := len_of_done q5
      obtain ⟨env2, S2, ea1, ea⟩ := bind_ok ea
      obtain ⟨kk, S3, ea2, ea⟩ := bind_ok ea
      have at2 : At X.K G (D :: B) M' H2 (wipe σ own) (wipeE env own) S' := at'.mv ex2 s2
      refine ⟨_, M', _, S', x, at2, rv, ?_⟩
      rw [ea1]
      intro M3 H3 ex3 b3 s3 σ3 ag3 at3
      refine ⟨wipe_ag ag3 hu, _, M3, env2, S2, at3, RG.of_ok ea2 fun M4 H4 ex4 b4 s4 => ?_⟩
      have exA : Ext (D :: B) M' H' (D :: B) M4 H4 := (ex2.trans ex3).trans ex4
      have bzA : ∀ z ∈ D :: B, H4 z = H' z := fun z hz => (b4 z hz).trans ((b3 z hz).trans (bz2 z hz))
      -- behind a turn
      have fin : ∀ (H6 : Hp) (M6 : List Addr) (acc' : List V), Ext (D :: B) M' H' (D :: B) M6 H6 → (∀ z ∈ B, H6 z = H' z) → RS X.K G (D :: B) M6 H6 S5 → H6 D = some (.lst acc') → RVs X.K (D :: B) M6 H6 acc' (ps ++ a) →
          ∃ m', m' < its.xs.length - i ∧ m' = its.xs.length - (i + 1) ∧ i + 1 ≤ its.xs.length ∧ ∃ M' S' acc ps, Ext B M1 H1 (D :: B) M' H6 ∧ (∀ b ∈ B, H6 b = H1 b) ∧ At X.K G (D :: B) M' H6 (wipe σ own) (wipeE env own) S' ∧ H6 D = some (.lst acc) ∧ RVs X.K (D :: B) M' H6 acc ps ∧
            RP X.K G (fun c d => W c d σ) B M1 H1 ((compL its.ok (lc2Body P C t cs own2 t2 mi2 cs2 m (wipeE env own)) (its.xs.drop (i + 1)) S').bind fun r S => newList b (ps ++ r) S) Q :=
        fun H6 M6 acc' x1 x2 x3 x4 x5 => ⟨_, by omega, rfl, hlt, M6, S5, acc', ps ++ a, ex.trans x1, fun z hz => (x2 z hz).trans (bz z hz), at'.mv x1 x3, x4, x5, by simp only [List.append_assoc]; exact q5⟩
      cases kk with
      | false =>
        rw [if_neg Bool.false_ne_true] at ea
        cases ea
        refine iteF (fin H4 M4 acc exA (fun z hz => bzA z (List.mem_cons_of_mem _ hz)) s4 ((bzA D Dmem).trans hacc) ?_)
        rw [List.append_nil]
        exact rps.mv exA
      | true =>
        rw [if_pos rfl] at ea
        obtain ⟨its2, S6, ea3, ea⟩ := bind_ok ea
        have at4 := at3.mv ex4 s4
        refine iteT ⟨_, M4, env2, S3, at4, RG.of_ok ea3 fun M5 H5 ex5 b5 s5 J2 wk2 => ?_⟩
        refine ⟨fun j n H6 => n = its2.xs.length - j ∧ j ≤ its2.xs.length ∧ ∃ M6 S' acc' ps' r, Ext (D :: B) M5 H5 (D :: B) M6 H6 ∧ (∀ z ∈ B, H6 z = H5 z) ∧ RS X.K G (D :: B) M6 H6 S' ∧ H6 D = some (.lst acc') ∧ RVs X.K (D :: B) M6 H6 acc' ps' ∧
          compL its2.ok (lcBody P C t2 cs2 m (wipeE env2 own2)) (its2.xs.drop j) S' = .ok r S5 ∧ ps' ++ r = ps ++ a, ⟨_, rfl, Nat.zero_le _, M5, S6, acc, ps, a, .refl, fun _ _ => rfl, s5, ?_, (rps.mv exA).mv ex5, ea, rfl⟩, ?_⟩
        · rw [b5 D Dmem, bzA D Dmem]; exact hacc
        · rintro j n H6 ⟨rfl, hj, M6, S7, acc', ps', r, ex6, bz6, s6, hacc', rps', er, hpr⟩
          have exB : Ext (D :: B) M' H' (D :: B) M6 H6 := (exA.trans ex5).trans ex6
          cases hx2 : its2.xs[j]? with
          | none =>
            have hl : its2.xs.length ≤ j := List.getElem?_eq_none_iff.mp hx2
            have hd2 : its2.xs.drop j = [] := List.drop_eq_nil_of_le hl
            obtain rfl : j = its2.xs.length := by omega
            rw [hd2] at er
            simp only [compL] at er
            cases hw2 : its2.ok S7 with
            | false => rw [hw2] at er; cases er
            | true =>
              rw [hw2, if_pos rfl] at er
              cases er
              refine .inl ⟨wk2.stop _ M6 H6 _ ex6 s6 hw2, fin H6 M6 acc' exB ?_ s6 hacc' ?_⟩
              · exact fun z hz => (bz6 z hz).trans ((b5 z (List.mem_cons_of_mem _ hz)).trans (bzA z (List.mem_cons_of_mem _ hz)))
              · rw [← hpr, List.append_nil]; exact rps'
          | some x2 =>
            have hlt2 : j < its2.xs.length := (List.getElem?_eq_some_iff.mp hx2).1
            have hd2 : its2.xs.drop j = x2 :: its2.xs.drop (j + 1) := by
              rw [List.drop_eq_getElem_cons hlt2, (List.getElem?_eq_some_iff.mp hx2).2]
            rw [hd2] at er
            simp only [compL] at er
            cases hw2 : its2.ok S7 with
            | false => rw [hw2] at er; cases er
            | true =>
              rw [hw2, if_pos rfl] at er
              obtain ⟨a2, S8, ea4, er⟩ := bind_ok er
              obtain ⟨r2, S9, er2, er⟩ := bind_ok er
              cases er
              have ea4 : (asgT P C t2 x2 (wipeE env2 own2) S7).bind (fun env S => (evB (evAnd P C cs2 env S)).bind fun k S => if k then (ev P C m env S).bind fun v S => .ok [v] S else .ok [] S) = .ok a2 S8 := by
                have ea4 : noEx ((asgT P C t2 x2 (wipeE env2 own2) S7).bind (fun env S => (evB (evAnd P C cs2 env S)).bind fun k S => if k then (ev P C m env S).bind fun v S => .ok [v] S else .ok [] S)) = .ok a2 S8 := ea4
                revert ea4
                cases (asgT P C t2 x2 (wipeE env2 own2) S7).bind (fun env S => (evB (evAnd P C cs2 env S)).bind fun k S => if k then (ev P C m env S).bind fun v S => R.ok [v] S else R.ok [] S) with
                | ok z zs => exact fun h => h
                | ex z zs => exact fun h => nomatch h
                | bad => exact fun h => nomatch h
              obtain ⟨go2, yl2⟩ := wk2.go j x2 _ M6 H6 S7 hx2 ex6 s6 hw2
              refine .inr ⟨go2, _, fun H'' h => h, fun v2 H7 y2 => ?_⟩
              obtain ⟨ex7, bz7, s7, rv2⟩ := yl2 v2 H7 y2
              obtain ⟨env3, S10, ec1, ea4⟩ := bind_ok ea4
              obtain ⟨k2, S11, ec2, ea4⟩ := bind_ok ea4
              have at7 : At X.K G (D :: B) M6 H7 (wipe σ3 own2) (wipeE env2 own2) S7 := ⟨((((at4.e.mv ex5).mv ex6).mv ex7).wipe own2), s7⟩
              refine ⟨_, M6, _, S7, x2, at7, rv2, ?_⟩
              rw [ec1]
              intro M8 H8 ex8 b8 s8 σ8 ag8 at8
              refine ⟨wipe_ag ag8 hu2, _, M8, env3, S10, at8, RG.of_ok ec2 fun M9 H9 ex9 b9 s9 => ?_⟩
              have exC : Ext (D :: B) M6 H6 (D :: B) M9 H9 := (ex7.trans ex8).trans ex9
              have bzC : ∀ z ∈ D :: B, H9 z = H6 z := fun z hz => (b9 z hz).trans ((b8 z hz).trans (bz7 z hz))
              cases k2 with
              | false =>
                rw [if_neg Bool.false_ne_true] at ea4
                cases ea4
                exact iteF ⟨_, by omega, rfl, hlt2, M9, _, acc', ps', r2, ex6.trans exC, fun z hz => (bzC z (List.mem_cons_of_mem _ hz)).trans (bz6 z hz), s9, (bzC D Dmem).trans hacc', rps'.mv exC, er2, hpr⟩
              | true =>
                rw [if_pos rfl] at ea4
                obtain ⟨w, S12, ec3, ea4⟩ := bind_ok ea4
                cases ea4
                refine iteT ⟨_, M9, env3, S11, at8.mv ex9 s9, ?_⟩
                rw [ec3]
                intro z M10 H10 ex10 b10 s10 rz
                have exD := exC.trans ex10
                have hD10 : H10 D = some (.lst acc') := (b10 D Dmem).trans ((bzC D Dmem).trans hacc')
                have rps10 := rps'.mv exD
                have hl10 : acc'.length < sizeLine := by
                  rw [rps10.length]
                  have h1 : (ps' ++ ([w] ++ r2)).length ≤ sizeLine := by rw [hpr]; exact hlen
                  simp at h1
                  omega
                refine ⟨acc', hD10, hl10, ?_⟩
                refine ⟨_, by omega, rfl, hlt2, M10, S8, acc' ++ [z], ps' ++ [w], r2, (ex6.trans exD).trans ext_grow, fun c hc => ?_, s10.grow, upd_same, (rps10.append (.cons _ _ _ _ rz .nil)).mv ext_grow, er2, ?_⟩
                · have hne : c ≠ D := fun e => fr.2 (by rw [← e]; exact hc)
                  rw [upd_ne hne]
                  exact (b10 c (List.mem_cons_of_mem _ hc)).trans ((bzC c (List.mem_cons_of_mem _ hc)).trans (bz6 c hc))
                · rw [List.append_assoc]; exact hpr
theorem se_lc2 {mi mi2 : MI} {t t2 : MT} {ifs ifs1 : List Expr} {cs cs2 : List ME} {scope : Scope} {own : List (Str × Nat)} {us own2 us2 : List Nat} {b : Bool} (hc : X.calm = true) (hN : X.N.Nodup) (hi : SI P C G X W tg iter mi) (ok : BlkOk X.N X.env.scope scope own) (hv : ∀ i ∈ own2, i ∈ own.map (·.2))
    (hu : ∀ i ∈ us, i ∈ own.map (·.2)) (hu2 : ∀ i ∈ us2, i ∈ own2)
    (hg : ∀ (s : Shared) (H : Hp) (D : Addr) (cl : List (Str × Addr)) (fp : List Addr), SG P C G (X.blk s H scope (compEnvC scope cl D X.env) fp) (inL us) W0 tg t)
    (ht : ∀ (s : Shared) (H : Hp) (D : Addr) (cl : List (Str × Addr)) (fp : List Addr), STs P C G (X.blk s H scope (compEnvC scope cl D X.env) fp) W0 ifs cs)
    (hi1 : ∀ (s : Shared) (H : Hp) (D : Addr) (cl : List (Str × Addr)) (fp : List Addr), SI P C G (X.blk s H scope (compEnvC scope cl D X.env) fp) W0 tg1 iter1 mi2)
    (hg1 : ∀ (s : Shared) (H : Hp) (D : Addr) (cl : List (Str × Addr)) (fp : List Addr), SG P C G (X.blk s H scope (compEnvC scope cl D X.env) fp) (inL us2) W0 tg1 t2)
    (ht1 : ∀ (s : Shared) (H : Hp) (D : Addr) (cl : List (Str × Addr)) (fp : List Addr), STs P C G (X.blk s H scope (compEnvC scope cl D X.env) fp) W0 ifs1 cs2)
    (he : ∀ (s : Shared) (H : Hp) (D : Addr) (cl : List (Str × Addr)) (fp : List Addr), SE P C G (X.blk s H scope (compEnvC scope cl D X.env) fp) W0 elt m) (hs : ∀ x, foldedSetIterable iter X.env x = pure x) (hs1 : ∀ env x, foldedSetIterable iter1 env x = pure x) :
    SE P C G X W (.ListComp elt [⟨tg, iter, ifs, 0⟩, ⟨tg1, iter1, ifs1, 0⟩] scope pos) (.lc2 b (own.map (·.2)) m t mi cs own2 t2 mi2 cs2) :=
  PE.imp (pe_lc2 (wi := tI X.K G W (evI P C mi)) (g := tG X.K G (inL us) W0 (asgT P C t)) (tt := tT X.K G W0 fun env S => evB (evAnd P C cs env S)) (wi1 := tI X.K G W0 (evI P C mi2)) (g1 := tG X.K G (inL us2) W0 (asgT P C t2)) (tt1 := tT X.K G W0 fun env S => evB (evAnd P C cs2 env S)) (te := tE X.K G W0 (ev P C m)) hc hN hi ok hv hg ht hi1 hg1 ht1 he hs hs1) fun σ H Q q => lc2_ok hu hu2 q
theorem ss_setLc2 {mi mi2 : MI} {t t2 : MT} {ifs ifs1 : List Expr} {cs cs2 : List ME} {scope : Scope} {own : List (Str × Nat)} {us own2 us2 : List Nat} {b : Bool} {i : Nat} {y : Str} {py : Pos} (hc : X.calm = true) (hN : X.N.Nodup) (hy : X.N[i]? = some y) (hyl : X.env.scope.names.lookup y = some .local)
    (hsw : swapsWith (.ListComp elt [⟨tg, iter, ifs, 0⟩, ⟨tg1, iter1, ifs1, 0⟩] scope pos) (some (.Name y py)) pos2.line X.env = pure true) (hi : SI P C G X W tg iter mi) (ok : BlkOk X.N X.env.scope scope own) (hv : ∀ i ∈ own2, i ∈ own.map (·.2)) (ha : A i = true)
    (hu : ∀ i ∈ us, i ∈ own.map (·.2)) (hu2 : ∀ i ∈ us2, i ∈ own2)
    (hg : ∀ (s : Shared) (H : Hp) (D : Addr) (cl : List (Str × Addr)) (fp : List Addr), SG P C G (X.blk s H scope (compEnvC scope cl D X.env) fp) (inL us) W0 tg t)
    (ht : ∀ (s : Shared) (H : Hp) (D : Addr) (cl : List (Str × Addr)) (fp : List Addr), STs P C G (X.blk s H scope (compEnvC scope cl D X.env) fp) W0 ifs cs)
    (hi1 : ∀ (s : Shared) (H : Hp) (D : Addr) (cl : List (Str × Addr)) (fp : List Addr), SI P C G (X.blk s H scope (compEnvC scope cl D X.env) fp) W0 tg1 iter1 mi2)
    (hg1 : ∀ (s : Shared) (H : Hp) (D : Addr) (cl : List (Str × Addr)) (fp : List Addr), SG P C G (X.blk s H scope (compEnvC scope cl D X.env) fp) (inL us2) W0 tg1 t2)
    (ht1 : ∀ (s : Shared) (H : Hp) (D : Addr) (cl : List (Str × Addr)) (fp : List Addr), STs P C G (X.blk s H scope (compEnvC scope cl D X.env) fp) W0 ifs1 cs2)
    (he : ∀ (s : Shared) (H : Hp) (D : Addr) (cl : List (Str × Addr)) (fp : List Addr), SE P C G (X.blk s H scope (compEnvC scope cl D X.env) fp) W0 elt m) (hs : ∀ x, foldedSetIterable iter X.env x = pure x) (hs1 : ∀ env x, foldedSetIterable iter1 env x = pure x) :
    SS P C G X A W (.Assign [.Name y py] (.ListComp elt [⟨tg, iter, ifs, 0⟩, ⟨tg1, iter1, ifs1, 0⟩] scope pos) pos2) (.asg (.nm i) (.lc2 b (own.map (·.2)) m t mi cs own2 t2 mi2 cs2)) := by
  refine PS.imp (ps_setLc2 (wi := tI X.K G W (evI P C mi)) (g := tG X.K G (inL us) W0 (asgT P C t)) (tt := tT X.K G W0 fun env S => evB (evAnd P C cs env S)) (wi1 := tI X.K G W0 (evI P C mi2)) (g1 := tG X.K G (inL us2) W0 (asgT P C t2)) (tt1 := tT X.K G W0 fun env S => evB (evAnd P C cs2 env S)) (te := tE X.K G W0 (ev P C m)) hc hN hy hyl hsw hi ok hv hg ht hi1 hg1 ht1 he hs hs1) fun D σ H q => ?_
  obtain ⟨B, M, env, S, st, q⟩ := q
  simp only [exS] at q
  refine lc2_ok hu hu2 (tE_thenS st q fun p1 S1 x M1 H1 e1 b1 st1 r1 q1 => ?_)
  simp only [asgT] at q1
  exact q1.here st1.s _ (.set ha) ⟨st1.e.set i r1, st1.s⟩
end
end G

namespace G
open PySem PySem.Spec PyProof.Rows L2
/-! ### isinstance -/
def tyNm : Ty → Option String
  | .bool => some "bool" | .int => some "int" | .str => some "str" | .list => some "list" | .tuple => some "tuple"
  | _ => none
def tyStr : Ty → Option Str
  | .bool => some "bool" | .int => some "int" | .str => some "str" | .list => some "list" | .tuple => some "tuple"
  | _ => none
section
variable {K : PySem.W.Frag} {G : Nm} {B M : List Addr} {H : Hp} {S : Store} {x : V} {p : PV}
theorem rd_lst {a : Addr} {vs : List V} (h : Rd H a (.lst vs)) : TyX K H (.ref a) (.type "list") := by
  rcases h with h | ⟨o, h⟩
  · exact .base (.lst h)
  · exact .base (.frz h)
theorem rd_tup {a : Addr} {vs : List V} (h : Rd H a (.tup vs)) : TyX K H (.ref a) (.type "tuple") := by
  rcases h with h | ⟨o, h⟩
  · exact .base (.tup h)
  · exact .fTuple h
theorem sq_tup {a : Addr} {vs : List V} (h : SqT K H a vs) : TyX K H (.ref a) (.type "tuple") := by
  rcases h with h | ⟨o, its, n, e, c, _⟩
  · exact rd_tup h
  · exact .kTuple e c
/-- the type of a value -/
def pvTy (S : Store) : PV → Option String
  | .non => some "NoneType" | .bl _ => some "bool" | .int _ => some "int" | .str _ => some "str" | .tup _ => some "tuple" | .fl _ => some "list"
  | .loc n => match S[n]? with | some (.lst _) => some "list" | _ => none
  | _ => none
theorem ty_of {t : String} (r : RS K G B M H S) (hx : RV K B M H x p) (h : pvTy S p = some t) : TyX K H x (.type t) := by
  cases p with
  | non => cases h; rw [hx.non_inv]; exact .base .non
  | bl b => cases h; rw [hx.bl_inv]; exact .base (.bl b)
  | int i => cases h; rw [hx.int_inv]; exact .base (.int i)
  | str s => cases h; obtain ⟨y, rfl, _⟩ := hx.str_inv; exact .base (.str y)
  | tup l => cases h; obtain ⟨a, vs, rfl, t, _⟩ := hx.tup_inv; exact sq_tup t.sq
  | fl l => cases h; obtain ⟨a, vs, rfl, t, _⟩ := hx.fl_inv; exact rd_lst t.1
  | loc n =>
    simp only [pvTy] at h
    cases hs : S[n]? with
    | none => rw [hs] at h; cases h
    | some c =>
      rw [hs] at h
      cases c with
      | lst l =>
        cases h
        obtain ⟨a, vs, rfl, _, ha, _⟩ := loc_of r hx hs
        exact .base (.lst ha)
      | dct l => cases h
      | ins c l => cases h
  | exc c l => cases h
  | scr l => cases h
theorem kit_bi {t : String} {ty : Ty} {nm : String} {P : Prog} (h : pvTy S p = some t) (ht : tyNm ty = some nm) : PySem.W.kitOne K (.type t) (.type nm) = some (hasTy P S p ty) := by
  have k1 : ∀ b : Bool, ∀ t nm : String, PySem.W.kitOne K (.type t) (.type nm) = some b → some b = some b → PySem.W.kitOne K (.type t) (.type nm) = some b := fun _ _ _ h _ => h
  cases p with
  | non => cases h; cases ty <;> cases ht <;> rfl
  | bl b => cases h; cases ty <;> cases ht <;> rfl
  | int i => cases h; cases ty <;> cases ht <;> rfl
  | str s => cases h; cases ty <;> cases ht <;> rfl
  | tup l => cases h; cases ty <;> cases ht <;> rfl
  | fl l => cases h; cases ty <;> cases ht <;> rfl
  | loc n =>
    simp only [pvTy] at h
    cases hs : S[n]? with
    | none => rw [hs] at h; cases h
    | some c =>
      rw [hs] at h
      cases c with
      | lst l => cases h; cases ty <;> cases ht <;> simp only [hasTy, hs] <;> rfl
      | dct l => cases h
      | ins c l => cases h
  | exc c l => cases h
  | scr l => cases h
end
section
variable {P : Prog} {C : Nat → List PV → Store → R PV} {G : Nm} {X : Cx} {A : Nat → Bool} {W : WX} {p pos pz pos2 tpos : Pos} {e e1 e2 e3 tg iter elt : Expr} {m m1 m2 m3 : ME} {es elts : List Expr} {ms : List ME} {k kk : Nat}
/-- a value has a plain type -/
theorem ty_any {K : PySem.W.Frag} {B M : List Addr} {H : Hp} {S : Store} {x : V} {p : PV} (r : RS K G B M H S) (hx : RV K B M H x p) (hs : ∀ l, p ≠ .scr l) (hx2 : ∀ c l, p ≠ .exc c l) : ∃ t, pvTy S p = some t := by
  cases p with
  | loc n =>
    obtain ⟨a, rfl, hm⟩ := hx.loc_inv
    simp only [pvTy]
    have hlt : n < S.length := by rw [← r.len]; exact (List.getElem?_eq_some_iff.mp hm).1
    have hs2 : S[n]? = some S[n] := by simp [hlt]
    have q := r.cell n S[n] a hs2 hm
    rw [hs2]
    cases e : S[n] with
    | lst l => exact ⟨_, rfl⟩
    | dct l => rw [e] at q; exact q.elim
    | ins c l => rw [e] at q; exact q.elim
  | exc c l => exact absurd rfl (hx2 c l)
  | scr l => exact absurd rfl (hs l)
  | _ => exact ⟨_, rfl⟩
theorem isiV_ok {p : PV} {ts : List Ty} {S : Store} {K : PySem.W.Frag} {W : Value → Option Addr → Hp → Prop} {B M : List Addr} {H : Hp} {Q : VK} (h : RP K G W B M H (isiV P ts p S) Q) (r : RS K G B M H S) : (∀ l, p ≠ .scr l) ∧ (∀ c l, p = .exc c l → ts.all isOwnT = true ∧ P.base c ≠ 0) ∧ Q (.bl (ts.any (hasTy P S p))) H := by
  cases p with
  | scr l => exact h.elim
  | exc c l =>
    simp only [isiV] at h
    split at h
    · rename_i ho
      rw [Bool.and_eq_true, bne_iff_ne] at ho
      exact ⟨fun l e => (by cases e), fun c' l' e => (by cases e; exact ho), fin_val r h (.bl _)⟩
    · exact h.elim
  | _ => exact ⟨fun l e => (by cases e), fun _ _ e => (by cases e), fin_val r h (.bl _)⟩
theorem se_isi {ty : Ty} {nm : String} {T : Str} (hg : Gl X "isinstance") (hm : X.mg "isinstance" = none) (hgT : Gl X T) (hmT : X.mg T = none) (ht : tyNm ty = some nm) (hb : bootBuiltins T = some (.type nm)) (hn : T ≠ "__name__") (hd : (T == ("__debug__" : Str)) = false)
    (h : SE P C G X W e m) (hs : starEach [e, .Name T p] X.env = (false, eval e X.env) :: starEach [.Name T p] X.env) (hpl : (backTo pos (starEach [.Name T p] X.env)).any (·.1) = false) :
    SE P C G X W (.Call (.Name "isinstance" pz) [e, .Name T p] [] pos) (.isi m [ty]) := by
  refine PE.imp (pe_callB (id := "isinstance") call_isi hg hm (by decide +kernel) (pa_cons h (pa_cons (pe_bltn (v := .ty nm) hgT hmT hb rfl hn hd) pa_nil) hs) (he := hs) (hpl := hpl)) fun σ H Q q => ?_
  obtain ⟨B, M, env, S, st, q⟩ := q
  simp only [ev] at q
  refine tE_then st q fun p1 S1 x M1 H1 e1 b1 st1 r1 q1 => ?_
  obtain ⟨ns, nx, q1⟩ := isiV_ok q1 st1.s
  obtain ⟨t, et⟩ := ty_any st1.s r1 ns fun c l e => absurd (nx c l e).1 (by cases ty <;> first | (cases ht; done) | simp [isOwnT])
  refine ⟨x, .ty nm, .type t, .type nm, hasTy P S1 p1 ty, rfl, .ty nm, ty_of st1.s r1 et, kit_bi et ht, ?_⟩
  simpa using q1
/-! ### the built-in functions, by name -/
theorem se_int1 (hg : Gl X "int") (hm : X.mg "int" = none) {b : Bool} (h : SA P C G X W [e] [m]) (hs : starEach [e] X.env = (false, eval e X.env) :: starEach [] X.env) : SE P C G X W (.Call (.Name "int" pz) [e] [] pos) (.b .int b [m]) :=
  se_b (pe_callTy call_int1 hg hm (by decide +kernel) h (he := hs) (hpl := rfl)) fun B M H S xs vs σ Q r rv _ q => cb_int r rv (fun s e => by rw [e] at q; exact q.elim) q
theorem se_len (hg : Gl X "len") (hm : X.mg "len" = none) {b : Bool} (h : SA P C G X W [e] [m]) (hs : starEach [e] X.env = (false, eval e X.env) :: starEach [] X.env) : SE P C G X W (.Call (.Name "len" pz) [e] [] pos) (.b .len b [m]) :=
  se_b (pe_callB call_len hg hm (by decide +kernel) h (he := hs) (hpl := rfl)) fun B M H S xs vs σ Q r rv _ q => cb_len r rv q
theorem se_tuple (hg : Gl X "tuple") (hm : X.mg "tuple" = none) {b : Bool} (h : SA P C G X W [e] [m]) (hs : starEach [e] X.env = (false, eval e X.env) :: starEach [] X.env) : SE P C G X W (.Call (.Name "tuple" pz) [e] [] pos) (.b .tuple b [m]) :=
  se_b (pe_callTy call_tuple_of hg hm (by decide +kernel) h (he := hs) (hpl := rfl)) fun B M H S xs vs σ Q r rv _ q => cb_tuple r rv q
theorem se_list (hg : Gl X "list") (hm : X.mg "list" = none) {b : Bool} (h : SA P C G X W [e] [m]) (hs : starEach [e] X.env = (false, eval e X.env) :: starEach [] X.env) : SE P C G X W (.Call (.Name "list" pz) [e] [] pos) (.b .list b [m]) :=
  se_b (pe_callTy call_list_of hg hm (by decide +kernel) h (he := hs) (hpl := rfl)) fun B M H S xs vs σ Q r rv _ q => cb_list r rv q
theorem se_abs (hg : Gl X "abs") (hm : X.mg "abs" = none) {b : Bool} (h : SA P C G X W [e] [m]) (hs : starEach [e] X.env = (false, eval e X.env) :: starEach [] X.env) : SE P C G X W (.Call (.Name "abs" pz) [e] [] pos) (.b .abs b [m]) :=
  se_b (pe_callB call_abs hg hm (by decide +kernel) h (he := hs) (hpl := rfl)) fun B M H S xs vs σ Q r rv _ q => cb_abs r rv q
theorem se_all (hc : X.calm = true) (hg : Gl X "all") (hm : X.mg "all" = none) {b : Bool} (h : SA P C G X W [e] [m]) (hs : starEach [e] X.env = (false, eval e X.env) :: starEach [] X.env) : SE P C G X W (.Call (.Name "all" pz) [e] [] pos) (.b .all b [m]) :=
  se_b (pe_callB (cr_all hc) hg hm (by decide +kernel) h (he := hs) (hpl := rfl)) fun B M H S xs vs σ Q r rv _ q => cb_all r rv q
theorem se_any (hc : X.calm = true) (hg : Gl X "any") (hm : X.mg "any" = none) {b : Bool} (h : SA P C G X W [e] [m]) (hs : starEach [e] X.env = (false, eval e X.env) :: starEach [] X.env) : SE P C G X W (.Call (.Name "any" pz) [e] [] pos) (.b .any b [m]) :=
  se_b (pe_callB (cr_any hc) hg hm (by decide +kernel) h (he := hs) (hpl := rfl)) fun B M H S xs vs σ Q r rv _ q => cb_any r rv q
theorem se_sum (hc : X.calm = true) (hg : Gl X "sum") (hm : X.mg "sum" = none) {b : Bool} (h : SA P C G X W [e] [m]) (hs : starEach [e] X.env = (false, eval e X.env) :: starEach [] X.env) : SE P C G X W (.Call (.Name "sum" pz) [e] [] pos) (.b .sum b [m]) :=
  se_b (pe_callB (cr_sum hc) hg hm (by decide +kernel) h (he := hs) (hpl := rfl)) fun B M H S xs vs σ Q r rv _ q => cb_sum r rv q
theorem CallR.or {id : Value} {r1 r2 : List V → Hp → VK → Prop} (h1 : CallR X id r1) (h2 : CallR X id r2) : CallR X id (fun vs H Q => r1 vs H Q ∨ r2 vs H Q) := fun pins s σ H vs us Q I r q => q.elim (h1 pins s σ H vs us Q I r) (h2 pins s σ H vs us Q I r)
theorem se_sorted (hg : Gl X "sorted") (hm : X.mg "sorted" = none) {b : Bool} (h : SA P C G X W [e] [m]) (hs : starEach [e] X.env = (false, eval e X.env) :: starEach [] X.env) : SE P C G X W (.Call (.Name "sorted" pz) [e] [] pos) (.b .sorted b [m]) :=
  se_b (pe_callB (CallR.or cr_sorted (cr_sortT (d := 2) (B := pairLim) (by decide))) hg hm (by decide +kernel) h (he := hs) (hpl := rfl)) fun B M H S xs vs σ Q r rv _ q => cb_sorted r rv q
theorem se_max2 (hc : X.calm = true) (hg : Gl X "max") (hm : X.mg "max" = none) {b : Bool} (h : SA P C G X W [e1, e2] [m1, m2]) (hs : starEach [e1, e2] X.env = (false, eval e1 X.env) :: starEach [e2] X.env) (hpl : (backTo pos (starEach [e2] X.env)).any (·.1) = false) : SE P C G X W (.Call (.Name "max" pz) [e1, e2] [] pos) (.b .max2 b [m1, m2]) :=
  se_b (pe_callB (call_max2 hc) hg hm (by decide +kernel) h (he := hs) (hpl := hpl)) fun B M H S xs vs σ Q r rv _ q => cb_max2 r rv q
theorem se_min2 (hc : X.calm = true) (hg : Gl X "min") (hm : X.mg "min" = none) {b : Bool} (h : SA P C G X W [e1, e2] [m1, m2]) (hs : starEach [e1, e2] X.env = (false, eval e1 X.env) :: starEach [e2] X.env) (hpl : (backTo pos (starEach [e2] X.env)).any (·.1) = false) : SE P C G X W (.Call (.Name "min" pz) [e1, e2] [] pos) (.b .min2 b [m1, m2]) :=
  se_b (pe_callB (call_min2 hc) hg hm (by decide +kernel) h (he := hs) (hpl := hpl)) fun B M H S xs vs σ Q r rv _ q => cb_min2 r rv q
end
end G

namespace G
open PySem PySem.Spec PyProof.Rows L2
/-! ### isinstance with several types -/
theorem kitAny_bi {K : PySem.W.Frag} {P : Prog} {S : Store} {p : PV} {t : String} (h : pvTy S p = some t) : ∀ {ts : List Ty} {nms : List String}, ts.mapM tyNm = some nms → PySem.W.kitAny K (.type t) (nms.map Value.type) = some (ts.any (hasTy P S p))
  | [], nms, e => by cases e; rfl
  | ty :: ts, nms, e => by
    rw [List.mapM_cons] at e
    cases e1 : tyNm ty with
    | none => rw [e1] at e; cases e
    | some nm =>
      cases e2 : ts.mapM tyNm with
      | none => rw [e1, e2] at e; cases e
      | some ns =>
        rw [e1, e2] at e
        cases e
        rw [List.map_cons, List.any_cons]
        refine kitAny_cons (kit_bi h e1) (fun hb => ?_) (fun hb => by rw [hb]; rfl)
        rw [hb, Bool.false_or]
        exact kitAny_bi h e2
section
variable {P : Prog} {C : Nat → List PV → Store → R PV} {G : Nm} {X : Cx} {A : Nat → Bool} {W : WX} {p pos pz pos2 tpos : Pos} {e e1 e2 e3 tg iter elt : Expr} {m m1 m2 m3 : ME} {es elts : List Expr} {ms : List ME} {k kk : Nat}
theorem isiV_eq {p : PV} {ts : List Ty} {S : Store} (h : ∀ l, p ≠ .scr l) (h2 : ∀ c l, p = .exc c l → ts.all isOwnT = true ∧ P.base c ≠ 0) : isiV P ts p S = .ok (.bl (ts.any (hasTy P S p))) S := by
  cases p with
  | scr l => exact absurd rfl (h l)
  | exc c l =>
    have h := h2 c l rfl
    exact if_pos (by rw [Bool.and_eq_true, bne_iff_ne]; exact h)
  | _ => rfl
theorem se_isiT {ty ty2 : Ty} {nm nm2 : String} {T T2 : Str} {p2 pt : Pos} {n : Nat} (hg : Gl X "isinstance") (hm : X.mg "isinstance" = none) (hgT : Gl X T) (hmT : X.mg T = none) (ht : tyNm ty = some nm) (hb : bootBuiltins T = some (.type nm)) (hn : T ≠ "__name__") (hd : (T == ("__debug__" : Str)) = false)
    (hgT2 : Gl X T2) (hmT2 : X.mg T2 = none) (ht2 : tyNm ty2 = some nm2) (hb2 : bootBuiltins T2 = some (.type nm2)) (hn2 : T2 ≠ "__name__") (hd2 : (T2 == ("__debug__" : Str)) = false)
    (h : SE P C G X W e m) (hs : starEach [e, .Tuple [.Name T p, .Name T2 p2] n pt] X.env = (false, eval e X.env) :: starEach [.Tuple [.Name T p, .Name T2 p2] n pt] X.env) (hpl : (backTo pos (starEach [.Tuple [.Name T p, .Name T2 p2] n pt] X.env)).any (·.1) = false) :
    SE P C G X W (.Call (.Name "isinstance" pz) [e, .Tuple [.Name T p, .Name T2 p2] n pt] [] pos) (.isi m [ty, ty2]) := by
  refine PE.imp (pe_callB (id := "isinstance") call_isiT hg hm (by decide +kernel) (pa_cons h (pa_cons (pe_tup (pa_cons (pe_bltn (v := .ty nm) hgT hmT hb rfl hn hd) (pa_cons (pe_bltn (v := .ty nm2) hgT2 hmT2 hb2 rfl hn2 hd2) pa_nil))) pa_nil) hs) (he := hs) (hpl := hpl)) fun σ H Q q => ?_
  obtain ⟨B, M, env, S, st, q⟩ := q
  simp only [ev] at q
  refine tE_then st q fun p1 S1 x M1 H1 e1 b1 st1 r1 q1 => ?_
  obtain ⟨ns, nx, q2⟩ := isiV_ok q1 st1.s
  obtain ⟨t, et⟩ := ty_any st1.s r1 ns fun c l e => absurd (nx c l e).1 (by cases ty <;> first | (cases ht; done) | simp [isOwnT])
  refine ⟨by show 2 ≤ sizeLine; decide, fun a ha => ?_⟩
  have ex : Ext B M1 H1 B M1 (upd H1 a (.tup [.ty nm, .ty nm2])) := ext_new ha
  refine ⟨x, a, [.ty nm, .ty nm2], .type t, [.type nm, .type nm2], [ty, ty2].any (hasTy P S1 p1), rfl, upd_same, .cons (.ty nm) (.cons (.ty nm2) .nil), ty_of (st1.s.new ha) (r1.mv ex) et, kitAny_bi (P := P) et (ts := [ty, ty2]) (nms := [nm, nm2]) (by simp [ht, ht2]), ?_⟩
  rw [isiV_eq ns nx] at q1
  exact q1 _ M1 _ ex (upd_bsy st1.s ha) (st1.s.new ha) (.bl _)
end
end G

namespace G
open PySem PySem.Spec PyProof.Rows L2
/-! ### methods of lists -/
def noCallE : Expr → Bool
  | .Call .. => false
  | _ => true
theorem base_nc {o : Expr} {name : Str} {env : PySem.Env} (h : noCallE o = true) : attributeBase o name env (eval o env) = eval o env := by
  cases o <;> first | rfl | cases h
theorem few_of {es : List Expr} {env : PySem.Env} {pos : Pos} (h : (backTo pos (starEach es env)).any (·.1) = false) (hl : es.length < 30) : ((backTo pos (starEach es env)).all (fun x => !x.1) && (backToKw pos (keywordEach [] env)).all (fun x => x.1.isSome)
      && decide (es.length + ([] : List Keyword).length + (if ([] : List Keyword).isEmpty then 0 else 1) < 30)) = true := by
  have e : (backTo pos (starEach es env)).all (fun x => !x.1) = true := by
    rw [List.all_eq_true]
    intro x hx
    cases e : x.1 with
    | false => rfl
    | true =>
      have : (backTo pos (starEach es env)).any (·.1) = true := List.any_eq_true.mpr ⟨x, hx, e⟩
      rw [h] at this; cases this
  rw [e]
  show (true && true && decide (es.length + 0 + 0 < 30)) = true
  simpa using hl
def lstBm : Bm → Bool
  | .append | .pop | .popAt | .insert | .remove | .index | .count | .extend | .reverse | .clear => true
  | _ => false
theorem pre_lst {f : Bm} {S : Store} {x : PV} {u : Unit} (hf : lstBm f = true) (h : bmPre f S x = some u) : ∃ l, lstOf S x = some l := by
  cases f <;> first
    | (cases hf; done)
    | (cases e : lstOf S x with
       | none => simp [bmPre, e] at h
       | some l => exact ⟨l, rfl⟩)
section
variable {K : PySem.W.Frag} {G : Nm} {W : Value → Option Addr → Hp → Prop} {B M : List Addr} {H : Hp} {Q : VK} {S : Store} {x : V} {p : PV} {vs : List V} {l xs : List PV} {b : Bool}
theorem tyV_lst (r : RS K G B M H S) (hx : RV K B M H x p) (h : lstOf S p = some l) : tyV K "list" x H := by
  obtain ⟨a, vs, rfl, hs, _⟩ := lst_sq r hx h
  exact .inl ⟨rfl, vs, hs⟩
/-- a method that changes the list -/
theorem bm_loc {f : Bm} {vs : List V} (hx : RV K B M H x p) (r : RS K G B M H S) (g : List PV → List PV → Option (PV × List PV)) (hc : callM f b p xs S = match p with
    | .loc n => match S[n]? with
      | some (.lst l) => match g xs l with
        | some (v, l') => .ok v (S.set n (.lst l'))
        | none => .bad
      | _ => .bad
    | _ => .bad) (h : RP K G W B M H (callM f b p xs S) Q) : ∃ a vs l v l', x = .ref a ∧ H a = some (.lst vs) ∧ RVs K B M H vs l ∧ l.length ≤ sizeLine ∧ g xs l = some (v, l') ∧
      ∀ y ys, RV K B M H y v → RVs K B M H ys l' → l'.length ≤ sizeLine → Q y (upd H a (.lst ys)) := by
  rw [hc] at h
  cases p with
  | loc n =>
    simp only at h
    cases hs : S[n]? with
    | none => rw [hs] at h; exact h.elim
    | some c =>
      rw [hs] at h
      cases c with
      | lst l =>
        simp only at h
        cases hg : g xs l with
        | none => rw [hg] at h; exact h.elim
        | some q =>
          obtain ⟨v, l'⟩ := q
          rw [hg] at h
          obtain ⟨a, vs, rfl, hm, ha, rv, hl⟩ := loc_of r hx hs
          exact ⟨a, vs, l, v, l', rfl, ha, rv, hl, hg, fun y ys hy hys hl' => fin_set r hm hys hl' hy h⟩
      | dct l => exact h.elim
      | ins c l => exact h.elim
  | _ => exact h.elim
theorem sizeL_line {n : Nat} : n ≤ sizeL ↔ n ≤ sizeLine := by rw [sizeL_eq]
theorem bm_append (hx : RV K B M H x p) (r : RS K G B M H S) (rv : RVs K B M H vs xs) (h : RP K G W B M H (callM .append b p xs S) Q) : rAppend x vs H Q := by
  rcases xs with _ | ⟨q, _ | ⟨q2, t⟩⟩
  · cases p <;> exact h.elim
  · obtain ⟨v, rfl, hv⟩ := rv.one
    obtain ⟨a, ys, l, w, l', rfl, ha, ry, hl, hg, k⟩ := bm_loc hx r (vs := []) (fun xs l => match xs with
      | [v] => if l.length < sizeL then some (.non, l ++ [v]) else none
      | _ => none) (by
        cases p with
        | loc n =>
          simp only [callM]
          cases S[n]? with
          | none => rfl
          | some c => cases c <;> simp <;> split <;> rfl
        | _ => rfl) h
    simp only at hg
    split at hg
    · rename_i hlt
      cases hg
      rw [sizeL_eq] at hlt
      refine ⟨a, ys, v, rfl, rfl, ha, by rw [ry.length]; exact hlt, k .non _ .non (ry.append (.cons _ _ _ _ hv .nil)) (by simp; omega)⟩
    · cases hg
  · cases p <;> exact h.elim
theorem bm_reverse (hx : RV K B M H x p) (r : RS K G B M H S) (h : RP K G W B M H (callM .reverse b p [] S) Q) : rReverse x [] H Q := by
  obtain ⟨a, ys, l, w, l', rfl, ha, ry, hl, hg, k⟩ := bm_loc hx r (vs := []) (fun xs l => some (.non, l.reverse)) (by
    cases p with
    | loc n =>
      simp only [callM]
      all_goals (cases S[n]? with
      | none => rfl
      | some c => cases c <;> rfl)
    | _ => rfl) h
  cases hg
  exact ⟨a, ys, rfl, rfl, ha, k .non _ .non ry.reverse (by simpa using hl)⟩
theorem bm_clear (hx : RV K B M H x p) (r : RS K G B M H S) (h : RP K G W B M H (callM .clear b p [] S) Q) : rClear x [] H Q := by
  obtain ⟨a, ys, l, w, l', rfl, ha, ry, hl, hg, k⟩ := bm_loc hx r (vs := []) (fun xs l => some (.non, [])) (by
    cases p with
    | loc n =>
      simp only [callM]
      all_goals (cases S[n]? with
      | none => rfl
      | some c => cases c <;> rfl)
    | _ => rfl) h
  cases hg
  exact ⟨a, ys, rfl, rfl, ha, k .non _ .non .nil (Nat.zero_le _)⟩
theorem bm_pop (hx : RV K B M H x p) (r : RS K G B M H S) (h : RP K G W B M H (callM .pop b p [] S) Q) : rPop x [] H Q := by
  obtain ⟨a, ys, l, w, l', rfl, ha, ry, hl, hg, k⟩ := bm_loc hx r (vs := []) (fun xs l => match l.getLast? with | some v => some (v, l.dropLast) | none => none) (by
    cases p with
    | loc n =>
      simp only [callM]
      all_goals (cases S[n]? with
      | none => rfl
      | some c =>
        cases c with
        | lst l => cases e : l.getLast? <;> simp only [e]
        | _ => rfl)
    | _ => rfl) h
  cases e : l.getLast? with
  | none => rw [e] at hg; cases hg
  | some v =>
    rw [e] at hg
    cases hg
    rw [List.getLast?_eq_getElem?] at e
    obtain ⟨y, hy, ry2⟩ := ry.get e
    exact ⟨a, ys, y, rfl, rfl, ha, by rw [ry.length]; exact hy, k y _ ry2 ry.dropLast (by simp; omega)⟩
theorem bm_popAt (hx : RV K B M H x p) (r : RS K G B M H S) (rv : RVs K B M H vs xs) (h : RP K G W B M H (callM .popAt b p xs S) Q) : rPopAt x vs H Q := by
  rcases xs with _ | ⟨q, _ | ⟨q2, t⟩⟩
  · cases p <;> exact h.elim
  · obtain ⟨v, rfl, hv⟩ := rv.one
    cases p with
    | loc n =>
      simp only [callM] at h
      cases hs : S[n]? with
      | none => rw [hs] at h; exact h.elim
      | some c =>
        rw [hs] at h
        cases c with
        | lst l =>
          obtain ⟨a, ys, rfl, hm, ha, ry, hl⟩ := loc_of r hx hs
          cases q with
          | int i =>
            simp only at h
            cases e : _root_.G.ixN l.length i with
            | none => rw [e] at h; exact h.elim
            | some j =>
              rw [e] at h
              simp only at h
              cases e2 : l[j]? with
              | none => rw [e2] at h; exact h.elim
              | some w =>
                rw [e2] at h
                obtain ⟨y, hy, ryv⟩ := ry.get e2
                obtain ⟨k1, k2, k3, k4⟩ := L2.ixN_seq (n := l.length) (i := i) (j := j) e
                rw [hv.int_inv]
                have e64 : l.length ≤ 16777216 := by rw [← sizeLine_eq]; exact hl
                refine ⟨a, ys, i, j, y, rfl, rfl, ha, by omega, by omega, by rw [ry.length]; exact k1, hy, ?_⟩
                refine fin_set r hm (ry.eraseIdx j) ?_ ryv h
                have := List.length_eraseIdx_le l j
                omega
          | _ => exact h.elim
        | dct l =>
          obtain ⟨a, rfl, hm⟩ := hx.loc_inv
          exact (r.cell n _ a hs hm).elim
        | ins c l => exact h.elim
    | _ => exact h.elim
  · cases p <;> exact h.elim
theorem bm_insert (hx : RV K B M H x p) (r : RS K G B M H S) (rv : RVs K B M H vs xs) (h : RP K G W B M H (callM .insert b p xs S) Q) : ∃ (l : Addr) (xs : List V) (i : Int) (y : V), x = .ref l ∧ vs = [.int i, y] ∧ H l = some (.lst xs) ∧ xs.length < sizeLine ∧ 0 ≤ i ∧ i < 2 ^ 63 ∧ Q .non (upd H l (.lst (xs.take i.toNat ++ [y] ++ xs.drop i.toNat))) := by
  rcases xs with _ | ⟨q, _ | ⟨q2, _ | ⟨q3, t⟩⟩⟩
  · cases p <;> exact h.elim
  · cases p <;> cases q <;> exact h.elim
  · obtain ⟨v, w, rfl, hv, hw⟩ := rv.two
    cases q with
    | int i =>
      cases p with
      | loc n =>
        simp only [callM] at h
        cases hs : S[n]? with
        | none => rw [hs] at h; exact h.elim
        | some c =>
          rw [hs] at h
          cases c with
          | lst l =>
            obtain ⟨a, ys, rfl, hm, ha, ry, hl⟩ := loc_of r hx hs
            simp only at h
            split at h
            · rename_i hb
              obtain ⟨b1, b2, b3⟩ := hb
              rw [sizeL_eq] at b1
              rw [hv.int_inv]
              refine ⟨a, ys, i, w, rfl, rfl, ha, by rw [ry.length]; exact b1, b3, by omega, ?_⟩
              refine fin_set r hm (((ry.take _).append (.cons _ _ _ _ hw .nil)).append (ry.drop _)) ?_ .non h
              simp
              omega
            · exact h.elim
          | _ => exact h.elim
      | _ => exact h.elim
    | _ => cases p <;> exact h.elim
  · cases p <;> cases q <;> exact h.elim
end
section
variable {P : Prog} {C : Nat → List PV → Store → R PV} {G : Nm} {X : Cx} {A : Nat → Bool} {W : WX} {p pos apos cpos : Pos} {o e e1 e2 : Expr} {m m1 m2 mo : ME} {es : List Expr} {ms : List ME} {b : Bool}
/-- a method of a list, without arguments -/
theorem se_bm0 {f : Bm} {name : Str} {id : String} {r : V → List V → Hp → VK → Prop} (hf : lstBm f = true) (slot : Slot "list" name id) (hty : typeOf (.builtin id) = pure (.type "method_descriptor")) (hm : MtR X id r)
    (h : SE P C G X W o mo) (hn : noCallE o = true) (hline : (apos.endLine == cpos.line) = true)
    (k : ∀ B M H S x p σ Q, RS X.K G B M H S → RV X.K B M H x p → RP X.K G (fun c d => W c d σ) B M H (callM f b p [] S) Q → r x [] H Q) :
    SE P C G X W (.Call (.Attribute o name apos) [] [] cpos) (.bm f b mo []) := by
  refine PE.imp (pe_bm0 PySem.F.plainAttrs_list slot hty hm h (base_nc hn) hline) fun σ H Q q => ?_
  obtain ⟨B, M, env, S, st, q⟩ := q
  simp only [ev, evL] at q
  refine tE_then st q fun p1 S1 x M1 H1 e1 b1 st1 r1 q1 => ?_
  cases ep : bmPre f S1 p1 with
  | none => rw [ep] at q1; exact q1.elim
  | some u =>
    rw [ep] at q1
    obtain ⟨l, hl⟩ := pre_lst hf ep
    exact ⟨tyV_lst st1.s r1 hl, k _ _ _ _ _ _ σ _ st1.s r1 q1⟩
theorem lift_ok {α β : Type} {a : α} {S : Store} {g : α → Store → R β} : (lift (some a) S).bind g = g a S := rfl
/-- .. with one or more -/
theorem se_bm {f : Bm} {name : Str} {id : String} {r : V → List V → Hp → VK → Prop} (hf : lstBm f = true) (slot : Slot "list" name id) (hty : typeOf (.builtin id) = pure (.type "method_descriptor")) (hm : MtR X id r)
    (h : SE P C G X W o mo) (ha : SA P C G X W (e :: es) ms) (hn : noCallE o = true) (hline : (apos.endLine == cpos.line) = true)
    (hs : starEach (e :: es) X.env = (false, eval e X.env) :: starEach es X.env) (hpl : (backTo cpos (starEach (e :: es) X.env)).any (·.1) = false) (hpl2 : (backTo cpos (starEach es X.env)).any (·.1) = false) (h30 : (e :: es).length < 30)
    (k : ∀ B M H S x p vs xs σ Q, RS X.K G B M H S → RV X.K B M H x p → RVs X.K B M H vs xs → xs.length = ms.length → RP X.K G (fun c d => W c d σ) B M H (callM f b p xs S) Q → r x vs H Q) :
    SE P C G X W (.Call (.Attribute o name apos) (e :: es) [] cpos) (.bm f b mo ms) := by
  refine PE.imp (pe_bm PySem.F.plainAttrs_list slot hty hm h ha (base_nc hn) (few_of hpl h30) hline hs hpl2) fun σ H Q q => ?_
  obtain ⟨B, M, env, S, st, q⟩ := q
  simp only [ev] at q
  refine tE_then st q fun p1 S1 x M1 H1 e1 b1 st1 r1 q1 => ?_
  cases ep : bmPre f S1 p1 with
  | none => rw [ep] at q1; exact q1.elim
  | some u =>
    rw [ep, lift_ok] at q1
    obtain ⟨l, hl⟩ := pre_lst hf ep
    refine ⟨tyV_lst st1.s r1 hl, ?_⟩
    exact tA_thenL st1 (RP.rg q1) fun as S2 vs M2 H2 l2 e2 b2 st2 r2 q2 => k _ _ _ _ _ _ _ _ σ _ st2.s (r1.mv e2) r2 l2 (RG.rp q2)
end
end G

namespace G
open PySem PySem.Spec PyProof.Rows L2
open PySem.Builtin PySem.Builtin.ObjectAttr
/-! ### own exception classes over a built-in one, with an __init__ that is walked -/
structure Xc (K : PySem.W.Frag) (C : Addr) (B newId initId : String) (bmB : List Value) : Prop where
  F : ExcBaseFacts B newId initId bmB
  SF : StoreFacts B bmB "object.__setattr__" "object"
  cls : ∃ nm q N bs bm sn sub ab col dd k0 k1 k2 k3 k5, K.lookup C = some (excClassObj nm q C N bs bm true sn sub ab col dd k0 k1 k2 k3 k5 newId) ∧ PySem.W.excTail bmB bm = true
  sa : PySem.W.findIn K (.ref C) "__setattr__" = some (some (.builtin "object.__setattr__"))
  exC : PySem.W.subIn K (.ref C) (.type "BaseException") = some true
  tyC : PySem.W.typeIn K (.ref C) = some (.type "type")
  kC : PySem.W.keepIn K (.ref C) = true
section
variable {prog : Program} {w : World} {A : Around} {R : Result → Shared → Prop} {h0 : Heap} {gs : Array GenState} {dr : Drawn} {tk0 : Nat} {os0 : OsState} {K : PySem.W.Frag} {C ea : Addr} {B newId initId : String} {bmB : List Value}
/-- the first field of an exception: its dict is made -/
theorem xc_store {nm : Str} {tk : Tok} {v : Value} {fv : Array Value} (T : Xc K C B newId initId bmB) (X : K.In h0) (hx : h0.get? ea = some { cls := .ref C, data := .fields fv }) (no : PySem.W.findIn K (.ref C) nm = some none)
    (k : ∀ h1 tk1 dx, (∀ b o, b ≠ ea → h0.get? b = some o → h1.get? b = some o) → h0.objs.size ≤ dx → dx ≠ ea → h1.get? ea = some { cls := .ref C, dict := some dx, data := .fields fv } →
      h1.Ns1 dx (fun y => if y = nm then some v else none) → R (.ok (.ret .none)) ⟨h1, gs, dr, tk1, os0⟩) :
    codeAny (model prog w) A (.call (.builtin "object.__setattr__") ⟨[.ref ea, .str nm tk, v], []⟩) R ⟨h0, gs, dr, tk0, os0⟩ := by
  obtain ⟨cn, q, N, bs, bm, sn, sub, ab, col, dd, k0, k1, k2, k3, k5, hC, hbm⟩ := T.cls
  have hcl : PySem.W.clsIn K C = some { name := cn, bases := bs, mro := .ref C :: bm, ns := N, qualname := q, hasDict := true, slotNames := sn, subclasses := sub, abstract := ab, collection := col, hasDel := false } := by
    unfold PySem.W.clsIn; rw [hC] <;> rfl
  have over : PySem.W.excOver K C bmB = true := by
    unfold PySem.W.excOver
    rw [hcl]
    show (C == C && PySem.W.excTail bmB bm) = true
    rw [hbm, beq_self_eq_true]
    rfl
  have nt : PySem.W.takerIn K C nm = some none := by unfold PySem.W.takerIn; rw [no]; rfl
  have iAt : PySem.W.InstAt h0 ea { cls := .ref C, data := .fields fv } C none := ⟨hx, rfl, rfl, trivial⟩
  have looks : PySem.W.Looks (model prog w) h0 (classData C) _ := PySem.W.looks_clsIn X hcl
  have nes : ea ≠ h0.objs.size := Nat.ne_of_lt (Heap.lt_size hx)
  refine PySem.W.osa_openX (s := ⟨h0, gs, dr, tk0, os0⟩) T.SF X iAt over nt fun b => ?_
  show wpAny _ _ (storeInOwnDict (.ref ea) (.ref C) (.str nm tk) nm v b) _ _ _
  unfold storeInOwnDict ownDictForStores
  repeat (first | with_reducible refine PySem.HandSPX.store_in_new ?_ ?_ | with_reducible refine wpAny_loadPart_at hx ?_ | with_reducible refine looks.at ?_ | wp_step)
  · exact ⟨_, #[], _, (Heap.get?_update_ne _ _ _ _ nes.symm).trans (Heap.get?_push_at rfl rfl), rfl, fun e he => absurd he (by simp), fun _ => rfl⟩
  · intro h1 tk1 hn hs
    have hx1 : (h0.push { cls := .type "dict", data := .dict #[] }).get? ea = some { cls := .ref C, data := .fields fv } := Heap.get?_push_of_some _ hx
    refine k h1 tk1 h0.objs.size (fun b o hb ho => ?_) (Nat.le_refl _) nes.symm ?_ hn
    · rw [hs.2 b (Nat.ne_of_lt (Heap.lt_size ho)), Heap.get?_update_ne _ _ _ _ hb]
      exact Heap.get?_push_of_some _ ho
    · rw [hs.2 ea nes]
      exact Heap.get?_update_self _ hx1 rfl
end
section
variable {X : Cx} {pins : List (Addr × Obj)} {σ : St} {H : Hp} {s : Shared} {ea C : Addr} {fld : Str} {y : V} {u : Value} {E : Value → Shared → Prop} {A : Around} {B newId initId : String} {bmB : List Value}
/-- self.f = y of an exception that is being made -/
theorem xc_ost {Q : Unit → Shared → Prop} (T : Xc X.K C B newId initId bmB) (I : Inv X pins σ H s) (he : H ea = some (exo ea C none)) (no : PySem.W.findIn X.K (.ref C) fld = some none) (ry : RelV y u)
    (k : ∀ dx s', H dx = none → dx ≠ ea → Inv X pins σ (upd (upd H dx (exd dx [(fld, y)])) ea (exo ea C (some dx))) s' → Q () s') : wpAny (model X.prog X.w) A (setAttr (.ref ea) fld u) Q E s := by
  obtain ⟨t1, ho⟩ := exo_at I.hok he
  obtain ⟨h0, gs, dr, tk, os⟩ := s
  refine PySem.W.set_plain I.kIn (ox := { cls := .ref C, dict := none, data := .fields #[.ref t1, .none, .none, .none, .bool false, .none] }) (od := none) ⟨ho, rfl, rfl, trivial⟩ T.sa ?_
  refine xc_store T I.kIn ho no fun h1 tk1 dx kp dn dne hx hn => ?_
  have fresh : H dx = none := I.hok.fresh dn
  have old : ∀ {b : Addr} {o : Obj}, h0.get? b = some o → b ≠ dx := fun {b o} z => Nat.ne_of_lt (Nat.lt_of_lt_of_le (Heap.lt_size z) dn)
  have nea : ∀ {b : Addr}, H b = none → b ≠ ea := fun {b} n z => by
    rw [z, he] at n
    cases n
  have U : Un X.fs [] H (upd (upd H dx (exd dx [(fld, y)])) ea (exo ea C (some dx))) h0 h1 := {
    keep := fun b o z n _ _ => kp b o (nea n) z
    slot := fun b o z n _ _ => ⟨o.slots, kp b o (nea n) z⟩
    free := fun b o z n _ => by rw [upd_ne (nea n), upd_ne (old z)]; exact n
    there := fun b o z _ => by
      by_cases hb : b = ea
      · rw [hb]; exact ⟨_, hx⟩
      · exact ⟨o, kp b o hb z⟩
    tups := fun b xs z => by rw [upd_ne (at_ne he z exo_tup), upd_ne (ne_of_none z fresh)]; exact z
    frzs := fun b o v z => by rw [upd_ne (at_ne he z exo_frz), upd_ne (ne_of_none z fresh)]; exact z
    tbls := fun b ps z => ⟨#[], by rw [upd_ne (at_ne he z exo_tbl), upd_ne (ne_of_none z fresh), z]; simp⟩ }
  refine k dx _ fresh dne (I.un (t' := tk1) U fun b o z => ?_)
  by_cases hb : b = ea
  · subst hb
    rw [upd_same] at z
    cases z
    exact exo_ok hx
  · rw [upd_ne hb] at z
    by_cases hd : b = dx
    · subst hd
      rw [upd_same] at z
      cases z
      exact exd_ok hn (relO_put (fs := []) ry fun g => True.intro)
    · rw [upd_ne hd] at z
      refine (I.hok b o z).stay (fun c v hc z2 => ?_) (fun c hc => ?_) (fun c xs hc => ?_)
      · refine kp c v ?_ z2
        rcases hc with hc | hc
        · rw [hc]; exact hb
        · exact at_ne he hc exo_own
      · rw [upd_ne (at_ne he hc exo_own), upd_ne (ne_of_none hc fresh)]; exact hc
      · rw [upd_ne (at_ne he hc exo_tup), upd_ne (ne_of_none hc fresh)]; exact hc
/-- B.__init__(self, ..) -/
theorem xc_init {us : List Value} {Q : Value → Shared → Prop} (T : Xc X.K C B newId initId bmB) (I : Inv X pins σ H s) (he : H ea = some (exo ea C none)) (hl : us.length ≤ sizeLine) (k : ∀ s', Inv X pins σ H s' → Q .none s') :
    wpAny (model X.prog X.w) A (call (.builtin initId) (.ref ea :: us)) Q E s := by
  obtain ⟨cn, q, N, bs, bm, sn, sub, ab, col, dd, k0, k1, k2, k3, k5, hC, hbm⟩ := T.cls
  obtain ⟨t1, ho⟩ := exo_at I.hok he
  obtain ⟨h0, gs, dr, tk, os⟩ := s
  refine wpAny_call (PySem.HandSPX.init_base T.F (fun Y => PySem.W.excTail_contains Y bm hbm) (I.kIn _ _ hC) ho hl fun h1 t2 kp hx => ?_)
  have J := I.write (t' := tk) (x := ea) (e := ea) (o := exo ea C none) (by rw [he]; exact True.intro) (.inl rfl) kp ⟨_, hx⟩ (exo_ok hx)
  have same : upd H ea (exo ea C none) = H := by
    funext b
    by_cases hb : b = ea
    · rw [hb, upd_same, he]
    · rw [upd_ne hb]
  rw [same] at J
  exact k _ J
/-! ### the rules -/
/-- what B.__init__(self, ..) asks -/
def tXi (K : PySem.W.Frag) (B newId initId : String) (bmB : List Value) (ta : TA) : TE := fun σ H Q => ta σ H fun vs H1 => ∃ (ea C : Addr) (ws : List V), vs = .ref ea :: ws ∧ ws.length ≤ 1000 ∧ Xc K C B newId initId bmB ∧ H1 ea = some (exo ea C none) ∧ Q .non H1
variable {o e : Expr} {es : List Expr} {to te : TE} {ta : TA} {p p' p1 p2 pos : Pos}
theorem pe_xinit {pl : Sem Bool} {bx : Str} (hg : Gl X bx) (hm : X.mg bx = none) (hv : bootBuiltins bx = some (.type B)) (hn : bx ≠ "__name__") (hd : (bx == ("__debug__" : Str)) = false) (tB : typeOf (.type B) = pure (.type "type")) (sB : Manifest.isStub B = false) (vV : PySem.W.findCls X.K (.type B) (.type "type") "__init__" = some (.val (.builtin initId)))
    (ha : PA X (e :: es) ta)
    (hc : eval (.Call (.Attribute (.Name bx p1) "__init__" p2) (e :: es) [] pos) X.env = (do
      let cv ← eval (.Name bx p1) X.env
      standAt p2.atName
      let (mf, fst) ← holding [cv] (getMethod cv "__init__" pl)
      callWith pos mf fst (backTo pos (starEach (e :: es) X.env)) (backToKw pos (keywordEach [] X.env))))
    (hb1 : PySem.W.handedIn (.builtin initId) = true)
    (he : starEach (e :: es) X.env = (false, eval e X.env) :: starEach es X.env) (hpl : (backTo pos (starEach es X.env)).any (·.1) = false) :
    PE X (.Call (.Attribute (.Name bx p1) "__init__" p2) (e :: es) [] pos) (tXi X.K B newId initId bmB ta) := by
  refine ⟨fun pins s σ H Q I h => ?_⟩
  refine PySem.W.methodCall_KW (ld_blt I hg hm hv ?_ hn hd) hc
  obtain ⟨m, fr⟩ := I.fr
  refine PySem.W.method_type fr I.ok.mod.kin tB sB vV hb1 ?_
  refine PyProof.Rows.callWith_method1 (thn (ha.run pos pins _ σ H _ (I.tok _) h) fun us s1 ⟨vs, H1, I1, r1, ea, C, ws, ev, hl, T, he1, q⟩ => ?_) he hpl
  subst ev
  cases r1 with
  | @cons _ u0 _ ur ra rr =>
    obtain rfl : u0 = Value.ref ea := ra
    exact xc_init T I1 he1 (by rw [← Paired.length rr, sizeLine_eq]; omega) fun s' J => ⟨.non, H1, J, rfl, q⟩
/-- self.f = e, of an exception that is being made, the first one -/
def tXo (K : PySem.W.Frag) (f : Str) (to te : TE) : TS := fun D σ H => te σ H fun y H1 => to σ H1 fun x H2 => ∃ (ea C : Addr) (B n i : String) (bmB : List Value), x = .ref ea ∧ Xc K C B n i bmB ∧ PySem.W.findIn K (.ref C) f = some none ∧
  H2 ea = some (exo ea C none) ∧ ∀ dx, H2 dx = none → dx ≠ ea → D.nx σ (upd (upd H2 dx (exd dx [(f, y)])) ea (exo ea C (some dx)))
theorem ps_xo {f : Str} (ho : PE X o to) (he : PE X e te) (hs : swapsWith e (some (.Attribute o f p')) pos.line X.env = pure false) : PS X (.Assign [.Attribute o f p'] e pos) (tXo X.K f to te) := by
  refine ⟨fun pins s σ H D I h => ?_⟩
  refine plainObj_wpAny_Assign_Attribute (thn (he.run pins s σ H _ I h) fun u1 s1 ⟨y, H1, I1, r1, q1⟩ => thn (ho.run pins s1 σ H1 _ I1 q1) fun u2 s2 ⟨x, H2, I2, r2, ea, C, B, n, i, bmB, ex, T, no, h2, q⟩ => ?_) hs
  subst ex
  obtain rfl : u2 = Value.ref ea := r2
  exact xc_ost T I2 h2 no r1 fun dx s' nn ne J => ⟨σ, _, J, q dx nn ne⟩
/-- C(..): what its __init__ keeps; sp: its promise; d: its dict, if a field is stored -/
def tXm (C : Addr) (sp : Sp) (ta : TA) : St → Hp → XK → Prop := fun σ H Q => ta σ H fun vs H1 => vs.length ≤ 1000 ∧ ∀ ea, H1 ea = none → sp (.ref ea :: vs) (upd H1 ea (exo ea C none))
  (fun v H2 => v = .non ∧ ((∃ (d : Addr) (fs : List (Str × V)), H2 ea = some (exo ea C (some d)) ∧ H2 d = some (exd d fs) ∧ H1 d = none ∧ Q (.ref C) (some d) (upd (del H2 ea) d (.xd fs))) ∨
    (H2 ea = some (exo ea C none) ∧ Q (.ref C) none (del H2 ea)))) (fun _ _ _ => False)
/-- .. of a class without fields: the exception is let go -/
theorem xm_end0 {pins : List (Addr × Obj)} {σ : St} {H1 H2 : Hp} {Q : XK} {ha hb hc : Heap} {g1 g2 : Array GenState} {d1 d2 : Drawn} {t1 t2 : Nat} {o1 o2 : OsState} {ea C : Addr} (T : Raises X (.ref C)) (I1 : Inv X pins σ H1 ⟨ha, g1, d1, t1, o1⟩)
    (hsz : ha.objs.size ≤ ea) (k : ∀ b o, ha.get? b = some o → hb.get? b = some o) (un : Un (frs X.stack) [] (upd H1 ea (exo ea C none)) H2 hb hc) (hok : HOk X.prog X.w H2 hc) (ho : o2 = o1) (bare : AllBare g2)
    (he : H2 ea = some (exo ea C none)) (q : Q (.ref C) none (del H2 ea)) : MkP X pins σ Q (.ref ea) ⟨hc, g2, d2, t2, o2⟩ := by
  obtain ⟨t0, hoe⟩ := exo_at hok he
  have nn : H1 ea = none := I1.hok.fresh hsz
  obtain ⟨G, ga, gb⟩ := restrict hc fun b => decide (b ≠ ea)
  have gk : ∀ b, b ≠ ea → G.get? b = hc.get? b := fun b h => ga b (decide_eq_true h)
  have ge : G.get? ea = none := gb ea (by simp)
  have old : ∀ {b : Addr} {o : Obj}, ha.get? b = some o → b ≠ ea := fun {b o} z => Nat.ne_of_lt (Nat.lt_of_lt_of_le (Heap.lt_size z) hsz)
  have up : ∀ {b : Addr}, b ≠ ea → H1 b = none → upd H1 ea (exo ea C none) b = none := fun {b} h n => (upd_ne h).trans n
  have U : Un (frs X.stack) [] H1 (del H2 ea) ha G := {
    keep := fun b o z n hf hx => (gk b (old z)).trans (un.keep b o (k b o z) (up (old z) n) hf hx)
    slot := fun b o z n hf hx => (by
      obtain ⟨sl, e⟩ := un.slot b o (k b o z) (up (old z) n) hf hx
      exact ⟨sl, (gk b (old z)).trans e⟩)
    free := fun b o z n hx => (del_ne (old z)).trans (un.free b o (k b o z) (up (old z) n) hx)
    there := fun b o z hx => (by
      obtain ⟨o2, e⟩ := un.there b o (k b o z) hx
      exact ⟨o2, (gk b (old z)).trans e⟩)
    tups := fun b xs z => (del_ne (ne_of_none z nn)).trans (un.tups b xs ((upd_ne (ne_of_none z nn)).trans z))
    frzs := fun b o v z => (del_ne (ne_of_none z nn)).trans (un.frzs b o v ((upd_ne (ne_of_none z nn)).trans z))
    tbls := fun b ps z => (by
      obtain ⟨qs, e⟩ := un.tbls b ps ((upd_ne (ne_of_none z nn)).trans z)
      exact ⟨qs, (del_ne (ne_of_none z nn)).trans e⟩) }
  have hok3 : HOk X.prog X.w (del H2 ea) G := fun b o z => by
    have hba : b ≠ ea := fun e => by
      rw [e, del_same] at z
      cases z
    rw [del_ne hba] at z
    refine (hok b o z).stay (fun c v hc2 y => ?_) (fun c hc2 => ?_) (fun c xs hc2 => ?_)
    · refine (gk c ?_).trans y
      rcases hc2 with hc2 | hc2
      · rw [hc2]; exact hba
      · exact at_ne he hc2 exo_own
    · exact (del_ne (at_ne he hc2 exo_own)).trans hc2
    · exact (del_ne (at_ne he hc2 exo_tup)).trans hc2
  have J : Inv X pins σ (del H2 ea) ⟨G, g2, d2, t2, o2⟩ := I1.call' (ch := []) ho U hok3 bare (fun b z => absurd z (by simp))
  refine ⟨ea, _, _, ⟨G, g2, d2, t2, o2⟩, _, .ref C, none, rfl, J, fun b o z => ?_, ge, hoe, ⟨rfl, rfl⟩, rfl, rfl, del_same, rfl, bare, T, q⟩
  by_cases hba : b = ea
  · rw [hba, ge] at z
    cases z
  · exact (gk b hba).symm.trans z
/-- the making: type.__call__, then the own __init__ -/
theorem run_xm {CX : CXT} {C fI : Addr} {B newId initId : String} {bmB : List Value} {k : Nat} {fd : FuncData} {ps : List Str} {sp : Sp} {pins : List (Addr × Obj)} {σ : St} {H1 : Hp} {Q : XK} {s1 : Shared} {us : List Value} {vs : List V} (T : Xc X.K C B newId initId bmB)
    (iC : PySem.W.findIn X.K (.ref C) "__init__" = some (some (.ref fI))) (tI : PySem.W.typeIn X.K (.ref fI) = some (.type "function"))
    (F1 : FnOk X.prog X.w X.K X.mg X.base CX k fI fd ps sp) (hr : Room (k + 1) X.A) (hb : ∀ (s : Shared) (us : List Value), X.K.In s.heap → us.length = ps.length → BindsTo s fd ⟨us, []⟩ (ps.zip us)) (hx : Passes CX X (fun _ _ _ => False))
    (I1 : Inv X pins σ H1 s1) (r1 : Vals vs us) (hz : vs.length ≤ 1000)
    (q1 : ∀ ea, H1 ea = none → sp (.ref ea :: vs) (upd H1 ea (exo ea C none))
      (fun v H2 => v = .non ∧ ((∃ (d : Addr) (fs : List (Str × V)), H2 ea = some (exo ea C (some d)) ∧ H2 d = some (exd d fs) ∧ H1 d = none ∧ Q (.ref C) (some d) (upd (del H2 ea) d (.xd fs))) ∨
        (H2 ea = some (exo ea C none) ∧ Q (.ref C) none (del H2 ea)))) (fun _ _ _ => False)) :
    wpAny (model X.prog X.w) X.A (call (.ref C) us) (MkP X pins σ Q) X.xe s1 := by
  obtain ⟨cn, q, N, bs, bm, sn, sub, ab, col, dd, k0, k1, k2, k3, k5, hC, hbm⟩ := T.cls
  obtain ⟨ha, gs, dr, tk, os⟩ := s1
  have hsz : ha.objs.size ≤ ha.objs.size + 1 := Nat.le_succ _
  have nn : H1 (ha.objs.size + 1) = none := I1.hok.fresh hsz
  have hq := q1 (ha.objs.size + 1) nn
  have kk : ∀ b o, ha.get? b = some o → ((ha.push (PySem.W.kdv_tup us)).push (PySem.HandSPX.excO C ha.objs.size)).get? b = some o := fun b o z => Heap.get?_push_of_some _ (Heap.get?_push_of_some _ z)
  have got : ((ha.push (PySem.W.kdv_tup us)).push (PySem.HandSPX.excO C ha.objs.size)).get? (ha.objs.size + 1) = some (PySem.HandSPX.excO C ha.objs.size) := by heap_get
  have I2 : Inv X pins σ (upd H1 (ha.objs.size + 1) (exo (ha.objs.size + 1) C none)) ⟨(ha.push (PySem.W.kdv_tup us)).push (PySem.HandSPX.excO C ha.objs.size), gs, dr, tk, os⟩ :=
    I1.laid (t' := tk) (a := ha.objs.size + 1) (o := exo (ha.objs.size + 1) C none) (h' := (ha.push (PySem.W.kdv_tup us)).push (PySem.HandSPX.excO C ha.objs.size)) kk hsz (exo_ok got)
  have r2 : Vals (V.ref (ha.objs.size + 1) :: vs) (Value.ref (ha.objs.size + 1) :: us) := .cons rfl r1
  have hl : (Value.ref (ha.objs.size + 1) :: us).length = ps.length := r2.length.symm.trans (F1.len _ _ _ _ hq)
  have hus : us.length ≤ sizeLine := by
    rw [← Paired.length r1, sizeLine_eq] <;> omega
  refine wpAny_call (PySem.HandSPX.call_own T.F (fun Y => PySem.W.excTail_contains Y bm hbm) (I1.kIn _ _ hC) (PySem.W.looks_findIn I1.kIn iC) (fun self => PySem.W.bind_fn I1.kIn self tI) hus
    (codeAny_mono (F1.run _ X.stack _ _ ⟨Value.ref (ha.objs.size + 1) :: us, []⟩ (Value.ref (ha.objs.size + 1) :: us) _ _ (fun _ _ _ => False) (hr.make C us []) (I2.env0.make C us []) (hb _ _ I2.kIn hl) r2 hq) fun r s' hq' => ?_))
  cases r with
  | error er => exact hx pins σ _ _ er s' I2 hq'
  | ok fl =>
    cases fl with
    | ret u =>
      obtain ⟨v, H2, ho, bare, un, hok, rv, ev, q2⟩ := hq'
      subst ev
      obtain ⟨h2, g2, d2, t2, os'⟩ := s'
      rcases q2 with ⟨d, fs, e1, e2, hd, q2⟩ | ⟨e1, q2⟩
      · exact ⟨rv, mk_end (raises_own T.exC T.tyC) I1 hsz kk un hok ho bare e1 e2 hd q2⟩
      · exact ⟨rv, xm_end0 (raises_own T.exC T.tyC) I1 hsz kk un hok ho bare e1 q2⟩
    | _ => exact False.elim hq'
section
variable {CX : CXT} {x : Str} {C fI : Addr} {B newId initId : String} {bmB : List Value} {k : Nat} {fd : FuncData} {ps : List Str} {sp : Sp}
theorem pmk_xm (T : Xc X.K C B newId initId bmB) (iC : PySem.W.findIn X.K (.ref C) "__init__" = some (some (.ref fI))) (tI : PySem.W.typeIn X.K (.ref fI) = some (.type "function"))
    (F1 : FnOk X.prog X.w X.K X.mg X.base CX k fI fd ps sp) (hr : Room (k + 1) X.A) (hb : ∀ (s : Shared) (us : List Value), X.K.In s.heap → us.length = ps.length → BindsTo s fd ⟨us, []⟩ (ps.zip us)) (hx : Passes CX X (fun _ _ _ => False))
    (hg : Gl X x) (hm : X.mg x = some (.ref C)) (ha : PA X (e :: es) ta)
    (hdb : (x == ("__debug__" : Str)) = false) (he : starEach (e :: es) X.env = (false, eval e X.env) :: starEach es X.env) (hpl : (backTo pos (starEach es X.env)).any (·.1) = false) :
    PMk X (.Call (.Name x p) (e :: es) [] pos) (tXm C sp ta) := by
  intro pins s σ H Q I h
  refine wpAny_Call_Name_kw (ld_glob I hg hm ?_ hdb)
  refine PySem.W.callWith_K (h₀ := X.base) I.ok.mod.kin T.kC (thn (ha.run pos pins s σ H _ I h) fun us s1 ⟨vs, H1, I1, r1, hz, q1⟩ => ⟨I1.kIn, ?_⟩) he hpl
  exact run_xm T iC tI F1 hr hb hx I1 r1 hz q1
theorem pmk_xm0 (T : Xc X.K C B newId initId bmB) (iC : PySem.W.findIn X.K (.ref C) "__init__" = some (some (.ref fI))) (tI : PySem.W.typeIn X.K (.ref fI) = some (.type "function"))
    (F1 : FnOk X.prog X.w X.K X.mg X.base CX k fI fd ps sp) (hr : Room (k + 1) X.A) (hb : ∀ (s : Shared) (us : List Value), X.K.In s.heap → us.length = ps.length → BindsTo s fd ⟨us, []⟩ (ps.zip us)) (hx : Passes CX X (fun _ _ _ => False))
    (hg : Gl X x) (hm : X.mg x = some (.ref C)) (hdb : (x == ("__debug__" : Str)) = false) :
    PMk X (.Call (.Name x p) [] [] pos) (tXm C sp (fun σ H Q => Q [] H)) := by
  intro pins s σ H Q I h
  refine wpAny_Call_Name_kw (ld_glob I hg hm ?_ hdb)
  refine PySem.W.callWith_K0 I.kIn T.kC ?_
  exact run_xm T iC tI F1 hr hb hx I .nil (Nat.zero_le _) h.2
end
end
end G

namespace G
open PySem PySem.Spec PyProof.Rows L2
/-! ### an exception that is kept: tracked (xk: GRel) -/
theorem xk_ok {P : Program} {w : World} {H : Hp} {h : Heap} {a : Addr} {cls : Value} {d : Option Addr} {oe : Obj} {vs : Array Value} (e : h.get? a = some oe) (z : Zc cls d oe) (q : oe.data = .fields vs) : ObjOk P w H h a (xk a cls d) :=
  ⟨⟨oe, vs, e, z, q⟩, ⟨oe, e⟩, fun _ _ ⟨o, v, q1, r⟩ k => ⟨o, v, k o q1, r⟩⟩
theorem xk_at {P : Program} {w : World} {H : Hp} {h : Heap} {a : Addr} {cls : Value} {d : Option Addr} (hok : HOk P w H h) (e : H a = some (xk a cls d)) : ∃ (oe : Obj) (vs : Array Value), h.get? a = some oe ∧ Zc cls d oe ∧ oe.data = .fields vs := by
  have x : ObjOk P w H h a (.ext fun h => ∃ (oe : Obj) (vs : Array Value), h.get? a = some oe ∧ Zc cls d oe ∧ oe.data = .fields vs) := hok a _ e
  exact x.1
section
variable {X : Cx} {pins : List (Addr × Obj)} {σ : St} {H : Hp} {s : Shared}
/-- an object that was not there at the entry is tracked from now on -/
theorem inv_track {a : Addr} {o : HO} {oe : Obj} {vs : Array Value} (I : Inv X pins σ H s) (na : H a = none) (n0 : X.s_0.heap.get? a = none) (nL : a ≠ X.env.locals) (he : s.heap.get? a = some oe) (hd : oe.data = .fields vs) (np : ∀ p ∈ X.pn ++ pins, p.1 ≠ a)
    (ok : ObjOk X.prog X.w (upd H a o) s.heap a o) : Inv X pins σ (upd H a o) s := by
  have nb : ∀ {b : Addr} {u : HO}, H b = some u → b ≠ a := fun {b u} e z => by rw [z, na] at e; cases e
  have n1 : ∀ {b : Addr} {u : Obj}, X.s_0.heap.get? b = some u → b ≠ a := fun {b u} e z => by rw [z, n0] at e; cases e
  refine ⟨I.ok, I.os, I.bare, ⟨I.base.keep, I.base.slot, fun b u e n hx => ?_, I.base.there, fun b xs e => ?_, fun b u v e => ?_, fun b ps e => ?_⟩, I.loc, I.cell, ?_, fun y c e => ?_, fun p hp => ?_, ?_, I.len⟩
  · rw [upd_ne (n1 e)]; exact I.base.free b u e n hx
  · have q := I.base.tups b xs e
    rw [upd_ne (nb q)]; exact q
  · have q := I.base.frzs b u v e
    rw [upd_ne (nb q)]; exact q
  · obtain ⟨m, q⟩ := I.base.tbls b ps e
    exact ⟨m, by rw [upd_ne (nb q)]; exact q⟩
  · rw [upd_ne (Ne.symm nL)]; exact I.free
  · have hc : c ≠ a := fun z => by
      obtain ⟨v, q⟩ := I.cell y c e
      obtain ⟨o2, q1, q2⟩ := q
      rw [z, he] at q1
      cases q1
      rw [hd] at q2
      cases q2
    rw [upd_ne hc]; exact I.freeC y c e
  · obtain ⟨e1, e2, e3⟩ := I.pin p hp
    exact ⟨e1, by rw [upd_ne (np p hp)]; exact e2, e3⟩
  · exact I.hok.laidN (fun b u e => e) na ok
/-- the context of an except suite; the exception is tracked -/
abbrev cxSuite (X : Cx) (a : Addr) (pn : List (Addr × Obj)) : Cx := { X with A := X.A.mark (some (.ref a)), calm := false, pn := pn, xe := fun _ _ => False }
theorem inv_suite (I : Inv X pins σ H s) (a : Addr) : Inv (cxSuite X a (X.pn ++ pins)) [] σ H s :=
  ⟨I.ok.suite _ _, I.os, I.bare, I.base, I.loc, I.cell, I.free, I.freeC, fun p hp => I.pin p (by rw [List.append_nil] at hp; exact hp), I.hok, I.len⟩
theorem inv_unsuite {a : Addr} {pn' : List (Addr × Obj)} (I : Inv (cxSuite X a (X.pn ++ pins)) pn' σ H s) (ok : X.Ok) : Inv X pins σ H s :=
  ⟨ok, I.os, I.bare, I.base, I.loc, I.cell, I.free, I.freeC, fun p hp => I.pin p (List.mem_append_left _ hp), I.hok, I.len⟩
end
/-! ### the classes that a clause names -/
/-- te gives the class, or the tuple of classes, cs -/
def TestOk (X : Cx) (te : Expr) (cs : List Value) : Prop :=
  ∀ (a : Addr) (pn : List (Addr × Obj)) (σ : St) (H : Hp) (s : Shared) (cls : Value) (b : Bool) (Q : Bool → Shared → Prop) (E : Value → Shared → Prop), Inv (cxSuite X a pn) [] σ H s → PySem.W.Looks (model X.prog X.w) s.heap (typeOf (.ref a)) cls → PySem.W.exmAny X.K cls cs = some b →
    (∀ h', (∀ q o, s.heap.get? q = some o → h'.get? q = some o) → Q b { s with heap := h' }) → wpAny (model X.prog X.w) (X.A.mark (some (.ref a))) (eval te X.env) (fun c s1 => wpAny (model X.prog X.w) (X.A.mark (some (.ref a))) (excMatches (.ref a) c) Q E s1) E s
section
variable {X : Cx} {x x1 x2 x3 x4 : Str} {c c1 c2 c3 c4 : Value} {p p1 p2 p3 p4 tp : Pos} {n : Nat}
theorem name_ld {a : Addr} {pn : List (Addr × Obj)} {σ : St} {H : Hp} {s : Shared} {Q : Value → Shared → Prop} {E : Value → Shared → Prop} (I : Inv (cxSuite X a pn) [] σ H s) (hc : Names X x c) (q : Q c s) : wpAny (model X.prog X.w) (X.A.mark (some (.ref a))) (eval (.Name x p) X.env) Q E s := by
  obtain ⟨hg, hdbg, hm | ⟨hm, hv, hnn⟩⟩ := hc
  · exact ld_glob (X := cxSuite X a pn) I hg hm q hdbg
  · exact ld_blt (X := cxSuite X a pn) I hg hm hv q hnn hdbg
theorem exmAny_one {K : PySem.W.Frag} {cls c : Value} {b : Bool} (h : PySem.W.exmAny K cls [c] = some b) : PySem.W.exmOne K cls c = some b := by
  obtain ⟨b1, d1, h1, h2, rfl⟩ := PySem.W.exmAny_cons h
  cases h2
  rw [Bool.or_false]
  exact h1
theorem test1 (n1 : Names X x c) : TestOk X (.Name x p) [c] := fun a pn σ H s cls b Q E I LT he q =>
  name_ld I n1 ((PySem.W.exm_one I.kIn LT (exmAny_one he)).here (q s.heap fun _ _ z => z))
theorem test2 (n1 : Names X x1 c1) (n2 : Names X x2 c2) : TestOk X (.Tuple [.Name x1 p1, .Name x2 p2] n tp) [c1, c2] := fun a pn σ H s cls b Q E I LT he q => by
  refine wpAny_Tuple (wpAny_items_cons (name_ld I n1 (wpAny_items_cons (name_ld I n2 (wpAny_items_nil ⟨by size_fits, ?_⟩)))))
  have kp : ∀ b o, s.heap.get? b = some o → (s.heap.push { cls := .type "tuple", data := .seq [c1, c2].toArray }).get? b = some o := fun _ _ z => Heap.get?_push_of_some _ z
  exact (PySem.W.exm_tup2 (I.kIn.keeps kp) (LT.keeps kp) (Heap.get?_push_size s.heap rfl) he).here (q _ kp)
theorem test3 (n1 : Names X x1 c1) (n2 : Names X x2 c2) (n3 : Names X x3 c3) : TestOk X (.Tuple [.Name x1 p1, .Name x2 p2, .Name x3 p3] n tp) [c1, c2, c3] := fun a pn σ H s cls b Q E I LT he q => by
  refine wpAny_Tuple (wpAny_items_cons (name_ld I n1 (wpAny_items_cons (name_ld I n2 (wpAny_items_cons (name_ld I n3 (wpAny_items_nil ⟨by size_fits, ?_⟩)))))))
  have kp : ∀ b o, s.heap.get? b = some o → (s.heap.push { cls := .type "tuple", data := .seq [c1, c2, c3].toArray }).get? b = some o := fun _ _ z => Heap.get?_push_of_some _ z
  exact (PySem.W.exm_tup3 (I.kIn.keeps kp) (LT.keeps kp) (Heap.get?_push_size s.heap rfl) he).here (q _ kp)
theorem test4 (n1 : Names X x1 c1) (n2 : Names X x2 c2) (n3 : Names X x3 c3) (n4 : Names X x4 c4) : TestOk X (.Tuple [.Name x1 p1, .Name x2 p2, .Name x3 p3, .Name x4 p4] n tp) [c1, c2, c3, c4] := fun a pn σ H s cls b Q E I LT he q => by
  refine wpAny_Tuple (wpAny_items_cons (name_ld I n1 (wpAny_items_cons (name_ld I n2 (wpAny_items_cons (name_ld I n3 (wpAny_items_cons (name_ld I n4 (wpAny_items_nil ⟨by size_fits, ?_⟩)))))))))
  have kp : ∀ b o, s.heap.get? b = some o → (s.heap.push { cls := .type "tuple", data := .seq [c1, c2, c3, c4].toArray }).get? b = some o := fun _ _ z => Heap.get?_push_of_some _ z
  exact (PySem.W.exm_tup4 (I.kIn.keeps kp) (LT.keeps kp) (Heap.get?_push_size s.heap rfl) he).here (q _ kp)
end
/-- what the clause wishes of an exception of the body; behind the suite the name (slot i) is gone -/
def wTry (K : PySem.W.Frag) (cs : List Value) (i : Nat) (ts : Addr → TS) (Wout : WX) (D : Ends) : WX := fun cls d σ H =>
  ∃ b, PySem.W.exmAny K cls cs = some b ∧ (b = true → ∀ a, H a = none → ts a { nx := fun σ' H' => D.nx (σ'.set i none) H', rt := D.rt, bk := fun σ' H' => D.bk (σ'.set i none) H', ct := fun σ' H' => D.ct (σ'.set i none) H' } (σ.set i (some (.ref a))) (upd H a (xk a cls d))) ∧
    (b = false → Wout cls d σ H)
section
variable {X : Cx} {n : Str} {te : Expr} {cs : List Value} {i : Nat} {body suite : List Stmt} {b₀ : Stmt} {pos pos' : Pos} {tb : WX → TS} {ts : Addr → TS} {Wout : WX}
theorem ps_try_x (hs : X.stack = X.env :: X.outer) (hf : X.env.frame = some X.env.locals) (hex : X.ex = []) (hN : X.N.Nodup) (hi : X.N[i]? = some n) (hln : X.env.kindOf n = some .local) (ht : TestOk X te cs) (tk : Takes X Wout)
    (hb : ∀ (W : WX) (pn : List (Addr × Obj)) (xe : Value → Shared → Prop), Takes (X.tr pn xe) W → PassesOwn (model X.prog X.w) X.A X.env xe → PSs (X.tr pn xe) body (tb W))
    (hsu : ∀ (a : Addr) (pn : List (Addr × Obj)), PSs (cxSuite X a pn) (b₀ :: suite) (ts a)) :
    PS X (.Try body [.ExceptHandler (some te) (some n) (b₀ :: suite) pos'] [] [] pos) (fun D σ H => tb (wTry X.K cs i ts Wout D) D σ H) := by
  refine ⟨fun pins s σ H D I h => wpAny_Try_except ?_⟩
  have ok := I.ok
  have hfr : X.A.frames = some (X.env :: X.outer) := by rw [ok.frames, hs]
  have hloc : Loc X.env.scope n := .inl hln
  have run := (hb (wTry X.K cs i ts Wout D) (X.pn ++ pins) (fun e s1 => wpAny (model X.prog X.w) X.A (noteFrame e X.env) (fun _ s2 => wpAny (model X.prog X.w) X.A (setFlight e none) (fun _ s3 =>
    wpAny (model X.prog X.w) X.A (handleBy e X.env [.ExceptHandler (some te) (some n) (b₀ :: suite) pos']) (SP X pins D) X.xe s3) X.xe s2) X.xe s1) (fun u s' xx => ?_) PassesOwn.looking).run [] s σ H D (I.toTry _) h
  · refine wpAny_mono run (fun f s1 q => ?_) fun _ _ z => z
    cases f with
    | ret u =>
      obtain ⟨v, σ1, H1, J, r, q⟩ := q
      exact ⟨v, σ1, H1, J.ofTry ok, r, q⟩
    | next =>
      obtain ⟨σ1, H1, J, q⟩ := q
      exact wpAny_execs_nil ⟨σ1, H1, J.ofTry ok, q⟩
    | brk =>
      obtain ⟨σ1, H1, J, q⟩ := q
      exact ⟨σ1, H1, J.ofTry ok, q⟩
    | cont =>
      obtain ⟨σ1, H1, J, q⟩ := q
      exact ⟨σ1, H1, J.ofTry ok, q⟩
  obtain ⟨a, B, sI, pins1, σ1, H1, cls, d, rfl, J0, nb, up, sky, na, os, ag, b, hb1, yes, no⟩ := xx
  have J : Inv X pins σ1 H1 sI := J0.ofTry ok
  have sky1 : Sky B (X.env :: X.outer) a (Zc cls d) X.env.locals s'.heap := by rw [← hs]; exact sky
  show wpAny (model X.prog X.w) X.A (noteFrame (.ref a) X.env) _ _ _
  refine Sky.land Zc.steady hfr hf sky1 fun h3 fl3 up3 => ?_
  have J3 : Inv X pins σ1 H1 { s' with heap := h3 } := J.landed nb fl3.1 (up.trans up3) os ag
  obtain ⟨oe3, vs3, he3, hz3, hd3⟩ := fl3.there
  have nfr : a ∉ frs (X.env :: X.outer) := fun hm => by
    obtain ⟨_, o', e', hnf⟩ := fl3.2.2.1.mem hm
    rw [he3] at e'
    cases e'
    exact hnf _ hd3
  have nL : a ≠ X.env.locals := fun z => nfr (List.mem_filterMap.mpr ⟨X.env, List.mem_cons_self, by rw [hf, z]⟩)
  have nI : ∀ o, sI.heap.get? a ≠ some o := fun o e => by
    have q := nb a o e (by rw [hs]; exact nfr)
    rw [fl3.2.1] at q
    cases q
  have n0 : X.s_0.heap.get? a = none := by
    cases e : X.s_0.heap.get? a with
    | none => rfl
    | some o =>
      obtain ⟨o2, q⟩ := J.base.there a o e (by rw [hex]; simp)
      exact absurd q (nI o2)
  have np : ∀ p ∈ X.pn ++ pins, p.1 ≠ a := fun p hp z => nI p.2 (by rw [← z]; exact (J.pin p hp).1)
  refine wpAny_handleBy_cons (codeAny_handlers_test ?_) (by intro q; cases q)
  have LT : PySem.W.Looks (model X.prog X.w) h3 (typeOf (.ref a)) cls := fun A Q E s k q => wpAny_typeOf_ref (k _ _ he3) (by rw [hz3.1]; exact q)
  refine ht a (X.pn ++ pins) σ1 H1 { s' with heap := h3 } cls b _ _ (inv_suite J3 a) LT hb1 fun h4 k4 => ?_
  have fl4 : PySem.HandSPX.FlyingZ B (X.env :: X.outer) a (Zc cls d) h4 := by
    obtain ⟨f1, f2, f3, oe, ws, T, oT, zs, e1, e2, e3, e4, e5, e6, e7, e8, e9⟩ := fl3
    exact ⟨fun b o q => k4 b o (f1 b o q), f2, f3.of_keeps fun b o q _ => ⟨o, k4 b o q, rfl⟩, oe, ws, T, oT, zs, k4 _ _ e1, e2, e3, e4, e5, e6, k4 _ _ e7, e8, e9⟩
  have up4 : sI.heap.UpToSlots h4 := (up.trans up3).trans (Heap.UpToSlots.of_keeps k4)
  cases b with
  | true =>
    refine codeAny_handlers_suite_as (PySem.HandSPX.lands_againZ fl4 fun h5 fl5 up5 => ?_)
    have J5 : Inv X pins σ1 H1 { s' with heap := h5 } := J.landed nb fl5.1 (up4.trans up5) os ag
    obtain ⟨oe5, vs5, he5, hz5, hd5⟩ := fl5.there
    have T5 : Inv X pins σ1 (upd H1 a (xk a cls d)) { s' with heap := h5 } := inv_track J5 na n0 nL he5 hd5 np (xk_ok he5 hz5 hd5)
    refine store_ok (X := cxSuite X a (X.pn ++ pins)) (v := .ref a) (inv_suite T5 a) hN hi hloc rfl (fun s6 S6 => ?_) (.inr hln)
    refine wpAny_mono ((hsu a (X.pn ++ pins)).run [] s6 _ _ _ S6 (yes rfl a na)) (fun f s7 q => ?_) (fun _ _ z => False.elim z)
    have behind : ∀ {σ7 : St} {H7 : Hp} {Q : Shared → Prop}, Inv (cxSuite X a (X.pn ++ pins)) [] σ7 H7 s7 → (∀ s8, Inv X pins (σ7.set i none) H7 s8 → Q s8) →
        wpAny (model X.prog X.w) X.A (do bindName X.env n .none; unbindBehindTheSuite X.env n pos') (fun _ s8 => Q s8) X.xe s7 := fun {σ7 H7 Q} S7 hq => gone_ok (inv_unsuite S7 ok) hN hi hln hq
    cases f with
    | ret u =>
      obtain ⟨v7, σ7, H7, S7, r7, q7⟩ := q
      exact behind S7 fun s8 J8 => ⟨_, _, _, J8, r7, q7⟩
    | next =>
      obtain ⟨σ7, H7, S7, q7⟩ := q
      exact behind S7 fun s8 J8 => ⟨_, _, J8, q7⟩
    | brk =>
      obtain ⟨σ7, H7, S7, q7⟩ := q
      exact behind S7 fun s8 J8 => ⟨_, _, J8, q7⟩
    | cont =>
      obtain ⟨σ7, H7, S7, q7⟩ := q
      exact behind S7 fun s8 J8 => ⟨_, _, J8, q7⟩
  | false =>
    show wpAny _ X.A (handleBy (.ref a) X.env []) _ _ _
    refine wpAny_handleBy_nil ?_
    obtain ⟨k1, k2, k3, oe, ws, T, oT, zs, e1, e2, e3, e4, e5⟩ := id fl4
    unfold PySem.passOn
    refine wpAny_bind (wpAny_field e1 e3 e4 ?_)
    rw [if_neg (show ¬ ((Value.ref T == Value.none) = true) from by simp)]
    have fin : wpAny (model X.prog X.w) X.A (setFlight (.ref a) X.env.frame) (fun _ s6 => wpAny (model X.prog X.w) X.A (throw (.ref a) : Sem Flow) (SP X pins D) X.xe s6) X.xe { s' with heap := h4 } := by
      rw [hf]
      refine PySem.HandSPX.setFlight_upZ fl4 fun h6 hh6 up6 => wpAny_throw (tk _ _ ?_)
      exact ⟨a, B, sI, pins, σ1, H1, cls, d, rfl, J, nb, up4.trans up6, .inr (.inr (by rw [hs]; exact hh6)), na, os, ag, no rfl⟩
    first
      | exact wpAny_bind (wpAny_pure (wpAny_bind fin))
      | exact wpAny_bind fin
end
end G

namespace G
open PySem PySem.Spec PySem.Calls PyProof.Rows L2
open PySem.W (Frag Looks InstAt findIn subIn specialIn takesIn mroIn hasDictIn clsIn findObj looks_findIn looks_find looks_subIn KitX check_slot)
/-! ### isinstance of a tracked exception, and its fields -/
section
variable {prog : Program} {w : World} {A : Around} {E : Value → Shared → Prop} {s : Shared} {K : Frag} {x D : Addr} {ox : Obj} {od : Option Obj}
theorem xc_find (T : ExcC K D) : findObj K D od "__class__" = some (.bind (.builtin "getset_descriptor.__get__") (.builtin "object.__class__")) := by
  have hc : (clsIn K D).isSome = true := by
    obtain ⟨cd, hc, _⟩ := PySem.W.any_some T.hd
    rw [hc]; rfl
  cases od with
  | none => exact PySem.W.findObj_dataN hc T.ha T.hn T.ht
  | some o => exact PySem.W.findObj_data hc T.ha T.hn T.ht
theorem xc_class {Q : Option Value → Shared → Prop} (T : ExcC K D) (X : K.In s.heap) (I : InstAt s.heap x ox D od) (h : Q (some (.ref D)) { s with toks := s.toks + 1 }) : wpAny (model prog w) A (getAttr? (.ref x) "__class__") Q E s := by
  obtain ⟨h0, gs, dr, tk, os⟩ := s
  have t0 := I.type (M := model prog w)
  have t1 := looks_findIn (M := model prog w) X T.hg
  have t2 := looks_findIn (M := model prog w) X T.hk
  have t3 := looks_find (M := model prog w) X I (xc_find (od := od) T)
  have isB : Looks (model prog w) h0 (isInstance (.ref x) (.type "BaseException")) true := t0.andThen (looks_subIn X T.hs)
  have ne2 : (Value.builtin "BaseException.__getattribute__" == Value.builtin "object.__getattribute__") = false := by decide +kernel
  have ne1 : (onTheHeap (Value.ref D) && Value.builtin "BaseException.__getattribute__" == Value.builtin "object.__getattribute__") = false := by rw [ne2, Bool.and_false]
  unfold getAttr? getAttrBy? getAttrBy
  refine wpAny_bind (wpAny_mkText (wpAny_bind (wpAny_attempt (wpAny_holding (wpAny_bind (t0.at (wpAny_bind (t1.at ?_))))))))
  show wpAny _ _ (ite ((onTheHeap (Value.ref D) && Value.builtin "BaseException.__getattribute__" == Value.builtin "object.__getattribute__") = true) _ _) _ _ _
  rw [ne1, if_neg Bool.false_ne_true]
  unfold getAttrByItsOwn hookBefore
  refine wpAny_bind ?_
  have onH : onTheHeap (Value.ref D) = true := rfl
  rw [if_pos onH]
  refine t2.at (wpAny_bind (wpAny_attempt (wpAny_holding ?_)))
  unfold callGetattribute
  rw [show (false && onTheHeap (Value.builtin "BaseException.__getattribute__")) = false from rfl, if_neg Bool.false_ne_true]
  unfold boundAndCalled
  rw [PySem.F.excAttr_ValueError.ga.bind (.ref x)]
  refine wpAny_bind (wpAny_pure ?_)
  show wpAny _ _ (call (.builtin "BaseException.__getattribute__") (Value.ref x :: [Value.str "__class__" tk])) _ _ _
  refine wpAny_call (codeAny_call_builtin PySem.F.excAttr_ValueError.ga.plain PySem.F.entry_bexc_ga (@check_slot (model prog w) _ _ ⟨h0, gs, dr, tk + 1, os⟩ "BaseException.__getattribute__" "BaseException" "__getattribute__" (.ref x) (.str "__class__" tk :: []) [] _ (by decide +kernel) (by decide +kernel) isB (PySem.F.args_bexc_ga (.ref x) (.str "__class__" tk)) ?_))
  unfold Builtin.«object.__getattribute__»
  refine wpAny_bind (wpAny_of_eq (a := ((.ref x : Value), [.str "__class__" tk])) (by first | rfl | (simp only [slotArgs]; rfl)) ?_)
  refine wpAny_bind (wpAny_pure (wpAny_bind (t0.at (wpAny_bind (t3.at ?_)))))
  show wpAny _ _ (holding [Value.builtin "object.__class__"] (call (.builtin "getset_descriptor.__get__") (.builtin "object.__class__" :: .ref x :: .ref D :: [])) >>= ret) _ _ _
  refine wpAny_bind (wpAny_holding (wpAny_call (PySem.W.class_get (s := ⟨h0, gs, dr, tk + 1, os⟩) (ox := ox) (od := od) X I T.hm ?_)))
  refine wpAny_pure ?_
  show wpAny _ _ (handedOut (.ref D)) _ _ _
  rw [PySem.W.handedOut_of (v := Value.ref D) rfl]
  first
    | exact wpAny_pure (wpAny_pure h)
    | exact wpAny_pure h
    | exact wpAny_pure (wpAny_bind (wpAny_pure (wpAny_pure h)))
theorem xc_kit (T : ExcC K D) : KitX K (.ref x) (.ref D) (fun h => ∃ ox od, InstAt h x ox D od) where
  ty := fun _ _ _ ⟨_, _, I⟩ => I.type
  it := fun _ _ X _ => by
    obtain ⟨cd, hc, _⟩ := PySem.W.any_some T.hd
    unfold clsIn at hc
    split at hc
    · rename_i c1 d1 cd1 sl1 ho
      intro A1 Q1 E1 s1 k q
      unfold isType loadHead
      exact wpAny_bind (wpAny_loadPart (k _ _ (X _ _ ho)) (wpAny_pure q))
    · cases hc
  ne := fun h tp dd its n sl X htp => by
    refine Bool.eq_false_iff.mpr fun q => ?_
    obtain rfl : D = tp := Value.ref.inj (beq_iff_eq.mp q)
    obtain ⟨cd, hc, _⟩ := PySem.W.any_some T.hd
    unfold clsIn at hc
    split at hc
    · rename_i c1 d1 cd1 sl1 ho
      have z := (X _ _ ho).symm.trans htp
      cases z
    · cases hc
  ca := fun X ⟨_, _, I⟩ k => xc_class T X I k
end
section
variable {X : Cx} {a D : Addr}
/-- the object stands -/
theorem xk_inst {pins : List (Addr × Obj)} {σ : St} {H : Hp} {s : Shared} {d : Option Addr} (I : Inv X pins σ H s) (e : H a = some (xk a (.ref D) d)) (hd : ∀ dd, d = some dd → ∃ fs, H dd = some (.xd fs)) : ∃ ox od, InstAt s.heap a ox D od := by
  obtain ⟨oe, vs, he, ⟨z1, z2⟩, q⟩ := xk_at I.hok e
  have nc : PySem.W.notCls oe = true := by unfold PySem.W.notCls; rw [q] <;> rfl
  cases d with
  | none => exact ⟨oe, none, he, z1, nc, by rw [z2]; trivial⟩
  | some dd =>
    obtain ⟨fs, e2⟩ := hd dd rfl
    obtain ⟨mA, hns, hr⟩ := (show ObjOk X.prog X.w H s.heap dd (.xd fs) from I.hok dd _ e2)
    obtain ⟨o2, ho, hl⟩ := lookIn_ns hns
    exact ⟨oe, some o2, he, z1, nc, by rw [z2]; exact ho⟩
def rIsX (K : Frag) : List V → Hp → VK → Prop := fun xs H Q => ∃ (a D : Addr) (d : Option Addr) (c : V) (cv : Value) (b : Bool), xs = [.ref a, c] ∧ ExcC K D ∧ H a = some (xk a (.ref D) d) ∧ (∀ dd, d = some dd → ∃ fs, H dd = some (.xd fs)) ∧ ClsV c cv ∧ PySem.W.kitOne K (.ref D) cv = some b ∧ Q (.bl b) H
theorem call_isX : CallR X (.builtin "isinstance") (rIsX X.K) := by
  intro pins s σ H xs us Q I r h
  obtain ⟨a, D, d, c, cv, b, rfl, T, e, hd, hc, k, q⟩ := h
  obtain ⟨u1, u2, rfl, r1, r2⟩ := vals2 r
  obtain rfl : u1 = Value.ref a := r1
  have e2 := hc.eq r2
  subst e2
  exact PySem.W.kia_one (xc_kit T) I.kIn (xk_inst I e hd) k (fun z => nomatch z) fun tk => ⟨.bl b, H, I.tok tk, rfl, q⟩
/-- e.f, e a tracked exception -/
def tXfld (K : Frag) (f : Str) (te : TE) : TE := fun σ H Q => te σ H fun x H1 => ∃ (a D dd : Addr) (fs : List (Str × V)) (v : V), x = .ref a ∧ XfC K D ∧ findIn K (.ref D) f = some none ∧ H1 a = some (xk a (.ref D) (some dd)) ∧ H1 dd = some (.xd fs) ∧ fs.lookup f = some v ∧ Q v H1
theorem pe_xfld {e : Expr} {te : TE} {pos : Pos} {n : Str} (he : PE X e te) (hb : attributeBase e n X.env (eval e X.env) = eval e X.env) : PE X (.Attribute e n pos) (tXfld X.K n te) := by
  refine ⟨fun pins s σ H Q I h => attr_of hb (thn (he.run pins s σ H _ I h) fun u s1 hh => ?_)⟩
  obtain ⟨x, H1, I1, rx, a, D, dd, fs, v, ex, T, no, e1, e2, l, q⟩ := hh
  subst ex
  obtain rfl : u = Value.ref a := rx
  obtain ⟨oe, vs, hx, ⟨z1, z2⟩, hq⟩ := xk_at I1.hok e1
  obtain ⟨mA, hns, hr⟩ := (show ObjOk X.prog X.w H1 s1.heap dd (.xd fs) from I1.hok dd _ e2)
  obtain ⟨o2, ho, hl⟩ := lookIn_ns hns
  obtain ⟨u, hu, ru⟩ := RelO.some_of (v := v) (o := mA n) (by rw [← l]; exact hr n)
  have J : InstAt s1.heap a oe D (some o2) := ⟨hx, z1, by unfold PySem.W.notCls; rw [hq] <;> rfl, by rw [z2]; exact ho⟩
  exact PySem.HandSPX.exc_get I1.kIn J T.ga T.gg T.exC (PySem.W.findObj_own T.hdC no rfl (by rw [hl, hu])) (handed_of ru) ⟨v, H1, I1.tok _, ru, q⟩
end
end G

namespace G
open PySem PySem.Spec PySem.Calls PyProof.Rows L2
open PySem.W (Frag findIn subIn typeIn keepIn kitOne exmOne exmAny)
/-! ### own exception classes: what must be known of them -/
def baseS : Nat → Str
  | 1 => "ValueError"
  | 2 => "LookupError"
  | 3 => "RuntimeError"
  | _ => "OverflowError"
def baseN : Nat → String
  | 1 => "ValueError"
  | 2 => "LookupError"
  | 3 => "RuntimeError"
  | _ => "OverflowError"
def newN : Nat → String
  | 1 => "ValueError.__new__"
  | 2 => "LookupError.__new__"
  | 3 => "RuntimeError.__new__"
  | _ => "OverflowError.__new__"
def iniN : Nat → String
  | 1 => "ValueError.__init__"
  | 2 => "LookupError.__init__"
  | 3 => "RuntimeError.__init__"
  | _ => "OverflowError.__init__"
def baseM : Nat → List Value
  | 1 => [.type "ValueError", .type "Exception", .type "BaseException", .type "object"]
  | 2 => [.type "LookupError", .type "Exception", .type "BaseException", .type "object"]
  | 3 => [.type "RuntimeError", .type "Exception", .type "BaseException", .type "object"]
  | _ => [.type "OverflowError", .type "ArithmeticError", .type "Exception", .type "BaseException", .type "object"]
theorem base_facts (b : Nat) : ExcBaseFacts (baseN b) (newN b) (iniN b) (baseM b) ∧ StoreFacts (baseN b) (baseM b) "object.__setattr__" "object" := by
  match b with
  | 1 => exact ⟨PySem.F.excBase_ValueError, PySem.F.store_ValueError⟩
  | 2 => exact ⟨PySem.F.excBase_LookupError, PySem.F.store_LookupError⟩
  | 3 => exact ⟨PySem.F.excBase_RuntimeError, PySem.F.store_RuntimeError⟩
  | 0 => exact ⟨PySem.F.excBase_OverflowError, PySem.F.store_OverflowError⟩
  | n + 4 => exact ⟨PySem.F.excBase_OverflowError, PySem.F.store_OverflowError⟩
theorem base_boot (b : Nat) : bootBuiltins (baseS b) = some (.type (baseN b)) := by
  match b with
  | 1 => rfl
  | 2 => rfl
  | 3 => rfl
  | 0 => rfl
  | n + 4 => rfl
theorem base_name (b : Nat) : baseS b ≠ "__name__" ∧ (baseS b == ("__debug__" : Str)) = false := by
  match b with
  | 1 => decide
  | 2 => decide
  | 3 => decide
  | 0 => decide
  | n + 4 => exact ⟨by show ("OverflowError" : Str) ≠ _; decide, by show (("OverflowError" : Str) == _) = false; decide⟩
structure ExRow where
  c : Nat
  b : Nat
  nf : Nat
  fl : List Nat
def tyns : List String := ["NoneType", "bool", "int", "str", "tuple", "list"]
def bss : List Nat := [1, 2, 3, 4]
def xcB (K : Frag) (D : Addr) (b : Nat) : Bool := (match K.lookup D with
  | some ⟨.type "type", _, .cls cd, sl⟩ => (match cd.mro, sl.toList with
    | .ref C' :: bm, [_, _, _, _, some (.builtin n), _] => C' == D && n == newN b && !cd.hasDel && PySem.W.excTail (baseM b) bm && cd.hasDict
    | _, _ => false)
  | _ => false) && (decide (findIn K (.ref D) "__setattr__" = some (some (.builtin "object.__setattr__"))) && (decide (subIn K (.ref D) (.type "BaseException") = some true) && (decide (typeIn K (.ref D) = some (.type "type")) && keepIn K (.ref D))))
theorem xcB_ok {K : Frag} {D : Addr} {b : Nat} (h : xcB K D b = true) : Xc K D (baseN b) (newN b) (iniN b) (baseM b) := by
  obtain ⟨h1, h⟩ := Bool.and_eq_true_iff.mp h
  obtain ⟨h2, h⟩ := Bool.and_eq_true_iff.mp h
  obtain ⟨h3, h⟩ := Bool.and_eq_true_iff.mp h
  obtain ⟨h4, h5⟩ := Bool.and_eq_true_iff.mp h
  refine ⟨(base_facts b).1, (base_facts b).2, ?_, of_decide_eq_true h2, of_decide_eq_true h3, of_decide_eq_true h4, h5⟩
  split at h1
  · rename_i dd cd sl ho
    split at h1
    · rename_i C' bm k0 k1 k2 k3 n k5 hm hs
      simp only [Bool.and_eq_true, beq_iff_eq, Bool.not_eq_true'] at h1
      obtain ⟨⟨⟨⟨rfl, rfl⟩, hdel⟩, ht⟩, hdc⟩ := h1
      obtain ⟨nm, bs, mro, ns, qn, hd, sn, sub, ab, col, del⟩ := cd
      dsimp only at hm hdel hdc
      subst hm hdel hdc
      have hsl : sl = #[k0, k1, k2, k3, some (.builtin (newN b)), k5] := by
        obtain ⟨l⟩ := sl
        simp only at hs
        rw [hs]
      subst hsl
      exact ⟨nm, qn, ns, bs, bm, sn, sub, ab, col, dd, k0, k1, k2, k3, k5, ho, ht⟩
    · cases h1
  · cases h1
def excB (K : Frag) (D : Addr) : Bool :=
  decide (findIn K (.ref D) "__getattribute__" = some (some (.builtin "BaseException.__getattribute__"))) && (decide (findIn K (.ref D) "__getattr__" = some none) && (decide (subIn K (.ref D) (.type "BaseException") = some true) && (PySem.W.hasDictIn K D &&
  (decide (findIn K (.ref D) "__class__" = some (some (.builtin "object.__class__"))) && (decide (PySem.W.specialIn K (.builtin "object.__class__") "__get__" = some (some (.builtin "getset_descriptor.__get__"))) && (decide (PySem.W.takesIn K (.builtin "object.__class__") = some true) && decide (PySem.W.mroIn K D (.type "object") = some true)))))))
theorem excB_ok {K : Frag} {D : Addr} (h : excB K D = true) : ExcC K D := by
  obtain ⟨h1, h⟩ := Bool.and_eq_true_iff.mp h
  obtain ⟨h2, h⟩ := Bool.and_eq_true_iff.mp h
  obtain ⟨h3, h⟩ := Bool.and_eq_true_iff.mp h
  obtain ⟨h4, h⟩ := Bool.and_eq_true_iff.mp h
  obtain ⟨h5, h⟩ := Bool.and_eq_true_iff.mp h
  obtain ⟨h6, h⟩ := Bool.and_eq_true_iff.mp h
  obtain ⟨h7, h8⟩ := Bool.and_eq_true_iff.mp h
  exact ⟨of_decide_eq_true h1, of_decide_eq_true h2, of_decide_eq_true h3, h4, of_decide_eq_true h5, of_decide_eq_true h6, of_decide_eq_true h7, of_decide_eq_true h8⟩
structure ExF (K : Frag) (xs : List ExRow) (r : ExRow) : Prop where
  xc : Xc K (clsA K r.c) (baseN r.b) (newN r.b) (iniN r.b) (baseM r.b)
  ex : ExcC K (clsA K r.c)
  xf : XfC K (clsA K r.c)
  nf : findIn K (.ref (clsA K r.c)) (fldN r.c) = some none
  kit : ∀ q ∈ xs, kitOne K (.ref (clsA K r.c)) (.ref (clsA K q.c)) = some (decide (q.c = r.c))
  kitB : ∀ b ∈ bss, kitOne K (.ref (clsA K r.c)) (.type (baseN b)) = some (decide (b = r.b))
  exm : ∀ q ∈ xs, exmOne K (.ref (clsA K r.c)) (.ref (clsA K q.c)) = some (decide (q.c = r.c))
  exmB : ∀ b ∈ bss, exmOne K (.ref (clsA K r.c)) (.type (baseN b)) = some (decide (b = r.b))
  pl : ∀ t ∈ tyns, kitOne K (.type t) (.ref (clsA K r.c)) = some false
  plB : ∀ t ∈ tyns, ∀ b ∈ bss, kitOne K (.type t) (.type (baseN b)) = some false
  ini : findIn K (.ref (clsA K r.c)) "__init__" = some (some (.ref (He.ma K (clsA K r.c) "__init__")))
  iniT : typeIn K (.ref (He.ma K (clsA K r.c) "__init__")) = some (.type "function")
def exFB (K : Frag) (xs : List ExRow) (r : ExRow) : Bool :=
  xcB K (clsA K r.c) r.b && (excB K (clsA K r.c) && (xfB K (clsA K r.c) && (decide (findIn K (.ref (clsA K r.c)) (fldN r.c) = some none) && (
  xs.all (fun q => decide (kitOne K (.ref (clsA K r.c)) (.ref (clsA K q.c)) = some (decide (q.c = r.c)))) && (
  bss.all (fun b => decide (kitOne K (.ref (clsA K r.c)) (.type (baseN b)) = some (decide (b = r.b)))) && (
  xs.all (fun q => decide (exmOne K (.ref (clsA K r.c)) (.ref (clsA K q.c)) = some (decide (q.c = r.c)))) && (
  bss.all (fun b => decide (exmOne K (.ref (clsA K r.c)) (.type (baseN b)) = some (decide (b = r.b)))) && (
  tyns.all (fun t => decide (kitOne K (.type t) (.ref (clsA K r.c)) = some false)) && (
  tyns.all (fun t => bss.all fun b => decide (kitOne K (.type t) (.type (baseN b)) = some false)) && (
  decide (findIn K (.ref (clsA K r.c)) "__init__" = some (some (.ref (He.ma K (clsA K r.c) "__init__")))) && decide (typeIn K (.ref (He.ma K (clsA K r.c) "__init__")) = some (.type "function"))))))))))))
theorem all_dec {α : Type} {p : α → Prop} [DecidablePred p] {l : List α} (h : l.all (fun x => decide (p x)) = true) : ∀ x ∈ l, p x := fun x hx => of_decide_eq_true (List.all_eq_true.mp h x hx)
theorem exFB_ok {K : Frag} {xs : List ExRow} {r : ExRow} (h : exFB K xs r = true) : ExF K xs r := by
  obtain ⟨h1, h⟩ := Bool.and_eq_true_iff.mp h
  obtain ⟨h2, h⟩ := Bool.and_eq_true_iff.mp h
  obtain ⟨h3, h⟩ := Bool.and_eq_true_iff.mp h
  obtain ⟨h4, h⟩ := Bool.and_eq_true_iff.mp h
  obtain ⟨h5, h⟩ := Bool.and_eq_true_iff.mp h
  obtain ⟨h6, h⟩ := Bool.and_eq_true_iff.mp h
  obtain ⟨h7, h⟩ := Bool.and_eq_true_iff.mp h
  obtain ⟨h8, h⟩ := Bool.and_eq_true_iff.mp h
  obtain ⟨h9, h⟩ := Bool.and_eq_true_iff.mp h
  obtain ⟨h10, h⟩ := Bool.and_eq_true_iff.mp h
  obtain ⟨h11, h12⟩ := Bool.and_eq_true_iff.mp h
  exact ⟨xcB_ok h1, excB_ok h2, xfB_ok h3, of_decide_eq_true h4, all_dec h5, all_dec h6, all_dec h7, all_dec h8, all_dec h9, fun t ht => all_dec (List.all_eq_true.mp h10 t ht), of_decide_eq_true h11, of_decide_eq_true h12⟩
/-! ### the own __init__, walked -/
def iniSp (C : Addr) (nf : Nat) (f : Str) : Sp := fun vs H Q _ => ∃ ea, H ea = some (exo ea C none) ∧
  if nf = 0 then vs = [.ref ea] ∧ Q .non H else ∃ y, vs = [.ref ea, y] ∧ ∀ dx, H dx = none → dx ≠ ea → Q .non (upd (upd H dx (exd dx [(f, y)])) ea (exo ea C (some dx)))
structure IniRow where
  qual : Str
  params : Arguments
  body : List Stmt
  scope : Scope
  ps : List Str
def iniB (r : ExRow) (i : IniRow) : Bool := match i.body with
  | [.Expr (.Call (.Attribute (.Name bx _) m p2) [.Name s1 _, .Constant (.str _) _ _] [] p5) _, .Assign [.Attribute (.Name s2 _) f _] (.Name a _) _] =>
    decide (r.nf ≠ 0) && decide (bx = baseS r.b) && decide (m = "__init__") && decide (f = fldN r.c) && decide (i.ps = [s1, a]) && decide (s2 = s1) && dbg s1 && dbg a && decide (i.scope.names.lookup s1 = some .local) && decide (i.scope.names.lookup a = some .local) && decide (i.scope.names.lookup bx = some .globalImplicit) && (p2.endLine == p5.line)
  | [.Expr (.Call (.Attribute (.Name bx _) m p2) [.Name s1 _, .Constant (.str _) _ _] [] p5) _] =>
    decide (r.nf = 0) && decide (bx = baseS r.b) && decide (m = "__init__") && decide (i.ps = [s1]) && dbg s1 && decide (i.scope.names.lookup s1 = some .local) && decide (i.scope.names.lookup bx = some .globalImplicit) && (p2.endLine == p5.line)
  | _ => false
where dbg (x : Str) : Bool := !(x == ("__debug__" : Str)) && !(x == ("__classdict__" : Str))
def iniScB (i : IniRow) : Bool := decide (i.scope.kind = .function) && !i.scope.isCoroutine && !i.scope.isGenerator && decide (i.ps.Nodup) &&
    (i.ps.all fun x => decide (i.scope.names.lookup x = some .local)) && (i.scope.names.all fun y => decide (y.2 ≠ .free))
end G

namespace G
open PySem PySem.Spec PySem.Calls PyProof.Rows L2
open PySem.W (Frag findIn subIn typeIn keepIn kitOne exmOne exmAny)
theorem base_cls (K : Frag) (b : Nat) : PySem.W.findCls K (.type (baseN b)) (.type "type") "__init__" = some (.val (.builtin (iniN b))) := by
  match b with
  | 1 => kernel_rfl
  | 2 => kernel_rfl
  | 3 => kernel_rfl
  | 0 => kernel_rfl
  | n + 4 => show PySem.W.findCls K (.type "OverflowError") (.type "type") "__init__" = some (.val (.builtin "OverflowError.__init__")); kernel_rfl
theorem base_handed (b : Nat) : PySem.W.handedIn (.builtin (iniN b)) = true := by
  match b with
  | 1 => kernel_rfl
  | 2 => kernel_rfl
  | 3 => kernel_rfl
  | 0 => kernel_rfl
  | n + 4 => show PySem.W.handedIn (.builtin "OverflowError.__init__") = true; kernel_rfl
theorem base_ty (b : Nat) : typeOf (.type (baseN b)) = pure (.type "type") := by
  match b with
  | 1 => rfl
  | 2 => rfl
  | 3 => rfl
  | 0 => rfl
  | n + 4 => rfl
theorem base_stub (b : Nat) : Manifest.isStub (baseN b) = false := by
  match b with
  | 1 => decide +kernel
  | 2 => decide +kernel
  | 3 => decide +kernel
  | 0 => decide +kernel
  | n + 4 => show Manifest.isStub "OverflowError" = false; decide +kernel
theorem hc_of {bx m : Str} {p1 p2 pos : Pos} {es : List Expr} {env : PySem.Env} (hline : (p2.endLine == pos.line) = true) (hform : methodCallForm (es.length + ([] : List Keyword).length) (backTo pos (starEach es env)) (backToKw pos (keywordEach [] env)) = true) : eval (.Call (.Attribute (.Name bx p1) m p2) es [] pos) env = (do
      let cv ← eval (.Name bx p1) env
      standAt p2.atName
      let (mf, fst) ← holding [cv] (getMethod cv m (do return (← importBound (.Name bx p1) env).getD true))
      callWith pos mf fst (backTo pos (starEach es env)) (backToKw pos (keywordEach [] env))) := by
  have hpos : methodCallPos true (.Name bx p1) env p2 pos = pure pos := by unfold methodCallPos; simp [hline]
  show (eval (.Name bx p1) env >>= fun ov => standAt p2.atName >>= fun _ => methodCall (.Name bx p1) m p2 pos env ov (es.length + ([] : List Keyword).length) (backTo pos (starEach es env)) (backToKw pos (keywordEach [] env))) = _
  unfold methodCall
  rw [hform]
  simp only [hpos]
  rfl
theorem iniSc_of {i : IniRow} (h : iniScB i = true) : FnScope i.ps i.ps i.scope := by
  unfold iniScB at h
  simp only [Bool.and_eq_true, decide_eq_true_eq, List.all_eq_true, Bool.not_eq_true'] at h
  obtain ⟨⟨⟨⟨⟨h1, h2⟩, h3⟩, h4⟩, h5⟩, h6⟩ := h
  exact ⟨h1, h2, h3, h4, by simp, fun x hx => .inl (h5 x hx), h6⟩
theorem iniSp_len {C : Addr} {nf : Nat} {f : Str} {vs : List V} {H : Hp} {Q : VK} {E : XK} (h : iniSp C nf f vs H Q E) : vs.length = if nf = 0 then 1 else 2 := by
  obtain ⟨ea, _, h⟩ := h
  by_cases hn : nf = 0
  · rw [if_pos hn] at h ⊢
    rw [h.1]; rfl
  · rw [if_neg hn] at h ⊢
    obtain ⟨y, rfl, _⟩ := h
    rfl
theorem dbg_ok {x : Str} (h : iniB.dbg x = true) : (x == ("__debug__" : Str)) = false ∧ (x == ("__classdict__" : Str)) = false := by
  unfold iniB.dbg at h
  simpa using h
section
variable {Pr : Program} {w : World} {K : Frag} {mg : Str → Option Value} {base : Heap}
theorem ini_ok {xs : List ExRow} {r : ExRow} {i : IniRow} {fI : Addr} {fd : FuncData} (F : FunD K "__init__" i.qual i.params i.body i.scope [] [] fI fd) (hB : iniB r i = true) (hS : iniScB i = true) (T : ExF K xs r) (hm : mg (baseS r.b) = none) :
    FnOk Pr w K mg base (L2.CX Pr w) 1 fI fd i.ps (iniSp (clsA K r.c) r.nf (fldN r.c)) := by
  have S := iniSc_of hS
  unfold iniB at hB
  split at hB
  · rename_i bx p1 m p2 s1 p3 st j p4 p5 p6 s2 p7 f p8 a p9 p10 hbody
    simp only [Bool.and_eq_true, decide_eq_true_eq] at hB
    obtain ⟨⟨⟨⟨⟨⟨⟨⟨⟨⟨⟨hnf, rfl⟩, rfl⟩, rfl⟩, hps⟩, rfl⟩, hd1⟩, hd2⟩, l1⟩, l2⟩, l3⟩, hln⟩ := hB
    have D1 := dbg_ok hd1
    have D2 := dbg_ok hd2
    refine F.ok S (fun vs H Q E h => by rw [iniSp_len h, if_neg hnf, hps]; rfl) fun cdv A outer s H vs Q E hr h => ?_
    obtain ⟨ea, he, h⟩ := h
    rw [if_neg hnf] at h
    obtain ⟨y, rfl, hq⟩ := h
    rw [hbody]
    have hv1 : Vis i.scope s2 := .inl l1
    have hv2 : Vis i.scope a := .inl l2
    have n0 : i.ps[0]? = some s2 := by rw [hps]; rfl
    have n1 : i.ps[1]? = some a := by rw [hps]; rfl
    let X := cxOf (L2.CX Pr w) Pr w K mg base i.ps i.qual i.scope fI cdv A outer s H E
    have e1 : PE X (.Name s2 p3) (tVar 0) := pe_var n0 hv1 D1.1 D1.2
    have e2 : PE X (.Name s2 p7) (tVar 0) := pe_var n0 hv1 D1.1 D1.2
    have e3 : PE X (.Name a p9) (tVar 1) := pe_var n1 hv2 D2.1 D2.2
    have hg : Gl X (baseS r.b) := l3
    have c1 := pe_xinit (X := X) (pos := p5) (p1 := p1) (p2 := p2) (bx := baseS r.b) (B := baseN r.b) (newId := newN r.b) (initId := iniN r.b) (bmB := baseM r.b) hg hm (base_boot r.b) (base_name r.b).1 (base_name r.b).2 (base_ty r.b) (base_stub r.b) (base_cls K r.b)
      (pa_cons e1 (pa_cons (pe_str (x := st) (j := j) (pos := p4)) pa_nil)) (hc_of hln rfl) (base_handed r.b) rfl rfl
    refine ⟨_, pss_cons (ps_expr c1 rfl) (pss_cons (ps_xo (p' := p8) (pos := p10) e2 e3 rfl) pss_nil), ?_⟩
    have s0 : (L2.start i.ps [.ref ea, y])[0]? = some (some (.ref ea)) := by rw [hps]; rfl
    have s1 : (L2.start i.ps [.ref ea, y])[1]? = some (some y) := by rw [hps]; rfl
    refine ⟨.ref ea, s0, ea, clsA K r.c, [.str st], rfl, by show 1 ≤ 1000; decide, T.xc, he, ?_⟩
    exact ⟨y, s1, .ref ea, s0, ea, clsA K r.c, _, _, _, _, rfl, T.xc, T.nf, he, fun dx h1 h2 => hq dx h1 h2⟩
  · rename_i bx p1 m p2 s1 p3 st j p4 p5 p6 hbody
    simp only [Bool.and_eq_true, decide_eq_true_eq] at hB
    obtain ⟨⟨⟨⟨⟨⟨⟨hnf, rfl⟩, rfl⟩, hps⟩, hd1⟩, l1⟩, l3⟩, hln⟩ := hB
    have D1 := dbg_ok hd1
    refine F.ok S (fun vs H Q E h => by rw [iniSp_len h, if_pos hnf, hps]; rfl) fun cdv A outer s H vs Q E hr h => ?_
    obtain ⟨ea, he, h⟩ := h
    rw [if_pos hnf] at h
    obtain ⟨rfl, hq⟩ := h
    rw [hbody]
    have hv1 : Vis i.scope s1 := .inl l1
    have n0 : i.ps[0]? = some s1 := by rw [hps]; rfl
    let X := cxOf (L2.CX Pr w) Pr w K mg base i.ps i.qual i.scope fI cdv A outer s H E
    have e1 : PE X (.Name s1 p3) (tVar 0) := pe_var n0 hv1 D1.1 D1.2
    have hg : Gl X (baseS r.b) := l3
    have c1 := pe_xinit (X := X) (pos := p5) (p1 := p1) (p2 := p2) (bx := baseS r.b) (B := baseN r.b) (newId := newN r.b) (initId := iniN r.b) (bmB := baseM r.b) hg hm (base_boot r.b) (base_name r.b).1 (base_name r.b).2 (base_ty r.b) (base_stub r.b) (base_cls K r.b)
      (pa_cons e1 (pa_cons (pe_str (x := st) (j := j) (pos := p4)) pa_nil)) (hc_of hln rfl) (base_handed r.b) rfl rfl
    refine ⟨_, pss_cons (ps_expr c1 rfl) pss_nil, ?_⟩
    have s0 : (L2.start i.ps [.ref ea])[0]? = some (some (.ref ea)) := by rw [hps]; rfl
    exact ⟨.ref ea, s0, ea, clsA K r.c, [.str st], rfl, by show 1 ≤ 1000; decide, T.xc, he, hq⟩
  · cases hB
end
end G

namespace G
open PySem PySem.Spec PySem.Calls PyProof.Rows L2
open PySem.W (Frag findIn subIn typeIn keepIn kitOne exmOne exmAny)
/-! ### what is known of the exception classes of a program -/
structure ExAll (K : Frag) (mg : Str → Option Value) (P : Prog) (xs : List ExRow) : Prop where
  F : ∀ r ∈ xs, ExF K xs r
  nm : ∀ r ∈ xs, mg (clsN r.c) = some (.ref (clsA K r.c)) ∧ (clsN r.c == ("__debug__" : Str)) = false
  bs : ∀ r ∈ xs, P.base r.c = r.b
  fl : ∀ r ∈ xs, P.flds r.c = r.fl
  cov : ∀ c, P.base c ≠ 0 → ∃ r ∈ xs, r.c = c
structure IniT (Pr : Program) (w : World) (K : Frag) (mg : Str → Option Value) (base : Heap) (r : ExRow) : Prop where
  ex : ∃ (fd : FuncData) (ps : List Str), FnOk Pr w K mg base (L2.CX Pr w) 1 (He.ma K (clsA K r.c) "__init__") fd ps (iniSp (clsA K r.c) r.nf (fldN r.c)) ∧
    ∀ (s : Shared) (us : List Value), K.In s.heap → us.length = ps.length → BindsTo s fd ⟨us, []⟩ (ps.zip us)
/-- a class in a test: built-in (true) or own -/
def qNm (q : Bool × Nat) : Str := if q.1 then baseS q.2 else clsN q.2
def qV (K : Frag) (q : Bool × Nat) : V := if q.1 then .ty (baseN q.2) else .ref (clsA K q.2)
def qVal (K : Frag) (q : Bool × Nat) : Value := if q.1 then .type (baseN q.2) else .ref (clsA K q.2)
def hit (P : Prog) (c : Nat) (q : Bool × Nat) : Bool := if q.1 then decide (q.2 = P.base c) else decide (q.2 = c)
def qOk (xs : List ExRow) (q : Bool × Nat) : Bool := if q.1 then decide (q.2 ∈ bss) else xs.any fun r => decide (r.c = q.2)
theorem qV_cls {K : Frag} {q : Bool × Nat} : ClsV (qV K q) (qVal K q) := by
  unfold qV qVal
  cases q.1
  · exact .own _
  · exact .ty _
section
variable {K : Frag} {mg : Str → Option Value} {P : Prog} {xs : List ExRow} {c : Nat} {q : Bool × Nat}
theorem ExAll.row (T : ExAll K mg P xs) (h : P.base c ≠ 0) : ∃ r ∈ xs, r.c = c ∧ ExF K xs r ∧ P.base c = r.b := by
  obtain ⟨r, hr, rfl⟩ := T.cov c h
  exact ⟨r, hr, rfl, T.F r hr, T.bs r hr⟩
theorem own_row (hq : qOk xs q = true) (h : q.1 = false) : ∃ r ∈ xs, r.c = q.2 := by
  unfold qOk at hq
  rw [if_neg (by rw [h]; exact Bool.false_ne_true)] at hq
  obtain ⟨r, hr, e⟩ := List.any_eq_true.mp hq
  exact ⟨r, hr, of_decide_eq_true e⟩
theorem base_row (hq : qOk xs q = true) (h : q.1 = true) : q.2 ∈ bss := by
  unfold qOk at hq
  rw [if_pos h] at hq
  exact of_decide_eq_true hq
theorem exm_q (T : ExAll K mg P xs) (h : P.base c ≠ 0) (hq : qOk xs q = true) : exmOne K (.ref (clsA K c)) (qVal K q) = some (hit P c q) := by
  obtain ⟨r, hr, rfl, F, hb⟩ := T.row h
  unfold qVal hit
  cases e : q.1 with
  | true =>
    rw [if_pos rfl, if_pos rfl, F.exmB _ (base_row hq e), hb]
  | false =>
    obtain ⟨r2, hr2, e2⟩ := own_row hq e
    rw [if_neg Bool.false_ne_true, if_neg Bool.false_ne_true, ← e2]
    exact F.exm r2 hr2
theorem kit_q (T : ExAll K mg P xs) (h : P.base c ≠ 0) (hq : qOk xs q = true) : kitOne K (.ref (clsA K c)) (qVal K q) = some (hit P c q) := by
  obtain ⟨r, hr, rfl, F, hb⟩ := T.row h
  unfold qVal hit
  cases e : q.1 with
  | true =>
    rw [if_pos rfl, if_pos rfl, F.kitB _ (base_row hq e), hb]
  | false =>
    obtain ⟨r2, hr2, e2⟩ := own_row hq e
    rw [if_neg Bool.false_ne_true, if_neg Bool.false_ne_true, ← e2]
    exact F.kit r2 hr2
theorem exm_any (T : ExAll K mg P xs) (h : P.base c ≠ 0) : ∀ {cs : List (Bool × Nat)}, (∀ q ∈ cs, qOk xs q = true) → exmAny K (.ref (clsA K c)) (cs.map (qVal K)) = some (cs.any (hit P c))
  | [], _ => rfl
  | q :: cs, hq => by
    rw [List.map_cons, List.any_cons]
    unfold exmAny
    rw [exm_q T h (hq q List.mem_cons_self), exm_any T h fun q m => hq q (List.mem_cons_of_mem _ m)]
theorem kit_any (T : ExAll K mg P xs) (h : P.base c ≠ 0) : ∀ {cs : List (Bool × Nat)}, (∀ q ∈ cs, qOk xs q = true) → PySem.W.kitAny K (.ref (clsA K c)) (cs.map (qVal K)) = some (cs.any (hit P c))
  | [], _ => rfl
  | q :: cs, hq => by
    rw [List.map_cons, List.any_cons]
    refine kitAny_cons (kit_q T h (hq q List.mem_cons_self)) (fun hb => ?_) (fun hb => by rw [hb]; rfl)
    rw [hb, Bool.false_or]
    exact kit_any T h fun q m => hq q (List.mem_cons_of_mem _ m)
/-- .. of a plain value -/
theorem kit_pl (T : ExAll K mg P xs) (hx : xs ≠ []) {t : String} (ht : t ∈ tyns) (hq : qOk xs q = true) : kitOne K (.type t) (qVal K q) = some false := by
  unfold qVal
  cases e : q.1 with
  | true =>
    rw [if_pos rfl]
    cases xs with
    | nil => exact absurd rfl hx
    | cons r xs => exact (T.F r List.mem_cons_self).plB t ht _ (base_row hq e)
  | false =>
    obtain ⟨r2, hr2, e2⟩ := own_row hq e
    rw [if_neg Bool.false_ne_true, ← e2]
    exact (T.F r2 hr2).pl t ht
theorem kit_plAny (T : ExAll K mg P xs) (hx : xs ≠ []) {t : String} (ht : t ∈ tyns) : ∀ {cs : List (Bool × Nat)}, (∀ q ∈ cs, qOk xs q = true) → PySem.W.kitAny K (.type t) (cs.map (qVal K)) = some false
  | [], _ => rfl
  | q :: cs, hq => by
    rw [List.map_cons]
    refine kitAny_cons (kit_pl T hx ht (hq q List.mem_cons_self)) (fun _ => ?_) (fun hb => by cases hb)
    exact kit_plAny T hx ht fun q m => hq q (List.mem_cons_of_mem _ m)
end
/-! ### raise -/
section
variable {P : Prog} {C : Nat → List PV → Store → R PV} {G : Nm} {X : Cx} {A : Nat → Bool} {W : WX} {k : Nat} {p pos pos2 : Pos} {e : Expr} {m : ME} {xs : List ExRow} {r : ExRow}
theorem Good.passF (g : Good k X W) : Passes (L2.CX X.prog X.w) X (fun _ _ _ => False) := passes_call g.tk fun _ _ _ _ h => h.elim
theorem two_upd {H1 : Hp} {ea dx : Addr} {o : HO} {o1 o2 o3 : HO} (n : H1 ea = none) (ne : dx ≠ ea) : upd (del (upd (upd (upd H1 ea o1) dx o2) ea o3) ea) dx o = upd H1 dx o := by
  funext b
  by_cases hd : b = dx
  · rw [hd, upd_same, upd_same]
  · rw [upd_ne hd, upd_ne hd]
    by_cases he : b = ea
    · rw [he, del_same, n]
    · rw [del_ne he, upd_ne he, upd_ne hd, upd_ne he]
theorem one_upd {H1 : Hp} {ea : Addr} {o1 : HO} (n : H1 ea = none) : del (upd H1 ea o1) ea = H1 := by
  funext b
  by_cases he : b = ea
  · rw [he, del_same, n]
  · rw [del_ne he, upd_ne he]
theorem ss_raise1 (g : Good k X W) (h2 : 2 ≤ k) (T : ExAll X.K X.mg P xs) (hr : r ∈ xs) (It : IniT X.prog X.w X.K X.mg X.base r) (hnf : r.nf ≠ 0) (hg : Gl X (clsN r.c)) (h : SE P C G X W e m) (hs : starEach [e] X.env = (false, eval e X.env) :: starEach [] X.env) :
    SS P C G X A W (.Raise (some (.Call (.Name (clsN r.c) p) [e] [] pos)) none pos2) (.raise r.c [m]) := by
  have F := T.F r hr
  obtain ⟨fd, ps, F1, hb⟩ := It.ex
  refine PS.imp (ps_raise g.calm g.tk (pmk_xm F.xc F.ini F.iniT F1 (Room.mono g.room h2) hb g.passF hg (T.nm r hr).1 (pa_cons h pa_nil hs) (T.nm r hr).2 hs rfl)) fun D σ H q => ?_
  obtain ⟨B, M, env, S, st, q⟩ := q
  simp only [exS, evL, R.bind_assoc] at q
  refine tE_thenS st q fun p1 S1 x M1 H1 e1 b1 st1 r1 q1 => ?_
  refine ⟨by show 1 ≤ 1000; decide, fun ea hea => ⟨ea, upd_same, ?_⟩⟩
  rw [if_neg hnf]
  refine ⟨x, rfl, fun dx hdx hne => ⟨rfl, .inl ⟨dx, [(fldN r.c, x)], upd_same, (upd_ne hne).trans upd_same, by rw [upd_ne hne] at hdx; exact hdx, ?_⟩⟩⟩
  rw [two_upd hea hne]
  rw [upd_ne hne] at hdx
  have ex : Ext B M1 H1 B M1 (upd H1 dx (.xd [(fldN r.c, x)])) := ext_new hdx
  exact q1 _ _ σ M1 _ .refl ex (upd_bsy st1.s hdx) (st1.s.new hdx) ⟨rfl, dx, x, rfl, upd_same, (st1.s.free hdx).1, (st1.s.free hdx).2, r1.mv ex⟩
theorem ss_raise0 (g : Good k X W) (h2 : 2 ≤ k) (T : ExAll X.K X.mg P xs) (hr : r ∈ xs) (It : IniT X.prog X.w X.K X.mg X.base r) (hnf : r.nf = 0) (hg : Gl X (clsN r.c)) :
    SS P C G X A W (.Raise (some (.Call (.Name (clsN r.c) p) [] [] pos)) none pos2) (.raise r.c []) := by
  have F := T.F r hr
  obtain ⟨fd, ps, F1, hb⟩ := It.ex
  refine PS.imp (ps_raise g.calm g.tk (pmk_xm0 F.xc F.ini F.iniT F1 (Room.mono g.room h2) hb g.passF hg (T.nm r hr).1 (T.nm r hr).2)) fun D σ H q => ?_
  obtain ⟨B, M, env, S, st, q⟩ := q
  simp only [exS, evL] at q
  refine ⟨Nat.zero_le _, fun ea hea => ⟨ea, upd_same, ?_⟩⟩
  rw [if_pos hnf]
  refine ⟨rfl, rfl, .inr ⟨upd_same, ?_⟩⟩
  rw [one_upd hea]
  exact q _ _ σ M H .refl .refl (fun _ _ => rfl) st.s ⟨rfl, rfl⟩
end
end G

namespace G
open PySem PySem.Spec PySem.Calls PyProof.Rows L2
open PySem.W (Frag findIn subIn typeIn keepIn kitOne exmOne exmAny)
/-! ### try -/
theorem wipeE_len {env : Env} : ∀ w : List Nat, (wipeE env w).length = env.length
  | [] => rfl
  | v :: w => by simp [wipeE, wipeE_len w]
theorem wipeE_some {env : Env} {j : Nat} {p : PV} : ∀ {w : List Nat}, (wipeE env w)[j]? = some (some p) → j ∉ w ∧ env[j]? = some (some p)
  | [], h => ⟨by simp, h⟩
  | v :: w, h => by
    unfold wipeE at h
    by_cases hv : v = j
    · subst hv
      rw [List.getElem?_set] at h
      simp only [if_pos] at h
      split at h <;> cases h
    · rw [List.getElem?_set_ne hv] at h
      obtain ⟨h1, h2⟩ := wipeE_some h
      exact ⟨fun z => by rcases List.mem_cons.mp z with z | z; exact hv z.symm; exact h1 z, h2⟩
theorem inL_not {w : List Nat} {j : Nat} (h : j ∉ w) : inL w j = false := by
  unfold inL
  simpa using h
theorem re_wipe {K : Frag} {B M : List Addr} {H : Hp} {σ σ' : St} {env : Env} {w : List Nat} (h : RE K B M H σ env) (ag : Ag (inL w) σ σ') : RE K B M H σ' (wipeE env w) := by
  refine ⟨by rw [wipeE_len, h.len, ag.1], fun i p e => ?_⟩
  obtain ⟨h1, h2⟩ := wipeE_some e
  obtain ⟨v, h3, h4⟩ := h.val i p h2
  exact ⟨v, by rw [ag.2 i (inL_not h1)]; exact h3, h4⟩
theorem re_none {K : Frag} {B M : List Addr} {H : Hp} {σ : St} {env : Env} (h : RE K B M H σ env) (i : Nat) : RE K B M H (σ.set i none) (env.set i none) := by
  refine ⟨by simp [h.len], fun j p e => ?_⟩
  by_cases hj : i = j
  · subst hj
    rw [List.getElem?_set] at e
    simp only [if_pos] at e
    split at e <;> cases e
  · rw [List.getElem?_set_ne hj] at e
    rw [List.getElem?_set_ne hj]
    exact h.val j p e
theorem ag_sub {A A' : Nat → Bool} {σ σ' : St} (h : ∀ j, A' j = true → A j = true) (a : Ag A' σ σ') : Ag A σ σ' := ⟨a.1, fun i hi => a.2 i (by
  cases e : A' i with
  | false => rfl
  | true => rw [h i e] at hi; cases hi)⟩
section
variable {P : Prog} {C : Nat → List PV → Store → R PV} {G : Nm} {X : Cx} {A : Nat → Bool} {W : WX} {k : Nat} {p pos pos' : Pos} {e : Expr} {m : ME} {xs : List ExRow} {r : ExRow}
theorem rv_track {K : Frag} {B M : List Addr} {H : Hp} {cls : Value} {d : Option Addr} {c : Nat} {l : List PV} {a : Addr} {S : Store} (rs : RS K G B M H S) (rx : RX K G B M H cls d (.exc c l)) (ha : H a = none) : cls = .ref (clsA K c) ∧ RV K B M (upd H a (xk a cls d)) (.ref a) (.exc c l) := by
  have fr := rs.free ha
  rcases l with _ | ⟨p, _ | ⟨p2, t⟩⟩
  · obtain ⟨rfl, rfl⟩ := rx
    exact ⟨rfl, .exc0 a c upd_same fr.1 fr.2⟩
  · obtain ⟨rfl, dd, w, rfl, h1, h2, h3, h4⟩ := rx
    refine ⟨rfl, .exc1 a dd c w p upd_same fr.1 fr.2 ?_ h2 h3 (h4.mv (ext_new ha))⟩
    rw [upd_ne (fun z => by rw [z, ha] at h1; cases h1)]
    exact h1
  · exact rx.elim
theorem ss_try {n : Str} {te : Expr} {cs : List (Bool × Nat)} {i : Nat} {body suite : List Stmt} {b₀ : Stmt} {w : List Nat} {mb su : List MS} (g : Good k X W) (T : ExAll X.K X.mg P xs)
    (hs : X.stack = X.env :: X.outer) (hf : X.env.frame = some X.env.locals) (hex : X.ex = []) (hi : X.N[i]? = some n) (hln : X.env.kindOf n = some .local) (ht : TestOk X te (cs.map (qVal X.K))) (hq : ∀ q ∈ cs, qOk xs q = true)
    (hw : ∀ j, inL w j = true → A j = true) (hA : A i = true)
    (hb : ∀ (W' : WX) (pn : List (Addr × Obj)) (xe : Value → Shared → Prop), Takes (X.tr pn xe) W' → PassesOwn (model X.prog X.w) X.A X.env xe → SSs P C G (X.tr pn xe) (inL w) W' body mb)
    (hsu : ∀ (a : Addr) (pn : List (Addr × Obj)), SSs P C G (cxSuite X a pn) A W0 (b₀ :: suite) su) :
    SS P C G X A W (.Try body [.ExceptHandler (some te) (some n) (b₀ :: suite) pos'] [] [] pos) (.try_ w mb cs i su) := by
  refine PS.imp (ps_try_x (tb := fun W' => tS X.K G (inL w) W' (exL P C mb)) (ts := fun _ => tS X.K G A W0 (exL P C su)) hs hf hex g.nd hi hln ht g.tk hb hsu) fun D σ H q => ?_
  obtain ⟨B, M, env, S, st, q⟩ := q
  refine ⟨B, M, env, S, st, ?_⟩
  simp only [exS] at q
  cases ex : exL P C mb env S with
  | bad => rw [ex] at q; exact q.elim
  | ok f S1 =>
    rw [ex] at q
    refine RGS.imp (show RGS X.K G (inL w) σ _ B M H (.ok f S1) _ from q) fun f M' H' S' q => ?_
    cases f with
    | nx env2 => exact fun σ' ag at' => q σ' (ag_sub hw ag) at'
    | bk env2 => exact fun σ' ag at' => q σ' (ag_sub hw ag) at'
    | ct env2 => exact fun σ' ag at' => q σ' (ag_sub hw ag) at'
    | rt v => exact q
  | ex x S1 =>
    rw [ex] at q
    intro cls d σ' M' H' ag e' hbs rs rx
    cases x with
    | exc c l =>
      simp only at q
      split at q
      · exact q.elim
      · rename_i hc
        have hcls : cls = .ref (clsA X.K c) := by
          rcases l with _ | ⟨p, _ | ⟨p2, t⟩⟩
          · exact rx.1
          · exact rx.1
          · exact rx.elim
        have hany : (cs.any fun q => if q.1 = true then decide (q.2 = P.base c) else decide (q.2 = c)) = cs.any (hit P c) := rfl
        rw [hany] at q
        refine ⟨cs.any (hit P c), by rw [hcls]; exact exm_any T hc hq, fun hbt a ha => ?_, fun hbf => ?_⟩
        · rw [if_pos hbt] at q
          obtain ⟨_, rv⟩ := rv_track rs rx ha
          have ex2 : Ext B M' H' B M' (upd H' a (xk a cls d)) := ext_new ha
          have rs2 := rs.new (o := xk a cls d) ha
          have hb2 := upd_bsy (o := xk a cls d) rs ha
          have at2 : At X.K G B M' (upd H' a (xk a cls d)) (σ'.set i (some (.ref a))) ((wipeE env w).set i (some (.exc c l))) S1 := ⟨((re_wipe ((st.e.mv e').mv ex2) ag).set i rv), rs2⟩
          refine ⟨B, M', _, S1, at2, ?_⟩
          have agA : Ag A σ (σ'.set i (some (.ref a))) := (ag_sub hw ag).trans (Ag.set hA)
          have q2 := RGS.mv q agA (e'.trans ex2) (fun b hb => (hb2 b hb).trans (hbs b hb))
          cases es : exL P C su ((wipeE env w).set i (some (.exc c l))) S1 with
          | bad => rw [es] at q2; exact q2.elim
          | ex y S2 => rw [es] at q2; exact q2.elim
          | ok f S2 =>
            rw [es] at q2
            intro M2 H2 e2 hb3 rs3
            cases f with
            | nx env2 => exact fun σ2 ag2 at2 => q2 M2 H2 e2 hb3 rs3 (σ2.set i none) (agA.trans (ag2.trans (Ag.set hA))) ⟨re_none at2.e i, at2.s⟩
            | bk env2 => exact fun σ2 ag2 at2 => q2 M2 H2 e2 hb3 rs3 (σ2.set i none) (agA.trans (ag2.trans (Ag.set hA))) ⟨re_none at2.e i, at2.s⟩
            | ct env2 => exact fun σ2 ag2 at2 => q2 M2 H2 e2 hb3 rs3 (σ2.set i none) (agA.trans (ag2.trans (Ag.set hA))) ⟨re_none at2.e i, at2.s⟩
            | rt v => exact q2 M2 H2 e2 hb3 rs3
        · rw [if_neg (by rw [hbf]; exact Bool.false_ne_true)] at q
          exact q cls d σ' M' H' (ag_sub hw ag) e' hbs rs rx
    | _ => exact rx.elim
end
end G

namespace G
open PySem PySem.Spec PySem.Calls PyProof.Rows L2
open PySem.W (Frag findIn subIn typeIn keepIn kitOne exmOne exmAny)
/-! ### isinstance with exception classes; a field -/
def tyQ : Ty → Option (Bool × Nat)
  | .own c => some (false, c)
  | .base b => some (true, b)
  | _ => none
theorem tyQ_own {ty : Ty} {q : Bool × Nat} (h : tyQ ty = some q) : isOwnT ty = true := by cases ty <;> cases h <;> rfl
theorem hasTy_exc {P : Prog} {S : Store} {c : Nat} {l : List PV} {ty : Ty} {q : Bool × Nat} (h : tyQ ty = some q) : hasTy P S (.exc c l) ty = hit P c q := by
  cases ty with
  | own d =>
    cases h
    unfold hasTy hit
    simp only [Bool.false_eq_true, if_false]
    rw [Bool.eq_iff_iff]
    simp
  | base b =>
    cases h
    unfold hasTy hit
    simp only [if_pos]
    rw [Bool.eq_iff_iff]
    simp
  | _ => cases h
theorem hasTy_pl {P : Prog} {S : Store} {p : PV} {t : String} {ty : Ty} {q : Bool × Nat} (ht : pvTy S p = some t) (hp : ∀ c l, p ≠ .exc c l) (h : tyQ ty = some q) : hasTy P S p ty = false := by
  cases ty with
  | own d =>
    cases p with
    | exc c l => exact absurd rfl (hp c l)
    | loc n =>
      simp only [pvTy] at ht
      simp only [hasTy]
      cases hs : S[n]? with
      | none => rfl
      | some c => rw [hs] at ht; cases c <;> first | rfl | cases ht
    | _ => rfl
  | base b =>
    cases p with
    | exc c l => exact absurd rfl (hp c l)
    | _ => rfl
  | _ => cases h
theorem pvTy_mem {S : Store} {p : PV} {t : String} (h : pvTy S p = some t) : t ∈ tyns := by
  cases p with
  | loc n =>
    simp only [pvTy] at h
    cases hs : S[n]? with
    | none => rw [hs] at h; cases h
    | some c => rw [hs] at h; cases c <;> cases h; decide
  | exc c l => cases h
  | scr l => cases h
  | _ => cases h; decide
/-- isinstance of a tracked exception, several classes -/
def rIsXT (K : Frag) : List V → Hp → VK → Prop := fun xs H Q => ∃ (a D tp : Addr) (d : Option Addr) (cs : List V) (ws : List Value) (b : Bool), xs = [.ref a, .ref tp] ∧ ExcC K D ∧ H a = some (xk a (.ref D) d) ∧ (∀ dd, d = some dd → ∃ fs, H dd = some (.xd fs)) ∧ H tp = some (.tup cs) ∧ Paired ClsV cs ws ∧ PySem.W.kitAny K (.ref D) ws = some b ∧ Q (.bl b) H
theorem call_isXT {X : Cx} : CallR X (.builtin "isinstance") (rIsXT X.K) := by
  intro pins s σ H xs us Q I r h
  obtain ⟨a, D, tp, d, cs, ws, b, rfl, T, e, hd, hT, k, ek, q⟩ := h
  obtain ⟨u1, u2, rfl, r1, r2⟩ := vals2 r
  obtain rfl : u1 = Value.ref a := r1
  cases (show u2 = Value.ref tp from r2)
  obtain ⟨_, its, rv, o, h1, h2, n, h3⟩ := (show ObjOk X.prog X.w H s.heap tp (.tup cs) from I.hok tp _ hT)
  have e3 := ClsV.all k rv
  subst e3
  obtain ⟨oc, od, dt, sl⟩ := o
  simp only at h2 h3
  subst h2 h3
  exact PySem.W.kia_tup (xc_kit T) I.kIn (xk_inst I e hd) h1 ek (fun z => nomatch z) fun tk => ⟨.bl b, H, I.tok tk, rfl, q⟩
section
variable {P : Prog} {C : Nat → List PV → Store → R PV} {G : Nm} {X : Cx} {A : Nat → Bool} {W : WX} {k : Nat} {p pos pos' pz pt : Pos} {e : Expr} {m : ME} {xs : List ExRow} {r : ExRow} {q : Bool × Nat}
/-- a class named in a test -/
structure QIn (X : Cx) (xs : List ExRow) (q : Bool × Nat) : Prop where
  ok : qOk xs q = true
  gl : Gl X (qNm q)
  fr : q.1 = true → X.mg (qNm q) = none
theorem qNm_base (h : q.1 = true) : qNm q = baseS q.2 ∧ qVal X.K q = .type (baseN q.2) ∧ qV X.K q = .ty (baseN q.2) := by
  unfold qNm qVal qV
  rw [if_pos h, if_pos h, if_pos h]
  exact ⟨rfl, rfl, rfl⟩
theorem qNm_own (h : q.1 = false) : qNm q = clsN q.2 ∧ qVal X.K q = .ref (clsA X.K q.2) ∧ qV X.K q = .ref (clsA X.K q.2) := by
  unfold qNm qVal qV
  rw [h]
  exact ⟨rfl, rfl, rfl⟩
theorem QIn.names (T : ExAll X.K X.mg P xs) (h : QIn X xs q) : Names X (qNm q) (qVal X.K q) := by
  cases e : q.1 with
  | true =>
    obtain ⟨e1, e2, _⟩ := qNm_base (X := X) e
    have g := h.gl
    have f := h.fr e
    rw [e1] at g f ⊢
    rw [e2]
    exact ⟨g, (base_name q.2).2, .inr ⟨f, base_boot q.2, (base_name q.2).1⟩⟩
  | false =>
    obtain ⟨e1, e2, _⟩ := qNm_own (X := X) e
    have g := h.gl
    rw [e1] at g ⊢
    rw [e2]
    obtain ⟨r, hr, e3⟩ := own_row h.ok e
    rw [← e3] at g ⊢
    exact ⟨g, (T.nm r hr).2, .inl (T.nm r hr).1⟩
theorem pe_q (T : ExAll X.K X.mg P xs) (h : QIn X xs q) : PE X (.Name (qNm q) p) (tC (qV X.K q)) := by
  obtain ⟨g, d, n⟩ := h.names T
  have rel : RelV (qV X.K q) (qVal X.K q) := by
    unfold qV qVal
    cases q.1 <;> rfl
  rcases n with n | ⟨n1, n2, n3⟩
  · exact pe_glob g n rel d
  · exact pe_bltn g n1 n2 rel n3 d
/-- where an exception stands -/
theorem exc_at {K : Frag} {B M : List Addr} {H : Hp} {x : V} {c : Nat} {l : List PV} (h : RV K B M H x (.exc c l)) : ∃ a d, x = .ref a ∧ H a = some (xk a (.ref (clsA K c)) d) ∧ ∀ dd, d = some dd → ∃ fs, H dd = some (.xd fs) := by
  obtain ⟨a, rfl, _, _, ⟨_, h1⟩ | ⟨d, w, p, _, h1, h2, _⟩⟩ := h.exc_inv
  · exact ⟨a, none, rfl, h1, fun _ e => by cases e⟩
  · exact ⟨a, some d, rfl, h1, fun _ e => by cases e; exact ⟨_, h2⟩⟩
theorem se_isX {ty : Ty} (T : ExAll X.K X.mg P xs) (hne : xs ≠ []) (hg : Gl X "isinstance") (hm : X.mg "isinstance" = none) (ht : tyQ ty = some q) (hq : QIn X xs q)
    (h : SE P C G X W e m) (hs : starEach [e, .Name (qNm q) p] X.env = (false, eval e X.env) :: starEach [.Name (qNm q) p] X.env) (hpl : (backTo pos (starEach [.Name (qNm q) p] X.env)).any (·.1) = false) :
    SE P C G X W (.Call (.Name "isinstance" pz) [e, .Name (qNm q) p] [] pos) (.isi m [ty]) := by
  refine PE.imp (pe_callB (id := "isinstance") (CallR.or call_isX call_isi) hg hm (by decide +kernel) (pa_cons h (pa_cons (pe_q T hq) pa_nil) hs) (he := hs) (hpl := hpl)) fun σ H Q q1 => ?_
  obtain ⟨B, M, env, S, st, q1⟩ := q1
  simp only [ev] at q1
  refine tE_then st q1 fun p1 S1 x M1 H1 e1 b1 st1 r1 q1 => ?_
  obtain ⟨ns, nx, q2⟩ := isiV_ok q1 st1.s
  by_cases hx : ∃ c l, p1 = .exc c l
  · obtain ⟨c, l, rfl⟩ := hx
    obtain ⟨a, d, rfl, h1, h2⟩ := exc_at r1
    have hb := (nx c l rfl).2
    obtain ⟨r, hr, rfl, F, _⟩ := T.row hb
    refine .inl ⟨a, _, d, _, _, hasTy P S1 (.exc r.c l) ty, rfl, F.ex, h1, h2, qV_cls, ?_, by simpa using q2⟩
    rw [hasTy_exc ht]
    exact kit_q T hb hq.ok
  · have nx2 : ∀ c l, p1 ≠ .exc c l := fun c l e => hx ⟨c, l, e⟩
    obtain ⟨t, et⟩ := ty_any st1.s r1 ns nx2
    refine .inr ⟨x, _, .type t, _, hasTy P S1 p1 ty, rfl, qV_cls, ty_of st1.s r1 et, ?_, by simpa using q2⟩
    rw [hasTy_pl et nx2 ht]
    exact kit_pl T hne (pvTy_mem et) hq.ok
theorem any_q {S : Store} {p : PV} (f : Bool × Nat → Bool) (hf : ∀ ty q, tyQ ty = some q → hasTy P S p ty = f q) : ∀ {ts : List Ty} {qs : List (Bool × Nat)}, ts.mapM tyQ = some qs → ts.any (hasTy P S p) = qs.any f
  | [], qs, h => by cases h; rfl
  | ty :: ts, qs, h => by
    rw [List.mapM_cons] at h
    cases e1 : tyQ ty with
    | none => rw [e1] at h; cases h
    | some q =>
      cases e2 : ts.mapM tyQ with
      | none => rw [e1, e2] at h; cases h
      | some r =>
        rw [e1, e2] at h
        cases h
        rw [List.any_cons, List.any_cons, hf ty q e1, any_q f hf e2]
def qExprs (qs : List (Bool × Nat)) (ps : List Pos) : List Expr := List.zipWith (fun q p => .Name (qNm q) p) qs ps
theorem pa_qs (T : ExAll X.K X.mg P xs) : ∀ {qs : List (Bool × Nat)} {ps : List Pos}, ps.length = qs.length → (∀ q ∈ qs, QIn X xs q) → ∃ t, PA X (qExprs qs ps) t ∧ ∀ σ H Q, Q (qs.map (qV X.K)) H → t σ H Q
  | [], ps, _, _ => ⟨_, pa_nil, fun _ _ _ q => q⟩
  | q :: qs, [], h, _ => by cases h
  | q :: qs, p :: ps, h, hq => by
    obtain ⟨t, h1, h2⟩ := pa_qs T (qs := qs) (ps := ps) (by simpa using h) fun q m => hq q (List.mem_cons_of_mem _ m)
    exact ⟨_, pa_cons (pe_q T (p := p) (hq q List.mem_cons_self)) h1, fun σ H Q q => h2 σ H _ q⟩
theorem paired_q {K : Frag} : ∀ qs : List (Bool × Nat), Paired ClsV (qs.map (qV K)) (qs.map (qVal K))
  | [] => .nil
  | q :: qs => .cons qV_cls (paired_q qs)
theorem se_isXT {ts : List Ty} {qs : List (Bool × Nat)} {ps : List Pos} {n : Nat} (T : ExAll X.K X.mg P xs) (hne : xs ≠ []) (hg : Gl X "isinstance") (hm : X.mg "isinstance" = none) (ht : ts.mapM tyQ = some qs) (hl : ps.length = qs.length) (hz : qs.length ≤ 1000) (hq : ∀ q ∈ qs, QIn X xs q)
    (h : SE P C G X W e m) (hs : starEach [e, .Tuple (qExprs qs ps) n pt] X.env = (false, eval e X.env) :: starEach [.Tuple (qExprs qs ps) n pt] X.env) (hpl : (backTo pos (starEach [.Tuple (qExprs qs ps) n pt] X.env)).any (·.1) = false) :
    SE P C G X W (.Call (.Name "isinstance" pz) [e, .Tuple (qExprs qs ps) n pt] [] pos) (.isi m ts) := by
  obtain ⟨t, ha, hat⟩ := pa_qs T hl hq
  refine PE.imp (pe_callB (id := "isinstance") (CallR.or call_isXT call_isiT) hg hm (by decide +kernel) (pa_cons h (pa_cons (pe_tup ha) pa_nil) hs) (he := hs) (hpl := hpl)) fun σ H Q q1 => ?_
  obtain ⟨B, M, env, S, st, q1⟩ := q1
  simp only [ev] at q1
  refine tE_then st q1 fun p1 S1 x M1 H1 e1 b1 st1 r1 q1 => hat _ _ _ ?_
  obtain ⟨ns, nx, q2⟩ := isiV_ok q1 st1.s
  refine ⟨by rw [List.length_map, sizeLine_eq]; omega, fun a ha => ?_⟩
  have ex : Ext B M1 H1 B M1 (upd H1 a (.tup (qs.map (qV X.K)))) := ext_new ha
  rw [isiV_eq ns nx] at q1
  have fin := q1 _ M1 _ ex (upd_bsy st1.s ha) (st1.s.new ha) (.bl _)
  by_cases hx : ∃ c l, p1 = .exc c l
  · obtain ⟨c, l, rfl⟩ := hx
    obtain ⟨b, d, rfl, h1, h2⟩ := exc_at (r1.mv ex)
    have hb := (nx c l rfl).2
    obtain ⟨r, hr, rfl, F, _⟩ := T.row hb
    refine .inl ⟨b, _, a, d, _, _, ts.any (hasTy P S1 (.exc r.c l)), rfl, F.ex, h1, h2, upd_same, paired_q qs, ?_, fin⟩
    rw [any_q (hit P r.c) (fun ty q h => hasTy_exc h) ht]
    exact kit_any T hb fun q m => (hq q m).ok
  · have nx2 : ∀ c l, p1 ≠ .exc c l := fun c l e => hx ⟨c, l, e⟩
    obtain ⟨t2, et⟩ := ty_any st1.s r1 ns nx2
    refine .inr ⟨x, a, qs.map (qV X.K), .type t2, qs.map (qVal X.K), ts.any (hasTy P S1 p1), rfl, upd_same, paired_q qs, ty_of (st1.s.new ha) (r1.mv ex) et, ?_, fin⟩
    rw [any_q (fun _ => false) (fun ty q h => hasTy_pl et nx2 h) ht]
    rw [kit_plAny T hne (pvTy_mem et) fun q m => (hq q m).ok]
    congr 1
    induction qs with
    | nil => rfl
    | cons q qs ih => simp
/-- e.f -/
theorem se_xfld {n : Nat} {f : Str} (T : ExAll X.K X.mg P xs) (hf : ∀ c ps, P.base c ≠ 0 → P.flds c = n :: ps → fldN c = f) (h : SE P C G X W e m) (hb : attributeBase e f X.env (eval e X.env) = eval e X.env) : SE P C G X W (.Attribute e f pos) (.fld m n) := by
  refine PE.imp (pe_xfld h hb) fun σ H Q q => ?_
  obtain ⟨B, M, env, S, st, q⟩ := q
  simp only [ev] at q
  refine tE_then st q fun p1 S1 x M1 H1 e1 b1 st1 r1 q1 => ?_
  cases p1 with
  | exc c l =>
    simp only [fldV] at q1
    split at q1
    · exact q1.elim
    · rename_i hc
      obtain ⟨r, hr, rfl, F, _⟩ := T.row hc
      obtain ⟨a, rfl, _, _, ⟨rfl, h1⟩ | ⟨d, w, p, rfl, h1, h2, _, _, rw'⟩⟩ := r1.exc_inv
      · simp at q1
        exact q1.elim
      · cases ef : P.flds r.c with
        | nil => rw [ef] at q1; exact q1.elim
        | cons n2 ps =>
          rw [ef] at q1
          by_cases hn : n = n2
          · subst hn
            have e3 := hf r.c ps hc ef
            simp only [List.zip_cons_cons, List.lookup, beq_self_eq_true, lift] at q1
            refine ⟨a, _, d, _, w, rfl, F.xf, by rw [← e3]; exact F.nf, h1, h2, by rw [← e3]; simp [List.lookup], ?_⟩
            exact fin_val st1.s q1 rw'
          · have : (n == n2) = false := by simpa using hn
            simp only [List.zip_cons_cons, List.lookup, this, List.zip_nil_right, lift] at q1
            exact q1.elim
  | loc k2 =>
    simp only [fldV] at q1
    cases hs : S1[k2]? with
    | none => rw [hs] at q1; exact q1.elim
    | some c =>
      rw [hs] at q1
      cases c with
      | ins c l =>
        obtain ⟨a, _, hm⟩ := r1.loc_inv
        exact (st1.s.cell k2 _ a hs hm).elim
      | _ => exact q1.elim
  | _ => exact q1.elim
end
end G

namespace G
open PySem PySem.Spec PyProof.Rows L2
/-! ### does a text of the program stand for one of the small syntax? -/
structure CallRow where
  f : Nat
  x : Str
  n : Nat
  ks : List Str
  perm : List Nat
  dfl : List PV
structure Tab where
  calls : List CallRow
  free : List Str
  excs : List ExRow := []
structure Kx where
  N : List Str
  sc : Scope
  blk : Option Scope
def Kx.cellOk (c : Kx) (x : Str) : Bool := match c.blk with
  | none => true
  | some s => decide (s.names.lookup x = some .cell)
def dbgOk (x : Str) : Bool := !(x == ("__debug__" : Str)) && !(x == ("__classdict__" : Str))
def visB (sc : Scope) (x : Str) : Bool := decide (sc.names.lookup x = some .local) || decide (sc.names.lookup x = some .cell) || decide (sc.names.lookup x = some .free)
def locB (sc : Scope) (x : Str) : Bool := decide (sc.names.lookup x = some .local) || decide (sc.names.lookup x = some .cell)
def glB (sc : Scope) (x : Str) : Bool := decide (sc.names.lookup x = some .globalImplicit)
def txtB (x : Str) : Bool := decide (x.cps.size ≤ 1000) && x.cps.toList.all fun c => decide (c < 0x110000)
def noStar : Expr → Bool
  | .Starred .. => false
  | _ => true
def noSlice : Expr → Bool
  | .Slice .. => false
  | _ => true
def noSet : Expr → Bool
  | .Set .. => false
  | _ => true
def noComp : Expr → Bool
  | .ListComp .. => false
  | .SetComp .. => false
  | .DictComp .. => false
  | _ => true
def plainT : Expr → Bool
  | .UnaryOp .Not _ _ => false
  | .BoolOp .. => false
  | .IfExp .. => false
  | .Compare .. => false
  | _ => true
def cpOf : CmpOp → Cp
  | .Lt => .lt | .LtE => .le | .Gt => .gt | .GtE => .ge | .Eq => .eq | .NotEq => .ne | .In => .in_ | .NotIn => .nin | .Is => .is_ | .IsNot => .isn
theorem cpOf_op (o : CmpOp) : opOf (cpOf o) = o := by cases o <;> rfl
def op2Of : Operator → Option Op2
  | .Add => some .add | .Sub => some .sub | .Mult => some .mul | .FloorDiv => some .fdiv | .Mod => some .mod | .Pow => some .pow
  | _ => none
theorem op2Of_op {o : Operator} {q : Op2} (h : op2Of o = some q) : oper q = o := by cases o <;> cases h <;> rfl
def biNm : Bi → List Str
  | .len => ["len"] | .tuple => ["tuple"] | .list => ["list"] | .abs => ["abs"] | .int => ["int"] | .all => ["all"] | .any => ["any"] | .sum => ["sum"]
  | .max2 => ["max"] | .min2 => ["min"] | .sorted => ["sorted"]
  | _ => []
def biAr : Bi → Nat
  | .max2 => 2 | .min2 => 2 | _ => 1
def slotsT : MT → List Nat
  | .nm i => [i]
  | .tup l => slotsTs l
  | _ => []
where slotsTs : List MT → List Nat
  | [] => []
  | t :: r => slotsT t ++ slotsTs r
def noStars (es : List Expr) : Bool := es.all noStar
def ownP (N : List Str) (own : List Nat) : List (Str × Nat) := own.map fun i => (N.getD i "", i)
def kwNames (kws : List Keyword) : List Str := kws.filterMap fun k => k.arg
def kwB (kws : List Keyword) : Bool := kws.all fun k => k.arg.isSome
/-- name and number of arguments of a method -/
def bmRow : Bm → Option (Str × Nat)
  | .append => some ("append", 1) | .reverse => some ("reverse", 0) | .clear => some ("clear", 0) | .pop => some ("pop", 0) | .popAt => some ("pop", 1) | .insert => some ("insert", 2)
  | _ => none
def isiT (T : Tab) (c : Kx) (ts : List Ty) (e : Expr) : Bool := match e with
  | .Name y _ => decide (y ∈ T.free) && glB c.sc y && (match ts with
    | [ty] => decide (tyStr ty = some y)
    | _ => false)
  | .Tuple [.Name y _, .Name y2 _] _ _ => decide (y ∈ T.free) && decide (y2 ∈ T.free) && glB c.sc y && glB c.sc y2 && (match ts with
    | [ty, ty2] => decide (tyStr ty = some y) && decide (tyStr ty2 = some y2)
    | _ => false)
  | _ => false
/-- a class in a test -/
def qInB (T : Tab) (c : Kx) (q : Bool × Nat) : Bool := qOk T.excs q && glB c.sc (qNm q) && (!q.1 || decide (qNm q ∈ T.free))
def qExB : List (Bool × Nat) → List Expr → Bool
  | [], es => es.isEmpty
  | q :: qs, e :: es => (match e with
    | .Name y _ => decide (qNm q = y)
    | _ => false) && qExB qs es
  | _, _ => false
def isiQ (T : Tab) (c : Kx) (ts : List Ty) (e : Expr) : Bool := !T.excs.isEmpty && (match ts.mapM tyQ with
  | some qs => qs.all (qInB T c) && (match e with
    | .Name y _ => (match ts, qs with
      | [_], [q] => decide (qNm q = y)
      | _, _ => false)
    | .Tuple es _ _ => qExB qs es && decide (qs.length ≤ 1000)
    | _ => false)
  | none => false)
section
variable (T : Tab)
mutual
def chE : ME → Kx → Bool → Expr → Bool
  | .var i, c, t, e => (match e with
    | .Name x _ => decide (c.N[i]? = some x) && visB c.sc x && dbgOk x
    | _ => false)
  | .int i, c, t, e => (match e with
    | .Constant (.int j) _ _ => decide (i = j)
    | _ => false)
  | .bl b, c, t, e => (match e with
    | .Constant (.bool j) _ _ => decide (b = j)
    | _ => false)
  | .non, c, t, e => (match e with
    | .Constant .none _ _ => true
    | _ => false)
  | .str s, c, t, e => (match e with
    | .Constant (.str x) _ _ => decide (x.cps.toList = s) && txtB x
    | _ => false)
  | .bin _ o a b, c, t, e => (match e with
    | .BinOp e1 op e2 _ => decide (op2Of op = some o) && chE a c false e1 && chE b c false e2
    | _ => false)
  | .neg a, c, t, e => (match e with
    | .UnaryOp .USub e1 _ => chE a c false e1
    | _ => false)
  | .cmp o a b, c, t, e => (match e with
    | .Compare e1 [op] [e2] _ => decide (cpOf op = o) && chE a c false e1 && chE b c false e2 && noSet e2
    | _ => false)
  | .ch2 o p a b d, c, t, e => (match e with
    | .Compare e1 [op, op2] [e2, e3] _ => decide (cpOf op = o) && decide (cpOf op2 = p) && chE a c false e1 && chE b c false e2 && chE d c false e3 && noSet e3
    | _ => false)
  | .and a b, c, t, e => (match e with
    | .BoolOp .And [e1, e2] _ => chE a c t e1 && chE b c t e2
    | .BoolOp .And (e1 :: e2 :: e3 :: r) pos => chE a c t e1 && chE b c t (.BoolOp .And (e2 :: e3 :: r) pos)
    | _ => false)
  | .or a b, c, t, e => (match e with
    | .BoolOp .Or [e1, e2] _ => chE a c t e1 && chE b c t e2
    | .BoolOp .Or (e1 :: e2 :: e3 :: r) pos => chE a c t e1 && chE b c t (.BoolOp .Or (e2 :: e3 :: r) pos)
    | _ => false)
  | .not a, c, t, e => (match e with
    | .UnaryOp .Not e1 _ => chE a c t e1
    | _ => false)
  | .ite d a b, c, t, e => (match e with
    | .IfExp e1 e2 e3 _ => !t && chE d c true e1 && chE a c false e2 && chE b c false e3
    | _ => false)
  | .tup l, c, t, e => (match e with
    | .Tuple es _ _ => chL l c es
    | _ => false)
  | .lst _ l, c, t, e => (match e with
    | .List es _ => chL l c es
    | _ => false)
  | .ix a i, c, t, e => (match e with
    | .Subscript e1 e2 _ => chE a c false e1 && chE i c false e2 && noSlice e2
    | _ => false)
  | .sl _ a lo hi, c, t, e => (match e with
    | .Subscript e1 (.Slice l h none _) _ => chE a c false e1 && chO lo c l && chO hi c h
    | _ => false)
  | .rv _ a, c, t, e => (match e with
    | .Subscript e1 (.Slice none none (some (.UnaryOp .USub (.Constant (.int 1) _ _) _)) _) _ => chE a c false e1
    | _ => false)
  | .call f l perm dfl, c, t, e => (match e with
    | .Call (.Name x _) (e1 :: es) kws _ => glB c.sc x && dbgOk x && kwB kws && (T.calls.any fun r => decide (r.f = f) && decide (r.x = x) && decide (r.n = (e1 :: es).length) && decide (r.ks = kwNames kws) && decide (r.perm = perm) && decide (r.dfl = dfl)) &&
        chL l c ((e1 :: es) ++ kws.map (·.value)) && noStars (e1 :: es)
    | .Call (.Name x _) [] kws _ => glB c.sc x && dbgOk x && kwB kws && (T.calls.any fun r => decide (r.f = f) && decide (r.x = x) && decide (r.n = 0) && decide (r.ks = kwNames kws) && decide (r.perm = perm) && decide (r.dfl = dfl)) &&
        chL l c (kws.map (·.value))
    | _ => false)
  | .never, c, t, e => plainT e
  | .b f _ l, c, t, e => (match e with
    | .Call (.Name x _) es [] _ => decide (x ∈ biNm f) && decide (x ∈ T.free) && glB c.sc x && decide (es.length = biAr f) && chL l c es
    | _ => false)
  | .isi a ts, c, t, e => (match e with
    | .Call (.Name x _) [e1, e2] [] _ => decide (x = "isinstance") && decide (x ∈ T.free) && glB c.sc x && chE a c false e1 && noStar e1 && (isiT T c ts e2 || isiQ T c ts e2)
    | _ => false)
  | .fld o n, c, t, e => (match e with
    | .Attribute eo name _ => chE o c false eo && noCallE eo && !T.excs.isEmpty && (T.excs.all fun r => match r.fl with
      | n' :: _ => !(decide (n' = n)) || decide (fldN r.c = name)
      | [] => true)
    | _ => false)
  | .bm f _ o l, c, t, e => (match e with
    | .Call (.Attribute eo name apos) es [] cpos => decide (bmRow f = some (name, es.length)) && chE o c false eo && chL l c es && noCallE eo && (apos.endLine == cpos.line)
    | _ => false)
  | .lc _ own m tg i cs, c, t, e => (match e with
    | .ListComp elt [⟨te, iter, ifs, 0⟩] scope _ => blkC c.N c.sc scope (ownP c.N own) && decide (∀ i ∈ slotsT tg, i ∈ own) && noSet iter && chI i c te iter &&
        chT tg ⟨c.N, relS scope c.sc, some scope⟩ (inL (slotsT tg)) te && chIf cs ⟨c.N, relS scope c.sc, some scope⟩ ifs && chE m ⟨c.N, relS scope c.sc, some scope⟩ false elt
    | _ => false)
  | .lc2 _ own m tg i cs own2 tg2 i2 cs2, c, t, e => (match e with
    | .ListComp elt [⟨te, iter, ifs, 0⟩, ⟨te2, iter2, ifs2, 0⟩] scope _ => blkC c.N c.sc scope (ownP c.N own) && decide (∀ i ∈ slotsT tg, i ∈ own) && decide (∀ i ∈ slotsT tg2, i ∈ own2) && decide (∀ i ∈ own2, i ∈ own) && noSet iter && noSet iter2 && chI i c te iter &&
        chT tg ⟨c.N, relS scope c.sc, some scope⟩ (inL (slotsT tg)) te && chIf cs ⟨c.N, relS scope c.sc, some scope⟩ ifs &&
        chI i2 ⟨c.N, relS scope c.sc, some scope⟩ te2 iter2 && chT tg2 ⟨c.N, relS scope c.sc, some scope⟩ (inL (slotsT tg2)) te2 && chIf cs2 ⟨c.N, relS scope c.sc, some scope⟩ ifs2 && chE m ⟨c.N, relS scope c.sc, some scope⟩ false elt
    | _ => false)
  | _, _, _, _ => false
def chL : List ME → Kx → List Expr → Bool
  | [], _, es => (match es with | [] => true | _ => false)
  | m :: ms, c, es => (match es with
    | e :: r => chE m c false e && noStar e && chL ms c r
    | _ => false)
/-- a clause's tests: none or one -/
def chIf : List ME → Kx → List Expr → Bool
  | [], _, es => (match es with | [] => true | _ => false)
  | m :: ms, c, es => (match es with
    | [e] => chE m c true e && chIf ms c []
    | _ => false)
def chO : Option ME → Kx → Option Expr → Bool
  | none, _, e => e.isNone
  | some m, c, e => (match e with
    | some e => chE m c false e
    | none => false)
def chI : MI → Kx → Expr → Expr → Bool
  | .ex m, c, tg, e => chE m c false e
  | .rng l, c, tg, e => (match e with
    | .Call (.Name x _) es [] _ => decide (x = "range") && decide (x ∈ T.free) && glB c.sc x && chL l c es && (decide (es.length = 1) || decide (es.length = 2))
    | _ => false)
  | .enu m, c, tg, e => (match tg with
    | .Tuple .. => (match e with
      | .Call (.Name x _) [e1] [] _ => decide (x = "enumerate") && decide (x ∈ T.free) && glB c.sc x && chE m c false e1 && noStar e1
      | _ => false)
    | _ => false)
  | .zip2 m1 m2, c, tg, e => (match tg with
    | .Tuple .. => (match e with
      | .Call (.Name x _) [e1, e2] [] _ => decide (x = "zip") && decide (x ∈ T.free) && glB c.sc x && chE m1 c false e1 && noStar e1 && chE m2 c false e2 && noStar e2
      | _ => false)
    | _ => false)
  | .enz m1 m2, c, tg, e => (match tg with
    | .Tuple .. => (match e with
      | .Call (.Name y _) [.Call (.Name x _) [e1, e2] [] _] [] _ => decide (y = "enumerate") && decide (y ∈ T.free) && glB c.sc y && decide (x = "zip") && decide (x ∈ T.free) && glB c.sc x && chE m1 c false e1 && noStar e1 && chE m2 c false e2 && noStar e2
      | _ => false)
    | _ => false)
  | _, _, _, _ => false
def chT : MT → Kx → (Nat → Bool) → Expr → Bool
  | .nm i, c, A, e => (match e with
    | .Name x _ => decide (c.N[i]? = some x) && locB c.sc x && (c.cellOk x || decide (c.sc.names.lookup x = some .local)) && A i
    | _ => false)
  | .tup l, c, A, e => (match e with
    | .Tuple es _ _ => chTs l c A es
    | _ => false)
  | .sub o i, c, A, e => (match e with
    | .Subscript e1 e2 _ => chE o c false e1 && chE i c false e2 && noSlice e2
    | _ => false)
  | _, _, _, _ => false
def chTs : List MT → Kx → (Nat → Bool) → List Expr → Bool
  | [], _, _, es => (match es with | [] => true | _ => false)
  | t :: ts, c, A, es => (match es with
    | e :: r => chT t c A e && noStar e && chTs ts c A r
    | _ => false)
end
end

end G

namespace G
open PySem PySem.Spec PyProof.Rows L2
structure Fits (T : Tab) (k : Nat) (G : Nm) (P : Prog) (C : Nat → List PV → Store → R PV) (c : Kx) (X : Cx) (W : WX) : Prop where
  good : Good k X W
  N : X.N = c.N
  sc : X.env.scope = c.sc
  fn : ∀ x, c.cellOk x = true → X.fn x = true
  calls : ∀ r ∈ T.calls, CallT X.prog X.w X.K X.mg X.base k G C r.f r.x r.n r.ks r.perm r.dfl
  free : ∀ x ∈ T.free, X.mg x = none
  exs : ExAll X.K X.mg P T.excs
  ini : ∀ r ∈ T.excs, IniT X.prog X.w X.K X.mg X.base r
  lv : 2 ≤ k
theorem Fits.blk {T : Tab} {k : Nat} {G : Nm} {P : Prog} {C : Nat → List PV → Store → R PV} {c : Kx} {X : Cx} {W : WX} (f : Fits T k G P C c X W) {scope : Scope} (s : Shared) (H : Hp) (D : Addr) (cl : List (Str × Addr)) (fp : List Addr) :
    Fits T k G P C ⟨c.N, relS scope c.sc, some scope⟩ (X.blk s H scope (compEnvC scope cl D X.env) fp) W0 := by
  refine ⟨f.good.blk, f.N, ?_, fun x h => ?_, f.calls, f.free, f.exs, f.ini, f.lv⟩
  · show relS scope X.env.scope = relS scope c.sc
    rw [f.sc]
  · have h : decide (scope.names.lookup x = some NameKind.cell) = true := h
    show (scope.names.lookup x == some NameKind.cell) = true
    rw [of_decide_eq_true h]
    rfl
/-! ### small facts -/
theorem star_ns {e : Expr} {es : List Expr} {env : PySem.Env} (h : noStar e = true) : starEach (e :: es) env = (false, eval e env) :: starEach es env := by
  cases e <;> first | rfl | cases h
theorem any_ns {es : List Expr} {env : PySem.Env} {pos : Pos} (h : noStars es = true) : (backTo pos (starEach es env)).any (·.1) = false := by
  induction es with
  | nil => rfl
  | cons e es ih =>
    unfold noStars at h
    rw [List.all_cons, Bool.and_eq_true] at h
    rw [star_ns h.1]
    show (false || (backTo pos (starEach es env)).any (·.1)) = false
    rw [ih h.2]
    rfl
theorem asg_len {es : List Expr} {env : PySem.Env} : (assignEach es env).length = es.length := by
  induction es with
  | nil => rfl
  | cons e es ih => cases e <;> (show (assignEach es env).length + 1 = es.length + 1; rw [ih])
theorem asg_ns {e : Expr} {es : List Expr} {env : PySem.Env} (h : noStar e = true) : assignEach (e :: es) env = (false, assign e env) :: assignEach es env := by
  cases e <;> first | rfl | cases h
theorem asg_find {es : List Expr} {env : PySem.Env} (h : noStars es = true) : (assignEach es env).findIdx? (·.1) = none := by
  induction es with
  | nil => rfl
  | cons e es ih =>
    unfold noStars at h
    rw [List.all_cons, Bool.and_eq_true] at h
    rw [asg_ns h.1, List.findIdx?_cons]
    simp [ih h.2]
theorem plain_ix {e : Expr} (h : noSlice e = true) : PlainIx e := by
  intro o i
  cases e <;> first | rfl | cases h
theorem nomark_ns {op : CmpOp} {e : Expr} (h : noSet e = true) : behindInMarks op e = false := by
  cases e <;> first | rfl | cases h
theorem lastmark_ns {o o2 : CmpOp} {e e2 : Expr} (h : noSet e2 = true) : lastMarks [o, o2] [e, e2] = false := by
  show behindInMarks o2 e2 = false
  exact nomark_ns h
theorem fold_ns {e : Expr} {env : PySem.Env} {x : Value} (h : noSet e = true) : foldedSetIterable e env x = pure x := by
  cases e <;> first | rfl | cases h
theorem true_plain {e : Expr} {env : PySem.Env} (h : plainT e = true) (whole : Sem Value) : isTrue e env whole = (do let v ← whole; standAt e.pos; holding [v] (PySem.truthy v)) := by
  cases e with
  | UnaryOp op a pos => cases op <;> first | rfl | cases h
  | BoolOp => cases h
  | IfExp => cases h
  | Compare => cases h
  | _ => rfl
theorem kw_all {kws : List Keyword} {env : PySem.Env} {pos : Pos} (h : kwB kws = true) : (backToKw pos (keywordEach kws env)).all (·.1.isSome) = true ∧ (backToKw pos (keywordEach kws env)).any (·.1.isNone) = false := by
  induction kws with
  | nil => exact ⟨rfl, rfl⟩
  | cons q kws ih =>
    obtain ⟨a, v, p⟩ := q
    unfold kwB at h
    rw [List.all_cons, Bool.and_eq_true] at h
    obtain ⟨i1, i2⟩ := ih h.2
    have h1 : a.isSome = true := h.1
    refine ⟨?_, ?_⟩
    · show (a.isSome && (backToKw pos (keywordEach kws env)).all (·.1.isSome)) = true
      rw [h1, i1]
      rfl
    · show (a.isNone || (backToKw pos (keywordEach kws env)).any (·.1.isNone)) = false
      rw [i2]
      cases a with
      | none => cases h1
      | some x => rfl
theorem kw_names {kws : List Keyword} {env : PySem.Env} {pos : Pos} : (backToKw pos (keywordEach kws env)).filterMap (·.1) = kwNames kws := by
  induction kws with
  | nil => rfl
  | cons q kws ih =>
    obtain ⟨a, v, p⟩ := q
    cases a with
    | none =>
      show (backToKw pos (keywordEach kws env)).filterMap (·.1) = kwNames kws
      exact ih
    | some x =>
      show x :: (backToKw pos (keywordEach kws env)).filterMap (·.1) = x :: kwNames kws
      rw [ih]
theorem kw_len {kws : List Keyword} (h : kwB kws = true) : (kwNames kws).length = kws.length := by
  induction kws with
  | nil => rfl
  | cons q kws ih =>
    obtain ⟨a, v, p⟩ := q
    unfold kwB at h
    rw [List.all_cons, Bool.and_eq_true] at h
    cases a with
    | none => cases h.1
    | some x =>
      show (kwNames kws).length + 1 = kws.length + 1
      rw [ih h.2]
theorem txt_of {x : Str} (h : txtB x = true) : txtOk x := by
  unfold txtB at h
  rw [Bool.and_eq_true, List.all_eq_true] at h
  refine ⟨?_, fun c hc => of_decide_eq_true (h.2 c hc)⟩
  have := of_decide_eq_true h.1
  show x.cps.size ≤ sizeLine
  rw [sizeLine_eq]
  omega
theorem vis_of {sc : Scope} {x : Str} (h : visB sc x = true) : Vis sc x := by
  unfold visB at h
  simp only [Bool.or_eq_true, decide_eq_true_eq] at h
  rcases h with (h | h) | h
  · exact .inl h
  · exact .inr (.inl h)
  · exact .inr (.inr h)
theorem loc_of_b {sc : Scope} {x : Str} (h : locB sc x = true) : Loc sc x := by
  unfold locB at h
  simp only [Bool.or_eq_true, decide_eq_true_eq] at h
  exact h
theorem dbg_of {x : Str} (h : dbgOk x = true) : (x == ("__debug__" : Str)) = false ∧ (x == ("__classdict__" : Str)) = false := by
  unfold dbgOk at h
  simpa using h
theorem ty_facts {ty : Ty} {y : Str} (h : tyStr ty = some y) : ∃ nm, tyNm ty = some nm ∧ bootBuiltins y = some (.type nm) ∧ y ≠ "__name__" ∧ (y == ("__debug__" : Str)) = false := by
  cases ty <;> first
    | (have e := Option.some.inj h; subst e; exact ⟨_, rfl, by decide +kernel, by decide, by decide⟩)
    | cases h
section
variable {T : Tab} {k : Nat} {P : Prog} {C : Nat → List PV → Store → R PV} {G : Nm} {c : Kx} {X : Cx} {W : WX}
theorem qExB_ok : ∀ {qs : List (Bool × Nat)} {es : List Expr}, qExB qs es = true → ∃ ps, es = qExprs qs ps ∧ ps.length = qs.length
  | [], es, h => by
    cases es with
    | nil => exact ⟨[], rfl, rfl⟩
    | cons e es => cases h
  | q :: qs, [], h => by cases h
  | q :: qs, e :: es, h => by
    unfold qExB at h
    rw [Bool.and_eq_true] at h
    obtain ⟨ps, rfl, hl⟩ := qExB_ok h.2
    cases e with
    | Name y p =>
      have e := of_decide_eq_true h.1
      subst e
      exact ⟨p :: ps, rfl, by simp [hl]⟩
    | _ => cases h.1
theorem Fits.gl (f : Fits T k G P C c X W) {x : Str} (h : glB c.sc x = true) : Gl X x := by
  show X.env.scope.names.lookup x = some .globalImplicit
  rw [f.sc]
  exact of_decide_eq_true h
def MeanT (P : Prog) (C : Nat → List PV → Store → R PV) (G : Nm) (X : Cx) (W : WX) (e : Expr) (m : ME) : Prop := match e with
  | .BoolOp .. => SW P C G X W e m
  | _ => ST P C G X W e m
theorem Fits.qin (f : Fits T k G P C c X W) {q : Bool × Nat} (h : qInB T c q = true) : QIn X T.excs q := by
  unfold qInB at h
  simp only [Bool.and_eq_true, Bool.or_eq_true, Bool.not_eq_true', decide_eq_true_eq] at h
  obtain ⟨⟨h1, h2⟩, h3⟩ := h
  exact ⟨h1, f.gl h2, fun e => by
    rcases h3 with h3 | h3
    · rw [e] at h3; cases h3
    · exact f.free _ h3⟩
theorem MeanT.st {e : Expr} {m : ME} (h : MeanT P C G X W e m) : ST P C G X W e m := by
  cases e <;> first | exact h | exact PW.pt h
def Mean (P : Prog) (C : Nat → List PV → Store → R PV) (G : Nm) (X : Cx) (W : WX) (t : Bool) (e : Expr) (m : ME) : Prop := match t with
  | true => MeanT P C G X W e m
  | false => SE P C G X W e m
theorem Mean.of {t : Bool} {e : Expr} {m : ME} (h : SE P C G X W e m) (hp : plainT e = true) : Mean P C G X W t e m := by
  cases t with
  | false => exact h
  | true =>
    have q : ST P C G X W e m := st_truth h (true_plain hp)
    cases e <;> first | exact q | cases hp
theorem se_never {e : Expr} : SE P C G X W e .never := ⟨fun pins s σ H Q I q => by
  obtain ⟨B, M, env, S, st, q⟩ := q
  simp only [ev] at q
  exact q.elim⟩
def AllE (P : Prog) (C : Nat → List PV → Store → R PV) (G : Nm) (X : Cx) (W : WX) : List ME → List Expr → Prop
  | [], [] => True
  | m :: ms, e :: es => SE P C G X W e m ∧ noStar e = true ∧ AllE P C G X W ms es
  | _, _ => False
theorem AllE.sa : ∀ {ms : List ME} {es : List Expr}, AllE P C G X W ms es → SA P C G X W es ms
  | [], [], _ => sa_nil
  | [], _ :: _, h => h.elim
  | _ :: _, [], h => h.elim
  | m :: ms, e :: es, h => sa_cons h.1 (AllE.sa h.2.2) (star_ns h.2.1)
theorem AllE.stars : ∀ {ms : List ME} {es : List Expr}, AllE P C G X W ms es → noStars es = true
  | [], [], _ => rfl
  | [], _ :: _, h => h.elim
  | _ :: _, [], h => h.elim
  | m :: ms, e :: es, h => by
    have q := AllE.stars h.2.2
    unfold noStars at q ⊢
    rw [List.all_cons, h.2.1, q]
    rfl
theorem AllE.len : ∀ {ms : List ME} {es : List Expr}, AllE P C G X W ms es → ms.length = es.length
  | [], [], _ => rfl
  | [], _ :: _, h => h.elim
  | _ :: _, [], h => h.elim
  | m :: ms, e :: es, h => by simp [AllE.len h.2.2]
theorem AllE.split : ∀ {es fs : List Expr} {ms : List ME}, AllE P C G X W ms (es ++ fs) → ∃ m1 m2, ms = m1 ++ m2 ∧ AllE P C G X W m1 es ∧ AllE P C G X W m2 fs
  | [], fs, ms, h => ⟨[], ms, rfl, trivial, h⟩
  | e :: es, fs, [], h => h.elim
  | e :: es, fs, m :: ms, h => by
    obtain ⟨m1, m2, rfl, a, b⟩ := AllE.split (es := es) h.2.2
    exact ⟨m :: m1, m2, rfl, ⟨h.1, h.2.1, a⟩, b⟩
theorem AllE.sk : ∀ {ms : List ME} {kws : List Keyword}, AllE P C G X W ms (kws.map (·.value)) → SK P C G X W kws ms
  | [], [], _ => sk_nil
  | [], _ :: _, h => h.elim
  | _ :: _, [], h => h.elim
  | m :: ms, ⟨a, v, p⟩ :: kws, h => sk_cons h.1 (AllE.sk h.2.2)
theorem own_map {N : List Str} {own : List Nat} : (ownP N own).map (·.2) = own := by
  unfold ownP
  rw [List.map_map]
  show own.map (fun i => i) = own
  exact List.map_id' own
theorem se_cmpO {e1 e2 : Expr} {m1 m2 : ME} {op : CmpOp} {pos : Pos} (hu : X.A.units + 65 < cLine) (h1 : SE P C G X W e1 m1) (h2 : SE P C G X W e2 m2) (hm : noSet e2 = true) : SE P C G X W (.Compare e1 [op] [e2] pos) (.cmp (cpOf op) m1 m2) := by
  have q := se_cmp (pos := pos) (o := cpOf op) hu h1 h2 (nomark_ns hm)
  rwa [cpOf_op] at q
theorem st_cmpO {e1 e2 : Expr} {m1 m2 : ME} {op : CmpOp} {pos : Pos} (hu : X.A.units + 65 < cLine) (h1 : SE P C G X W e1 m1) (h2 : SE P C G X W e2 m2) (hm : noSet e2 = true) : ST P C G X W (.Compare e1 [op] [e2] pos) (.cmp (cpOf op) m1 m2) := by
  have q := st_cmp (pos := pos) (o := cpOf op) hu h1 h2 (nomark_ns hm)
  rwa [cpOf_op] at q
theorem se_ch2O {e1 e2 e3 : Expr} {m1 m2 m3 : ME} {op op2 : CmpOp} {pos : Pos} (hu : X.A.units + 65 < cLine) (h1 : SE P C G X W e1 m1) (h2 : SE P C G X W e2 m2) (h3 : SE P C G X W e3 m3) (hm : noSet e3 = true) : SE P C G X W (.Compare e1 [op, op2] [e2, e3] pos) (.ch2 (cpOf op) (cpOf op2) m1 m2 m3) := by
  have q := se_ch2 (pos := pos) (o := cpOf op) (o2 := cpOf op2) hu h1 h2 h3 (lastmark_ns hm)
  rwa [cpOf_op, cpOf_op] at q
theorem st_ch2O {e1 e2 e3 : Expr} {m1 m2 m3 : ME} {op op2 : CmpOp} {pos : Pos} (hu : X.A.units + 65 < cLine) (h1 : SE P C G X W e1 m1) (h2 : SE P C G X W e2 m2) (h3 : SE P C G X W e3 m3) (hm : noSet e3 = true) : ST P C G X W (.Compare e1 [op, op2] [e2, e3] pos) (.ch2 (cpOf op) (cpOf op2) m1 m2 m3) := by
  have q := st_ch2 (pos := pos) (o := cpOf op) (o2 := cpOf op2) hu h1 h2 h3 (lastmark_ns hm)
  rwa [cpOf_op, cpOf_op] at q
theorem asg_sub {e1 e2 : Expr} {pos : Pos} {env : PySem.Env} (h : noSlice e2 = true) (v : Value) : assign (.Subscript e1 e2 pos) env v = (do
      let ov ← holding [v] (eval e1 env)
      let iv ← holding [v, ov] (eval e2 env)
      standAt pos
      holding [v, ov, iv] (setItem ov iv v)
      release [v, ov, iv] []) := by
  cases e2 <;> first | rfl | cases h
theorem se_lcN {tg iter elt : Expr} {m : ME} {pos : Pos} {mi : MI} {t : MT} {ifs : List Expr} {cs : List ME} {scope : Scope} {own : List (Str × Nat)} {us on : List Nat} {b : Bool} (e : own.map (·.2) = on) (hc : X.calm = true) (hN : X.N.Nodup) (hi : SI P C G X W tg iter mi) (ok : BlkOk X.N X.env.scope scope own) (hu : ∀ i ∈ us, i ∈ on)
    (hg : ∀ (s : Shared) (H : Hp) (D : Addr) (cl : List (Str × Addr)) (fp : List Addr), SG P C G (X.blk s H scope (compEnvC scope cl D X.env) fp) (inL us) W0 tg t)
    (ht : ∀ (s : Shared) (H : Hp) (D : Addr) (cl : List (Str × Addr)) (fp : List Addr), STs P C G (X.blk s H scope (compEnvC scope cl D X.env) fp) W0 ifs cs)
    (he : ∀ (s : Shared) (H : Hp) (D : Addr) (cl : List (Str × Addr)) (fp : List Addr), SE P C G (X.blk s H scope (compEnvC scope cl D X.env) fp) W0 elt m) (hs : ∀ x, foldedSetIterable iter X.env x = pure x) :
    SE P C G X W (.ListComp elt [⟨tg, iter, ifs, 0⟩] scope pos) (.lc b on m t mi cs) := by
  subst e
  exact se_lc hc hN hi ok hu hg ht he hs
theorem se_lc2N {tg iter tg1 iter1 elt : Expr} {m : ME} {pos : Pos} {mi mi2 : MI} {t t2 : MT} {ifs ifs1 : List Expr} {cs cs2 : List ME} {scope : Scope} {own : List (Str × Nat)} {us own2 us2 on : List Nat} {b : Bool} (e : own.map (·.2) = on) (hc : X.calm = true) (hN : X.N.Nodup) (hi : SI P C G X W tg iter mi) (ok : BlkOk X.N X.env.scope scope own) (hv : ∀ i ∈ own2, i ∈ on)
    (hu : ∀ i ∈ us, i ∈ on) (hu2 : ∀ i ∈ us2, i ∈ own2)
    (hg : ∀ (s : Shared) (H : Hp) (D : Addr) (cl : List (Str × Addr)) (fp : List Addr), SG P C G (X.blk s H scope (compEnvC scope cl D X.env) fp) (inL us) W0 tg t)
    (ht : ∀ (s : Shared) (H : Hp) (D : Addr) (cl : List (Str × Addr)) (fp : List Addr), STs P C G (X.blk s H scope (compEnvC scope cl D X.env) fp) W0 ifs cs)
    (hi1 : ∀ (s : Shared) (H : Hp) (D : Addr) (cl : List (Str × Addr)) (fp : List Addr), SI P C G (X.blk s H scope (compEnvC scope cl D X.env) fp) W0 tg1 iter1 mi2)
    (hg1 : ∀ (s : Shared) (H : Hp) (D : Addr) (cl : List (Str × Addr)) (fp : List Addr), SG P C G (X.blk s H scope (compEnvC scope cl D X.env) fp) (inL us2) W0 tg1 t2)
    (ht1 : ∀ (s : Shared) (H : Hp) (D : Addr) (cl : List (Str × Addr)) (fp : List Addr), STs P C G (X.blk s H scope (compEnvC scope cl D X.env) fp) W0 ifs1 cs2)
    (he : ∀ (s : Shared) (H : Hp) (D : Addr) (cl : List (Str × Addr)) (fp : List Addr), SE P C G (X.blk s H scope (compEnvC scope cl D X.env) fp) W0 elt m) (hs : ∀ x, foldedSetIterable iter X.env x = pure x) (hs1 : ∀ env x, foldedSetIterable iter1 env x = pure x) :
    SE P C G X W (.ListComp elt [⟨tg, iter, ifs, 0⟩, ⟨tg1, iter1, ifs1, 0⟩] scope pos) (.lc2 b on m t mi cs own2 t2 mi2 cs2) := by
  subst e
  exact se_lc2 hc hN hi ok hv hu hu2 hg ht hi1 hg1 ht1 he hs hs1
/-! ### soundness -/
mutual
theorem okE : ∀ (m : ME) (c : Kx) (t : Bool) (e : Expr) (X : Cx) (W : WX), Fits T k G P C c X W → chE T m c t e = true → Mean P C G X W t e m
  | .var i, c, t, e, X, W, f, h => by
    simp only [chE] at h
    split at h
    · simp only [Bool.and_eq_true, decide_eq_true_eq] at h
      have d := dbg_of h.2
      exact Mean.of (se_var (by rw [f.N]; exact h.1.1) (by rw [f.sc]; exact vis_of h.1.2) d.1 d.2) rfl
    · cases h
  | .int i, c, t, e, X, W, f, h => by
    simp only [chE] at h
    split at h
    · rw [of_decide_eq_true h]
      exact Mean.of se_int rfl
    · cases h
  | .bl i, c, t, e, X, W, f, h => by
    simp only [chE] at h
    split at h
    · rw [of_decide_eq_true h]
      exact Mean.of se_bl rfl
    · cases h
  | .non, c, t, e, X, W, f, h => by
    simp only [chE] at h
    split at h
    · exact Mean.of se_non rfl
    · cases h
  | .str s, c, t, e, X, W, f, h => by
    simp only [chE] at h
    split at h
    · simp only [Bool.and_eq_true, decide_eq_true_eq] at h
      exact Mean.of (se_str h.1 (txt_of h.2)) rfl
    · cases h
  | .bin q o a b, c, t, e, X, W, f, h => by
    simp only [chE] at h
    split at h
    · simp only [Bool.and_eq_true, decide_eq_true_eq] at h
      have ha : SE P C G X W _ a := okE a c false _ X W f h.1.2
      have hb : SE P C G X W _ b := okE b c false _ X W f h.2
      rw [← op2Of_op h.1.1]
      exact Mean.of (se_bin ha hb) rfl
    · cases h
  | .neg a, c, t, e, X, W, f, h => by
    simp only [chE] at h
    split at h
    · have ha : SE P C G X W _ a := okE a c false _ X W f h
      exact Mean.of (se_neg ha) rfl
    · cases h
  | .cmp o a b, c, t, e, X, W, f, h => by
    simp only [chE] at h
    split at h
    · simp only [Bool.and_eq_true, decide_eq_true_eq] at h
      have ha : SE P C G X W _ a := okE a c false _ X W f h.1.1.2
      have hb : SE P C G X W _ b := okE b c false _ X W f h.1.2
      obtain rfl := h.1.1.1
      cases t with
      | false => exact se_cmpO f.good.hu ha hb h.2
      | true => exact st_cmpO f.good.hu ha hb h.2
    · cases h
  | .ch2 o q a b d, c, t, e, X, W, f, h => by
    simp only [chE] at h
    split at h
    · simp only [Bool.and_eq_true, decide_eq_true_eq] at h
      have ha : SE P C G X W _ a := okE a c false _ X W f h.1.1.1.2
      have hb : SE P C G X W _ b := okE b c false _ X W f h.1.1.2
      have hd : SE P C G X W _ d := okE d c false _ X W f h.1.2
      obtain rfl := h.1.1.1.1.1
      obtain rfl := h.1.1.1.1.2
      cases t with
      | false => exact se_ch2O f.good.hu ha hb hd h.2
      | true => exact st_ch2O f.good.hu ha hb hd h.2
    · cases h
  | .and a b, c, t, e, X, W, f, h => by
    simp only [chE] at h
    split at h
    · simp only [Bool.and_eq_true] at h
      have ha := okE a c t _ X W f h.1
      have hb := okE b c t _ X W f h.2
      cases t with
      | false => exact se_and ha (se_one hb)
      | true => exact sw_and (MeanT.st ha) (sw_one (MeanT.st hb))
    · simp only [Bool.and_eq_true] at h
      have ha := okE a c t _ X W f h.1
      have hb := okE b c t _ X W f h.2
      cases t with
      | false => exact se_and ha hb
      | true => exact sw_and (MeanT.st ha) hb
    · cases h
  | .or a b, c, t, e, X, W, f, h => by
    simp only [chE] at h
    split at h
    · simp only [Bool.and_eq_true] at h
      have ha := okE a c t _ X W f h.1
      have hb := okE b c t _ X W f h.2
      cases t with
      | false => exact se_or ha (se_one hb)
      | true => exact sw_or (MeanT.st ha) (sw_one (MeanT.st hb))
    · simp only [Bool.and_eq_true] at h
      have ha := okE a c t _ X W f h.1
      have hb := okE b c t _ X W f h.2
      cases t with
      | false => exact se_or ha hb
      | true => exact sw_or (MeanT.st ha) hb
    · cases h
  | .not a, c, t, e, X, W, f, h => by
    simp only [chE] at h
    split at h
    · have ha := okE a c t _ X W f h
      cases t with
      | false => exact se_not ha
      | true => exact st_not (MeanT.st ha)
    · cases h
  | .ite d a b, c, t, e, X, W, f, h => by
    simp only [chE] at h
    split at h
    · simp only [Bool.and_eq_true] at h
      have hd := okE d c true _ X W f h.1.1.2
      have ha : SE P C G X W _ a := okE a c false _ X W f h.1.2
      have hb : SE P C G X W _ b := okE b c false _ X W f h.2
      cases t with
      | false => exact se_ite (MeanT.st hd) ha hb
      | true => exact absurd h.1.1.1 (by decide)
    · cases h
  | .tup l, c, t, e, X, W, f, h => by
    simp only [chE] at h
    split at h
    · exact Mean.of (se_tup (okL l c _ X W f h).sa) rfl
    · cases h
  | .lst q l, c, t, e, X, W, f, h => by
    simp only [chE] at h
    split at h
    · exact Mean.of (se_lst (okL l c _ X W f h).sa) rfl
    · cases h
  | .ix a i, c, t, e, X, W, f, h => by
    simp only [chE] at h
    split at h
    · simp only [Bool.and_eq_true] at h
      have ha : SE P C G X W _ a := okE a c false _ X W f h.1.1
      have hb : SE P C G X W _ i := okE i c false _ X W f h.1.2
      exact Mean.of (se_ix ha hb (plain_ix h.2)) rfl
    · cases h
  | .sl q a lo hi, c, t, e, X, W, f, h => by
    simp only [chE] at h
    split at h
    · simp only [Bool.and_eq_true] at h
      have ha : SE P C G X W _ a := okE a c false _ X W f h.1.1
      exact Mean.of (se_sl ha (okO lo c _ X W f h.1.2) (okO hi c _ X W f h.2)) rfl
    · cases h
  | .rv q a, c, t, e, X, W, f, h => by
    simp only [chE] at h
    split at h
    · have ha : SE P C G X W _ a := okE a c false _ X W f h
      exact Mean.of (se_rv ha) rfl
    · cases h
  | .call fn l perm dfl, c, t, e, X, W, f, h => by
    simp only [chE] at h
    split at h
    · simp only [Bool.and_eq_true, List.any_eq_true, decide_eq_true_eq] at h
      obtain ⟨⟨⟨⟨⟨hg, hdb⟩, hkw⟩, r, hr, hrow⟩, hl⟩, hst⟩ := h
      obtain ⟨⟨⟨⟨⟨rfl, rfl⟩, hn⟩, hks⟩, rfl⟩, rfl⟩ := hrow
      have al := okL l c _ X W f hl
      obtain ⟨m1, m2, rfl, a1, a2⟩ := al.split
      have hk1 := a2.len
      rw [List.length_map] at hk1
      have st1 := hst
      unfold noStars at st1
      rw [List.all_cons, Bool.and_eq_true] at st1
      refine Mean.of (se_call f.good (f.calls r hr) (f.gl hg) a1.sa a2.sk (by rw [a1.len, hn]) (by rw [hk1, hks, kw_len hkw]) (kw_all hkw).1 (by rw [kw_names, hks]) (dbg_of hdb).1 (star_ns st1.1) ?_) rfl
      rw [any_ns hst, (kw_all hkw).2]
      rfl
    · simp only [Bool.and_eq_true, List.any_eq_true, decide_eq_true_eq] at h
      obtain ⟨⟨⟨⟨hg, hdb⟩, hkw⟩, r, hr, hrow⟩, hl⟩ := h
      obtain ⟨⟨⟨⟨⟨rfl, rfl⟩, hn⟩, hks⟩, rfl⟩, rfl⟩ := hrow
      have al := okL l c _ X W f hl
      have hk1 := al.len
      rw [List.length_map] at hk1
      have ct := f.calls r hr
      rw [hn] at ct
      refine Mean.of (se_call0 f.good ct (f.gl hg) al.sk (by rw [hk1, hks, kw_len hkw]) (kw_all hkw).1 (by rw [kw_names, hks]) (dbg_of hdb).1 ?_) rfl
      rw [(kw_all hkw).2]
      rfl
    · cases h
  | .b fn q l, c, t, e, X, W, f, h => by
    simp only [chE] at h
    split at h
    · simp only [Bool.and_eq_true, decide_eq_true_eq] at h
      obtain ⟨⟨⟨⟨hx, hfr⟩, hg⟩, hn⟩, hl⟩ := h
      have al := okL l c _ X W f hl
      have hm := f.free _ hfr
      have gl := f.gl hg
      have one : ∀ {es : List Expr}, es.length = 1 → AllE P C G X W l es → ∃ e m, es = [e] ∧ l = [m] ∧ SA P C G X W [e] [m] ∧ starEach [e] X.env = (false, eval e X.env) :: starEach [] X.env := fun {es} hn al => by
        rcases es with _ | ⟨e, _ | ⟨e2, r⟩⟩
        · cases hn
        · rcases l with _ | ⟨m, _ | ⟨m2, r⟩⟩
          · exact al.elim
          · exact ⟨e, m, rfl, rfl, al.sa, star_ns al.2.1⟩
          · exact al.2.2.elim
        · simp at hn
      have two : ∀ {es : List Expr} {pos : Pos}, es.length = 2 → AllE P C G X W l es → ∃ e e2 m m2, es = [e, e2] ∧ l = [m, m2] ∧ SA P C G X W [e, e2] [m, m2] ∧ starEach [e, e2] X.env = (false, eval e X.env) :: starEach [e2] X.env ∧ (backTo pos (starEach [e2] X.env)).any (·.1) = false := fun {es pos} hn al => by
        rcases es with _ | ⟨e, _ | ⟨e2, _ | ⟨e3, r⟩⟩⟩
        · cases hn
        · cases hn
        · rcases l with _ | ⟨m, _ | ⟨m2, _ | ⟨m3, r⟩⟩⟩
          · exact al.elim
          · exact al.2.2.elim
          · refine ⟨e, e2, m, m2, rfl, rfl, al.sa, star_ns al.2.1, any_ns ?_⟩
            have := al.2.2.2.1
            unfold noStars
            rw [List.all_cons, this]
            rfl
          · exact al.2.2.2.2.elim
        · simp at hn
      cases fn <;> first
        | (obtain ⟨e, m, rfl, rfl, a, s⟩ := one hn al
           obtain rfl := List.mem_singleton.mp hx
           exact Mean.of (se_len gl hm a s) rfl)
        | (obtain ⟨e, m, rfl, rfl, a, s⟩ := one hn al
           obtain rfl := List.mem_singleton.mp hx
           exact Mean.of (se_tuple gl hm a s) rfl)
        | (obtain ⟨e, m, rfl, rfl, a, s⟩ := one hn al
           obtain rfl := List.mem_singleton.mp hx
           exact Mean.of (se_list gl hm a s) rfl)
        | (obtain ⟨e, m, rfl, rfl, a, s⟩ := one hn al
           obtain rfl := List.mem_singleton.mp hx
           exact Mean.of (se_abs gl hm a s) rfl)
        | (obtain ⟨e, m, rfl, rfl, a, s⟩ := one hn al
           obtain rfl := List.mem_singleton.mp hx
           exact Mean.of (se_int1 gl hm a s) rfl)
        | (obtain ⟨e, m, rfl, rfl, a, s⟩ := one hn al
           obtain rfl := List.mem_singleton.mp hx
           exact Mean.of (se_all f.good.calm gl hm a s) rfl)
        | (obtain ⟨e, m, rfl, rfl, a, s⟩ := one hn al
           obtain rfl := List.mem_singleton.mp hx
           exact Mean.of (se_any f.good.calm gl hm a s) rfl)
        | (obtain ⟨e, m, rfl, rfl, a, s⟩ := one hn al
           obtain rfl := List.mem_singleton.mp hx
           exact Mean.of (se_sum f.good.calm gl hm a s) rfl)
        | (obtain ⟨e, m, rfl, rfl, a, s⟩ := one hn al
           obtain rfl := List.mem_singleton.mp hx
           exact Mean.of (se_sorted gl hm a s) rfl)
        | (obtain ⟨e, e2, m, m2, rfl, rfl, a, s, s2⟩ := two hn al
           obtain rfl := List.mem_singleton.mp hx
           exact Mean.of (se_max2 f.good.calm gl hm a s s2) rfl)
        | (obtain ⟨e, e2, m, m2, rfl, rfl, a, s, s2⟩ := two hn al
           obtain rfl := List.mem_singleton.mp hx
           exact Mean.of (se_min2 f.good.calm gl hm a s s2) rfl)
        | cases hx
    · cases h
  | .isi a ts, c, t, e, X, W, f, h => by
    simp only [chE] at h
    split at h
    · rename_i x px e1 e2 pos
      simp only [Bool.and_eq_true, decide_eq_true_eq] at h
      obtain ⟨⟨⟨⟨⟨rfl, hx⟩, gx⟩, ha⟩, hns⟩, h⟩ := h
      have ha : SE P C G X W _ a := okE a c false _ X W f ha
      rw [Bool.or_eq_true] at h
      rcases h with h | h
      · unfold isiT at h
        split at h
        · simp only [Bool.and_eq_true, decide_eq_true_eq] at h
          obtain ⟨⟨hy, gy⟩, hts⟩ := h
          have nb : ∀ (y : Str) (p : Pos), noStars [Expr.Name y p] = true := fun y p => rfl
          split at hts
          · rename_i ty
            have ety := of_decide_eq_true hts
            obtain ⟨nm, t1, t2, t3, t4⟩ := ty_facts ety
            exact Mean.of (se_isi (f.gl gx) (f.free _ hx) (f.gl gy) (f.free _ hy) t1 t2 t3 t4 ha (star_ns hns) (any_ns (nb _ _))) rfl
          · cases hts
        · simp only [Bool.and_eq_true, decide_eq_true_eq] at h
          obtain ⟨⟨⟨⟨hy, hy2⟩, gy⟩, gy2⟩, hts⟩ := h
          split at hts
          · rename_i ty ty2
            rw [Bool.and_eq_true, decide_eq_true_eq, decide_eq_true_eq] at hts
            obtain ⟨nm, t1, t2, t3, t4⟩ := ty_facts hts.1
            obtain ⟨nm2, u1, u2, u3, u4⟩ := ty_facts hts.2
            exact Mean.of (se_isiT (f.gl gx) (f.free _ hx) (f.gl gy) (f.free _ hy) t1 t2 t3 t4 (f.gl gy2) (f.free _ hy2) u1 u2 u3 u4 ha (star_ns hns) (any_ns rfl)) rfl
          · cases hts
        · cases h
      · unfold isiQ at h
        rw [Bool.and_eq_true, Bool.not_eq_true', List.isEmpty_eq_false_iff] at h
        obtain ⟨hne, h⟩ := h
        split at h
        · rename_i qs hqs
          rw [Bool.and_eq_true] at h
          obtain ⟨hq, h⟩ := h
          have hqi : ∀ q ∈ qs, QIn X T.excs q := fun q m => f.qin (List.all_eq_true.mp hq q m)
          split at h
          · rename_i y py
            split at h
            · rename_i ty q0
              have ey := of_decide_eq_true h
              subst ey
              have ht : tyQ ty = some q0 := by
                rw [List.mapM_cons] at hqs
                cases e1 : tyQ ty with
                | none => rw [e1] at hqs; cases hqs
                | some q2 => rw [e1] at hqs; cases hqs; rfl
              exact Mean.of (se_isX f.exs hne (f.gl gx) (f.free _ hx) ht (hqi q0 List.mem_cons_self) ha (star_ns hns) (any_ns rfl)) rfl
            · cases h
          · rename_i es n pt
            rw [Bool.and_eq_true, decide_eq_true_eq] at h
            obtain ⟨ps, rfl, hl⟩ := qExB_ok h.1
            exact Mean.of (se_isXT f.exs hne (f.gl gx) (f.free _ hx) hqs hl h.2 hqi ha (star_ns hns) (any_ns rfl)) rfl
          · cases h
        · cases h
    · cases h
  | .fld o n, c, t, e, X, W, f, h => by
    simp only [chE] at h
    split at h
    · simp only [Bool.and_eq_true, Bool.not_eq_true', List.isEmpty_eq_false_iff] at h
      obtain ⟨⟨⟨ho, hn⟩, hne⟩, hall⟩ := h
      have ho : SE P C G X W _ o := okE o c false _ X W f ho
      refine Mean.of (se_xfld f.exs (fun d ps hd hfl => ?_) ho (base_nc hn)) rfl
      obtain ⟨r, hr, rfl⟩ := f.exs.cov d hd
      have h1 := List.all_eq_true.mp hall r hr
      rw [f.exs.fl r hr] at hfl
      rw [hfl] at h1
      simpa using h1
    · cases h
  | .bm fn q o l, c, t, e, X, W, f, h => by
    simp only [chE] at h
    split at h
    · rename_i eo name apos es cpos
      simp only [Bool.and_eq_true, decide_eq_true_eq] at h
      obtain ⟨⟨⟨⟨hr, ho⟩, hl⟩, hn⟩, hli⟩ := h
      have al := okL l c _ X W f hl
      have so : SE P C G X W _ o := okE o c false _ X W f ho
      have zero : ∀ {es : List Expr}, es.length = 0 → AllE P C G X W l es → es = [] ∧ l = [] := fun {es} hn al => by
        rcases es with _ | ⟨e, r⟩
        · rcases l with _ | ⟨m, r⟩
          · exact ⟨rfl, rfl⟩
          · exact al.elim
        · cases hn
      have some1 : ∀ {es : List Expr}, AllE P C G X W l es → noStars es = true := fun {es} al => al.stars
      cases fn <;> first
        | (obtain ⟨rfl, hlen⟩ := Prod.mk.inj (Option.some.inj hr)
           obtain ⟨rfl, rfl⟩ := zero hlen.symm al
           first
             | exact Mean.of (se_bm0 rfl PySem.F.slot_list_reverse PySem.F.type_list_reverse mt_reverse so hn hli fun B M H S x p σ Q r hx q => bm_reverse hx r q) rfl
             | exact Mean.of (se_bm0 rfl PySem.F.slot_list_clear PySem.F.type_list_clear mt_clear so hn hli fun B M H S x p σ Q r hx q => bm_clear hx r q) rfl
             | exact Mean.of (se_bm0 rfl PySem.F.slot_list_pop PySem.F.type_list_pop mt_pop so hn hli fun B M H S x p σ Q r hx q => bm_pop hx r q) rfl)
        | (obtain ⟨rfl, hlen⟩ := Prod.mk.inj (Option.some.inj hr)
           rcases es with _ | ⟨e1, es⟩
           · cases hlen
           · have st1 := some1 al
             have st2 := st1
             unfold noStars at st2
             rw [List.all_cons, Bool.and_eq_true] at st2
             first
               | exact Mean.of (se_bm rfl PySem.F.slot_list_append PySem.F.type_list_append mt_append so al.sa hn hli (star_ns st2.1) (any_ns st1) (any_ns st2.2) (by rw [← hlen]; decide) fun B M H S x p vs xs σ Q r hx rv _ q => bm_append hx r rv q) rfl
               | exact Mean.of (se_bm rfl PySem.F.slot_list_pop PySem.F.type_list_pop mt_popAt so al.sa hn hli (star_ns st2.1) (any_ns st1) (any_ns st2.2) (by rw [← hlen]; decide) fun B M H S x p vs xs σ Q r hx rv _ q => bm_popAt hx r rv q) rfl
               | exact Mean.of (se_bm rfl PySem.F.slot_list_insert PySem.F.type_list_insert mt_insert so al.sa hn hli (star_ns st2.1) (any_ns st1) (any_ns st2.2) (by rw [← hlen]; decide) fun B M H S x p vs xs σ Q r hx rv _ q => bm_insert hx r rv q) rfl)
        | cases hr
    · cases h
  | .lc q own m tg i cs, c, t, e, X, W, f, h => by
    simp only [chE] at h
    split at h
    · simp only [Bool.and_eq_true, decide_eq_true_eq] at h
      obtain ⟨⟨⟨⟨⟨⟨hb, hu⟩, hns⟩, hi⟩, ht⟩, hif⟩, he⟩ := h
      have hb := blkOk_by hb
      rw [← f.sc, ← f.N] at hb
      refine Mean.of (se_lcN (us := slotsT tg) (by rw [f.N, own_map]) f.good.calm f.good.nd (okI i c _ _ X W f hi) hb hu (fun s H D cl fp => okT tg _ _ _ _ _ (f.blk s H D cl fp) ht) (fun s H D cl fp => okIf cs _ _ _ _ (f.blk s H D cl fp) hif)
        (fun s H D cl fp => okE m _ false _ _ _ (f.blk s H D cl fp) he) (fun x => fold_ns hns)) rfl
    · cases h
  | .lc2 q own m tg i cs own2 tg2 i2 cs2, c, t, e, X, W, f, h => by
    simp only [chE] at h
    split at h
    · simp only [Bool.and_eq_true, decide_eq_true_eq] at h
      obtain ⟨⟨⟨⟨⟨⟨⟨⟨⟨⟨⟨⟨hb, hu⟩, hu2⟩, ho⟩, hns⟩, hns2⟩, hi⟩, ht⟩, hif⟩, hi2⟩, ht2⟩, hif2⟩, he⟩ := h
      have hb := blkOk_by hb
      rw [← f.sc, ← f.N] at hb
      refine Mean.of (se_lc2N (us := slotsT tg) (us2 := slotsT tg2) (by rw [f.N, own_map]) f.good.calm f.good.nd (okI i c _ _ X W f hi) hb ho hu hu2 (fun s H D cl fp => okT tg _ _ _ _ _ (f.blk s H D cl fp) ht) (fun s H D cl fp => okIf cs _ _ _ _ (f.blk s H D cl fp) hif)
        (fun s H D cl fp => okI i2 _ _ _ _ _ (f.blk s H D cl fp) hi2) (fun s H D cl fp => okT tg2 _ _ _ _ _ (f.blk s H D cl fp) ht2) (fun s H D cl fp => okIf cs2 _ _ _ _ (f.blk s H D cl fp) hif2)
        (fun s H D cl fp => okE m _ false _ _ _ (f.blk s H D cl fp) he) (fun x => fold_ns hns) (fun env x => fold_ns hns2)) rfl
    · cases h
  | .glb _, c, t, e, X, W, f, h => by simp only [chE] at h; cases h
  | .ch3 .., c, t, e, X, W, f, h => by simp only [chE] at h; cases h
  | .dct .., c, t, e, X, W, f, h => by simp only [chE] at h; cases h
  | .blist .., c, t, e, X, W, f, h => by simp only [chE] at h; cases h
  | .meth .., c, t, e, X, W, f, h => by simp only [chE] at h; cases h
  | .new .., c, t, e, X, W, f, h => by simp only [chE] at h; cases h
  | .dc .., c, t, e, X, W, f, h => by simp only [chE] at h; cases h
  | .fstr .., c, t, e, X, W, f, h => by simp only [chE] at h; cases h
  | .never, c, t, e, X, W, f, h => by
    simp only [chE] at h
    exact Mean.of se_never h
theorem okL : ∀ (ms : List ME) (c : Kx) (es : List Expr) (X : Cx) (W : WX), Fits T k G P C c X W → chL T ms c es = true → AllE P C G X W ms es
  | [], c, es, X, W, f, h => by
    simp only [chL] at h
    split at h
    · trivial
    · cases h
  | m :: ms, c, es, X, W, f, h => by
    simp only [chL] at h
    split at h
    · simp only [Bool.and_eq_true] at h
      exact ⟨okE m c false _ X W f h.1.1, h.1.2, okL ms c _ X W f h.2⟩
    · cases h
theorem okIf : ∀ (ms : List ME) (c : Kx) (es : List Expr) (X : Cx) (W : WX), Fits T k G P C c X W → chIf T ms c es = true → STs P C G X W es ms
  | [], c, es, X, W, f, h => by
    simp only [chIf] at h
    split at h
    · exact sts_nil
    · cases h
  | m :: ms, c, es, X, W, f, h => by
    simp only [chIf] at h
    split at h
    · simp only [Bool.and_eq_true] at h
      have hm : MeanT P C G X W _ m := okE m c true _ X W f h.1
      cases ms with
      | nil => exact sts_one (MeanT.st hm)
      | cons m2 ms => simp only [chIf] at h; exact absurd h.2 (by decide)
    · cases h
theorem okO : ∀ (m : Option ME) (c : Kx) (e : Option Expr) (X : Cx) (W : WX), Fits T k G P C c X W → chO T m c e = true → SO P C G X W e m
  | none, c, e, X, W, f, h => by
    simp only [chO] at h
    cases e with
    | none => exact so_none
    | some e => cases h
  | some m, c, e, X, W, f, h => by
    simp only [chO] at h
    split at h
    · have hm : SE P C G X W _ m := okE m c false _ X W f h
      exact so_some hm
    · cases h
theorem okI : ∀ (i : MI) (c : Kx) (tg e : Expr) (X : Cx) (W : WX), Fits T k G P C c X W → chI T i c tg e = true → SI P C G X W tg e i
  | .ex m, c, tg, e, X, W, f, h => by
    simp only [chI] at h
    have hm : SE P C G X W _ m := okE m c false _ X W f h
    exact si_any hm
  | .rng l, c, tg, e, X, W, f, h => by
    simp only [chI] at h
    split at h
    · simp only [Bool.and_eq_true, Bool.or_eq_true, decide_eq_true_eq] at h
      obtain ⟨⟨⟨⟨rfl, hf⟩, hg⟩, hl⟩, hn⟩ := h
      have al := okL l c _ X W f hl
      rename_i es _
      rcases hn with hn | hn
      · rcases es with _ | ⟨e, _ | ⟨e2, r⟩⟩
        · cases hn
        · rcases l with _ | ⟨m, _ | ⟨m2, r⟩⟩
          · exact al.elim
          · exact si_rng1 (nm := .Name "range" ⟨0, 0, 0, 0⟩) (f.gl hg) (f.free _ hf) al.sa (star_ns al.2.1)
          · exact al.2.2.elim
        · simp at hn
      · rcases es with _ | ⟨e, _ | ⟨e2, _ | ⟨e3, r⟩⟩⟩
        · cases hn
        · cases hn
        · rcases l with _ | ⟨m, _ | ⟨m2, _ | ⟨m3, r⟩⟩⟩
          · exact al.elim
          · exact al.2.2.elim
          · exact si_rng2 (f.gl hg) (f.free _ hf) al.sa ((star_ns al.2.1).trans (by rw [star_ns al.2.2.2.1]; rfl)) (star_ns al.2.2.2.1)
          · exact al.2.2.2.2.elim
        · simp at hn
    · cases h
  | .enu m, c, tg, e, X, W, f, h => by
    simp only [chI] at h
    split at h
    · split at h
      · simp only [Bool.and_eq_true, decide_eq_true_eq] at h
        obtain ⟨⟨⟨⟨rfl, hf⟩, hg⟩, hm⟩, hns⟩ := h
        have hm : SE P C G X W _ m := okE m c false _ X W f hm
        exact si_enum (f.gl hg) (f.free _ hf) (sa_cons hm sa_nil (star_ns hns)) (star_ns hns)
      · cases h
    · cases h
  | .zip2 m1 m2, c, tg, e, X, W, f, h => by
    simp only [chI] at h
    split at h
    · split at h
      · simp only [Bool.and_eq_true, decide_eq_true_eq] at h
        obtain ⟨⟨⟨⟨⟨⟨rfl, hf⟩, hg⟩, h1⟩, n1⟩, h2⟩, n2⟩ := h
        have h1 : SE P C G X W _ m1 := okE m1 c false _ X W f h1
        have h2 : SE P C G X W _ m2 := okE m2 c false _ X W f h2
        exact si_zip (f.gl hg) (f.free _ hf) (sa_cons h1 (sa_cons h2 sa_nil (star_ns n2)) (star_ns n1)) (star_ns n1) (any_ns (by unfold noStars; rw [List.all_cons, n2]; rfl))
      · cases h
    · cases h
  | .enz m1 m2, c, tg, e, X, W, f, h => by
    simp only [chI] at h
    split at h
    · split at h
      · simp only [Bool.and_eq_true, decide_eq_true_eq] at h
        obtain ⟨⟨⟨⟨⟨⟨⟨⟨⟨rfl, hf2⟩, hg2⟩, rfl⟩, hf⟩, hg⟩, h1⟩, n1⟩, h2⟩, n2⟩ := h
        have h1 : SE P C G X W _ m1 := okE m1 c false _ X W f h1
        have h2 : SE P C G X W _ m2 := okE m2 c false _ X W f h2
        exact si_enz (f.gl hg2) (f.free _ hf2) (f.gl hg) (f.free _ hf) (sa_cons h1 (sa_cons h2 sa_nil (star_ns n2)) (star_ns n1)) (star_ns n1) (any_ns (by unfold noStars; rw [List.all_cons, n2]; rfl))
      · cases h
    · cases h
  | .zip .., c, tg, e, X, W, f, h => by simp only [chI] at h; cases h
  | .rvd _, c, tg, e, X, W, f, h => by simp only [chI] at h; cases h
  | .vals _, c, tg, e, X, W, f, h => by simp only [chI] at h; cases h
  | .items _, c, tg, e, X, W, f, h => by simp only [chI] at h; cases h
theorem okT : ∀ (t : MT) (c : Kx) (A : Nat → Bool) (e : Expr) (X : Cx) (W : WX), Fits T k G P C c X W → chT T t c A e = true → SG P C G X A W e t
  | .nm i, c, A, e, X, W, f, h => by
    simp only [chT] at h
    split at h
    · simp only [Bool.and_eq_true, Bool.or_eq_true, decide_eq_true_eq] at h
      obtain ⟨⟨⟨hN, hl⟩, hc⟩, ha⟩ := h
      refine sg_name f.good.nd (by rw [f.N]; exact hN) (by rw [f.sc]; exact loc_of_b hl) ?_ ha
      rcases hc with hc | hc
      · exact .inl (f.fn _ hc)
      · exact .inr (by rw [f.sc]; exact hc)
    · cases h
  | .tup l, c, A, e, X, W, f, h => by
    simp only [chT] at h
    split at h
    · obtain ⟨h1, h2, h3⟩ := okTs l c A _ X W f h
      exact sg_tup f.good.calm h1 (by rw [asg_len, h2]) (asg_find h3)
    · cases h
  | .sub o i, c, A, e, X, W, f, h => by
    simp only [chT] at h
    split at h
    · simp only [Bool.and_eq_true] at h
      have h1 : SE P C G X W _ o := okE o c false _ X W f h.1.1
      have h2 : SE P C G X W _ i := okE i c false _ X W f h.1.2
      exact sg_sub h1 h2 (asg_sub h.2)
    · cases h
  | .fld .., c, A, e, X, W, f, h => by simp only [chT] at h; cases h
  | .star1 .., c, A, e, X, W, f, h => by simp only [chT] at h; cases h
theorem okTs : ∀ (ts : List MT) (c : Kx) (A : Nat → Bool) (es : List Expr) (X : Cx) (W : WX), Fits T k G P C c X W → chTs T ts c A es = true → SGs P C G X A W es ts ∧ es.length = ts.length ∧ noStars es = true
  | [], c, A, es, X, W, f, h => by
    simp only [chTs] at h
    split at h
    · exact ⟨sgs_nil, rfl, rfl⟩
    · cases h
  | t :: ts, c, A, es, X, W, f, h => by
    simp only [chTs] at h
    split at h
    · simp only [Bool.and_eq_true] at h
      obtain ⟨h1, h2, h3⟩ := okTs ts c A _ X W f h.2
      refine ⟨sgs_cons (okT t c A _ X W f h.1.1) h1 ?_, by simp [h2], ?_⟩
      · rw [asg_ns h.1.2]
        rfl
      · unfold noStars at h3 ⊢
        rw [List.all_cons, h.1.2, h3]
        rfl
    · cases h
end
end
end G

namespace G
open PySem PySem.Spec PyProof.Rows L2
/-! ### statements -/
/-- name = [..] on one line -/
def swapB (sc : Scope) (tg e : Expr) : Bool := match e with
  | .ListComp _ _ s p => (match tg with
    | .Name y py => decide (sc.names.lookup y = some .local) && (py.line == p.line) && !(s.names.any fun (n, k) => n == y && (k == .local || k == .cell))
    | _ => false)
  | _ => false
def compOk : Expr → Bool
  | .SetComp .. => false
  | .DictComp .. => false
  | _ => true
def parNames (sc : Scope) (ts : List Expr) : List Str := ts.filterMap fun e => match e with
  | .Name id pos => if sc.names.lookup id == some .local && pos.line == (ts.head?.map (·.pos.line)).getD 0 then some id else none
  | _ => none
def isStar : Expr → Bool
  | .Starred .. => true
  | _ => false
def parB (sc : Scope) (tg e : Expr) : Option (List Str) := match tg, e with
  | .Tuple ts _ _, .Tuple vs _ _ =>
    if (!(ts.length == 2 || ts.length == 3) || vs.length != ts.length) = true then none
    else if vs.any isStar = true then none
    else if ((parNames sc ts).length != ts.length || (parNames sc ts).eraseDups.length != (parNames sc ts).length) = true then none
    else if vs.all (foldedForSure 8) = true then none
    else some (parNames sc ts)
  | _, _ => none
def constB : Expr → Bool
  | .Tuple vs _ _ => vs.all (constantsAlone 8)
  | _ => false
def noListT : Expr → Bool
  | .List .. => false
  | _ => true
theorem swaps_eq {sc : Scope} {tg e : Expr} {l : Nat} {env : PySem.Env} (hs : env.scope = sc) (hk : sc.kind = .function) (hc : compOk e = true) : swapsWithSole [tg] e l env = pure (swapB sc tg e) := by
  have hb : env.blockKind = .function := by unfold Env.blockKind; rw [hs, hk]; rfl
  show swapsWith e (some tg) l env = _
  cases e with
  | ListComp elt gs s p =>
    cases tg with
    | Name y py =>
      have ky : env.kindOf y = sc.names.lookup y := by show env.scope.names.lookup y = _; rw [hs]
      unfold swapsWith swapB
      simp only [hb, ky, Expr.pos]
      cases h1 : sc.names.lookup y with
      | none => rfl
      | some k => cases k <;> first | rfl | (simp; rfl)
    | _ => rfl
  | SetComp => cases hc
  | DictComp => cases hc
  | _ => cases tg <;> rfl
theorem par_eq {sc : Scope} {tg e : Expr} {env : PySem.Env} (hs : env.scope = sc) (hk : sc.kind = .function) (hl : noListT tg = true) (hc : parB sc tg e ≠ none → constB e = false) : swappedStores [tg] e env = pure (parB sc tg e) := by
  have hb : env.blockKind = .function := by unfold Env.blockKind; rw [hs, hk]; rfl
  cases tg with
  | Tuple ts k1 p1 =>
    cases e with
    | Tuple vs k2 p2 =>
      unfold swappedStores
      simp only [hb]
      generalize hg : List.filterMap _ ts = nm
      generalize hg2 : List.any vs _ = st
      have hn : nm = parNames sc ts := by
        rw [← hg]
        unfold parNames
        congr 1
        funext e
        cases e with
        | Name id pos =>
          have ky : env.kindOf id = sc.names.lookup id := by show env.scope.names.lookup id = _; rw [hs]
          simp only [ky]
        | _ => rfl
      have hst : st = vs.any isStar := by
        rw [← hg2]
        rfl
      subst hn
      subst hst
      clear hg hg2
      have e0 : (!(ts.length == 2 || ts.length == 3) || vs.length != ts.length || ScopeKind.function != ScopeKind.function) = (!(ts.length == 2 || ts.length == 3) || vs.length != ts.length) := by
        rw [show (ScopeKind.function != ScopeKind.function) = false from rfl, Bool.or_false]
      rw [e0]
      unfold parB at hc ⊢
      unfold constB at hc
      simp only at hc ⊢
      by_cases h1 : (!(ts.length == 2 || ts.length == 3) || vs.length != ts.length) = true
      · rw [if_pos h1, if_pos h1]
      · rw [if_neg h1, if_neg h1]
        rw [if_neg h1] at hc
        by_cases h2 : vs.any isStar = true
        · rw [if_pos h2, if_pos h2]
        · rw [if_neg h2, if_neg h2]
          rw [if_neg h2] at hc
          by_cases h3 : ((parNames sc ts).length != ts.length || (parNames sc ts).eraseDups.length != (parNames sc ts).length) = true
          · rw [if_pos h3, if_pos h3]
          · rw [if_neg h3, if_neg h3]
            rw [if_neg h3] at hc
            by_cases h4 : vs.all (foldedForSure 8) = true
            · rw [if_pos h4, if_pos h4]
            · rw [if_neg h4, if_neg h4]
              rw [if_neg h4] at hc
              have h5 := hc (by simp)
              rw [if_neg (by rw [h5]; exact Bool.false_ne_true)]
    | _ => rfl
  | List => cases hl
  | _ => cases e <;> rfl
section
variable (T : Tab)
def chA (c : Kx) (A : Nat → Bool) (t : MT) (m : ME) (tg e : Expr) : Bool :=
  compOk e && noListT tg && noStar tg && (match parB c.sc tg e with
  | some names => !(constB e) && (match tg, e, t, m with
    | .Tuple [.Name x _, .Name y _] _ _, .Tuple [a, b] _ _, .tup [.nm i, .nm j], .tup [ma, mb] =>
      decide (names = [x, y]) && decide (c.N[i]? = some x) && decide (c.N[j]? = some y) && decide (i ≠ j) && decide (c.sc.names.lookup x = some .local) && decide (c.sc.names.lookup y = some .local) && A i && A j && chL T [ma, mb] c [a, b]
    | .Tuple [.Name x _, .Name y _, .Name z _] _ _, .Tuple [a, b, d] _ _, .tup [.nm i, .nm j, .nm l], .tup [ma, mb, md] =>
      decide (names = [x, y, z]) && decide (c.N[i]? = some x) && decide (c.N[j]? = some y) && decide (c.N[l]? = some z) && decide (i ≠ j) && decide (i ≠ l) && decide (j ≠ l) && decide (c.sc.names.lookup x = some .local) && decide (c.sc.names.lookup y = some .local) && decide (c.sc.names.lookup z = some .local) && A i && A j && A l && chL T [ma, mb, md] c [a, b, d]
    | _, _, _, _ => false)
  | none => (match swapB c.sc tg e with
    | true => (match tg, t with
      | .Name y _, .nm i => decide (c.N[i]? = some y) && decide (c.sc.names.lookup y = some .local) && A i && isLc m && chE T m c false e
      | _, _ => false)
    | false => chE T m c false e && chT T t c A tg))
where isLc : ME → Bool
  | .lc .. => true
  | .lc2 .. => true
  | _ => false
/-- the classes of a clause -/
def teB (T : Tab) (c : Kx) (cs : List (Bool × Nat)) (e : Expr) : Bool := cs.all (qInB T c) && (match e with
  | .Name y _ => (match cs with
    | [q] => decide (qNm q = y)
    | _ => false)
  | .Tuple es _ _ => qExB cs es && decide (2 ≤ cs.length) && decide (cs.length ≤ 4)
  | _ => false)
/-- a suite's only statement -/
def chSu (T : Tab) (c : Kx) (A : Nat → Bool) (su : List MS) (ss : List Stmt) : Bool := match su, ss with
  | [.asg (.nm j) (.var l)], [.Assign [.Name y _] (.Name x _) _] => decide (c.N[j]? = some y) && locB c.sc y && (c.cellOk y || decide (c.sc.names.lookup y = some .local)) && A j && decide (c.N[l]? = some x) && visB c.sc x && dbgOk x
  | [.ret .non], [.Return (some (.Constant .none _ _)) _] => true
  | [.ret (.fld (.var l) n)], [.Return (some (.Attribute (.Name x _) f _)) _] => decide (c.N[l]? = some x) && visB c.sc x && dbgOk x && (T.excs.all fun r => match r.fl with
      | n' :: _ => !(decide (n' = n)) || decide (fldN r.c = f)
      | [] => true)
  | _, _ => false
mutual
def chS : MS → Kx → (Nat → Bool) → Stmt → Bool
  | .expr m, c, A, s => (match s with
    | .Expr e _ => chE T m c false e && noComp e
    | _ => false)
  | .ret m, c, A, s => (match s with
    | .Return (some e) _ => chE T m c false e
    | .Return none _ => (match m with | .non => true | _ => false)
    | _ => false)
  | .asg t m, c, A, s => (match s with
    | .Assign [tg] e _ => chA T c A t m tg e
    | _ => false)
  | .ite m a b, c, A, s => (match s with
    | .If e x y _ => chE T m c true e && chSs a c A x && chSs b c A y
    | _ => false)
  | .for_ t i b, c, A, s => (match s with
    | .For tg iter body [] _ => noSet iter && chI T i c tg iter && chT T t c A tg && chSs b c A body
    | _ => false)
  | .brk, c, A, s => (match s with | .Break _ => true | _ => false)
  | .cont, c, A, s => (match s with | .Continue _ => true | _ => false)
  | .pass, c, A, s => (match s with | .Pass _ => true | .Expr (.Constant (.str _) _ _) _ => true | _ => false)
  | .never, c, A, s => true
  | .raise q l, c, A, s => (match s with
    | .Raise (some (.Call (.Name x _) [e] [] _)) none _ => (match l with
      | [m] => (T.excs.any fun r => decide (r.c = q) && decide (clsN r.c = x) && decide (r.nf ≠ 0)) && glB c.sc x && chE T m c false e && noStar e
      | _ => false)
    | .Raise (some (.Call (.Name x _) [] [] _)) none _ => (match l with
      | [] => (T.excs.any fun r => decide (r.c = q) && decide (clsN r.c = x) && decide (r.nf = 0)) && glB c.sc x
      | _ => false)
    | _ => false)
  | .try_ w b cs i su, c, A, s => (match s with
    | .Try body [.ExceptHandler (some te) (some n) (b0 :: suite) _] [] [] _ =>
      decide (c.N[i]? = some n) && decide (c.sc.names.lookup n = some .local) && A i && w.all A && teB T c cs te && chSs b c (inL w) body && chSu T c A su (b0 :: suite)
    | _ => false)
  | _, _, _, _ => false
def chSs : List MS → Kx → (Nat → Bool) → List Stmt → Bool
  | [], c, A, ss => (match ss with | [] => true | _ => false)
  | m :: ms, c, A, ss => (match ss with
    | s :: r => chS m c A s && chSs ms c A r
    | _ => false)
end
end
section
variable {T : Tab} {k : Nat} {P : Prog} {C : Nat → List PV → Store → R PV} {G : Nm} {c : Kx} {X : Cx} {W : WX} {A : Nat → Bool}
theorem noComp_sw {e : Expr} {l : Nat} {env : PySem.Env} (h : noComp e = true) : swapsWith e none l env = pure false := by
  cases e <;> first | rfl | cases h
theorem pure_true {sc : Scope} {e tg : Expr} {l : Nat} {env : PySem.Env} (hs : env.scope = sc) (hk : sc.kind = .function) (hc : compOk e = true) (h : swapB sc tg e = true) : swapsWith e (some tg) l env = pure true := by
  have q : swapsWithSole [tg] e l env = pure (swapB sc tg e) := swaps_eq hs hk hc
  rw [h] at q
  exact q
theorem ok_lc {q : Bool} {own : List Nat} {m : ME} {tgt : MT} {i0 : MI} {cs : List ME} {e : Expr} {i : Nat} {y : Str} {py pos : Pos} (f : Fits T k G P C c X W) (hk : c.sc.kind = .function) (h : chE T (.lc q own m tgt i0 cs) c false e = true) (hN : c.N[i]? = some y) (hl : c.sc.names.lookup y = some .local) (ha : A i = true) (hsw : swapB c.sc (.Name y py) e = true) :
    SS P C G X A W (.Assign [.Name y py] e pos) (.asg (.nm i) (.lc q own m tgt i0 cs)) := by
  simp only [chE] at h
  split at h
  · simp only [Bool.and_eq_true, decide_eq_true_eq] at h
    obtain ⟨⟨⟨⟨⟨⟨hb, hu⟩, hns⟩, hi⟩, ht⟩, hif⟩, he⟩ := h
    have hb := blkOk_by hb
    rw [← f.sc, ← f.N] at hb
    have eo : (ownP X.N own).map (·.2) = own := by rw [own_map]
    have z := fun b => ss_setLc (P := P) (C := C) (G := G) (W := W) (us := slotsT tgt) (b := b) (pos2 := pos) (py := py) (A := A) (i := i) f.good.calm f.good.nd (by rw [f.N]; exact hN) (by rw [f.sc]; exact hl) (pure_true f.sc hk rfl hsw) (okI i0 c _ _ X W f hi) hb (by rw [eo]; exact hu) ha
      (fun s H D cl fp => okT tgt _ _ _ _ _ (f.blk s H D cl fp) ht) (fun s H D cl fp => okIf cs _ _ _ _ (f.blk s H D cl fp) hif) (fun s H D cl fp => okE m _ false _ _ _ (f.blk s H D cl fp) he) (fun x => fold_ns hns)
    have z2 := z q
    rw [eo] at z2
    exact z2
  · cases h
theorem ok_lc2 {q : Bool} {own own2 : List Nat} {m : ME} {tgt tg2 : MT} {i0 i2 : MI} {cs cs2 : List ME} {e : Expr} {i : Nat} {y : Str} {py pos : Pos} (f : Fits T k G P C c X W) (hk : c.sc.kind = .function) (h : chE T (.lc2 q own m tgt i0 cs own2 tg2 i2 cs2) c false e = true) (hN : c.N[i]? = some y) (hl : c.sc.names.lookup y = some .local) (ha : A i = true) (hsw : swapB c.sc (.Name y py) e = true) :
    SS P C G X A W (.Assign [.Name y py] e pos) (.asg (.nm i) (.lc2 q own m tgt i0 cs own2 tg2 i2 cs2)) := by
  simp only [chE] at h
  split at h
  · simp only [Bool.and_eq_true, decide_eq_true_eq] at h
    obtain ⟨⟨⟨⟨⟨⟨⟨⟨⟨⟨⟨⟨hb, hu⟩, hu2⟩, ho⟩, hns⟩, hns2⟩, hi⟩, ht⟩, hif⟩, hi2⟩, ht2⟩, hif2⟩, he⟩ := h
    have hb := blkOk_by hb
    rw [← f.sc, ← f.N] at hb
    have eo : (ownP X.N own).map (·.2) = own := by rw [own_map]
    have z := fun b => ss_setLc2 (P := P) (C := C) (G := G) (W := W) (us := slotsT tgt) (us2 := slotsT tg2) (own2 := own2) (b := b) (pos2 := pos) (py := py) (A := A) (i := i) f.good.calm f.good.nd (by rw [f.N]; exact hN) (by rw [f.sc]; exact hl) (pure_true f.sc hk rfl hsw) (okI i0 c _ _ X W f hi) hb (by rw [eo]; exact ho) ha (by rw [eo]; exact hu) hu2
      (fun s H D cl fp => okT tgt _ _ _ _ _ (f.blk s H D cl fp) ht) (fun s H D cl fp => okIf cs _ _ _ _ (f.blk s H D cl fp) hif)
      (fun s H D cl fp => okI i2 _ _ _ _ _ (f.blk s H D cl fp) hi2) (fun s H D cl fp => okT tg2 _ _ _ _ _ (f.blk s H D cl fp) ht2) (fun s H D cl fp => okIf cs2 _ _ _ _ (f.blk s H D cl fp) hif2)
      (fun s H D cl fp => okE m _ false _ _ _ (f.blk s H D cl fp) he) (fun x => fold_ns hns) (fun env x => fold_ns hns2)
    have z2 := z q
    rw [eo] at z2
    exact z2
  · cases h
theorem okA {t : MT} {m : ME} {tg e : Expr} {pos : Pos} (f : Fits T k G P C c X W) (hk : c.sc.kind = .function) (h : chA T c A t m tg e = true) : SS P C G X A W (.Assign [tg] e pos) (.asg t m) := by
  unfold chA at h
  simp only [Bool.and_eq_true] at h
  obtain ⟨⟨⟨hco, hnl⟩, hst⟩, h⟩ := h
  have sw : ∀ l, swapsWithSole [tg] e l X.env = pure (swapB c.sc tg e) := fun l => swaps_eq f.sc hk hco
  split at h
  · rename_i names hpar
    simp only [Bool.and_eq_true, Bool.not_eq_true'] at h
    have hw : swappedStores [tg] e X.env = pure (some names) := by rw [par_eq f.sc hk hnl (fun _ => h.1), hpar]
    replace h := h.2
    split at h
    · simp only [Bool.and_eq_true, decide_eq_true_eq] at h
      obtain ⟨⟨⟨⟨⟨⟨⟨⟨rfl, h1⟩, h2⟩, h3⟩, h4⟩, h5⟩, h6⟩, h7⟩, h8⟩ := h
      exact ss_par f.good.calm f.good.nd (by rw [f.N]; exact h1) (by rw [f.N]; exact h2) h3 (by rw [f.sc]; exact h4) (by rw [f.sc]; exact h5) (okL _ c _ X W f h8).sa hw (sw _) h6 h7
    · simp only [Bool.and_eq_true, decide_eq_true_eq] at h
      obtain ⟨⟨⟨⟨⟨⟨⟨⟨⟨⟨⟨⟨⟨rfl, h1⟩, h2⟩, h3⟩, h4⟩, h5⟩, h6⟩, h7⟩, h8⟩, h9⟩, h10⟩, h11⟩, h12⟩, h13⟩ := h
      exact ss_par3 f.good.calm f.good.nd (by rw [f.N]; exact h1) (by rw [f.N]; exact h2) (by rw [f.N]; exact h3) h4 h5 h6 (by rw [f.sc]; exact h7) (by rw [f.sc]; exact h8) (by rw [f.sc]; exact h9) (okL _ c _ X W f h13).sa hw (sw _) h10 h11 h12
    · cases h
  · rename_i hpar
    split at h
    · rename_i hsw
      split at h
      · simp only [Bool.and_eq_true, decide_eq_true_eq] at h
        obtain ⟨⟨⟨⟨h1, h2⟩, h3⟩, h4⟩, h5⟩ := h
        cases m with
        | lc q own m tgt i0 cs => exact ok_lc f hk h5 h1 h2 h3 hsw
        | lc2 q own m tgt i0 cs own2 tg2 i2 cs2 => exact ok_lc2 f hk h5 h1 h2 h3 hsw
        | _ => exact absurd h4 (by unfold chA.isLc; exact Bool.false_ne_true)
      · cases h
    · rename_i hsw
      simp only [Bool.and_eq_true] at h
      have hw : swappedStores [tg] e X.env = pure none := by rw [par_eq f.sc hk hnl (fun z => absurd hpar z), hpar]
      have hm : SE P C G X W e m := okE m c false _ X W f h.1
      refine ss_asg hm (okT t c A _ X W f h.2) (by rw [sw, hsw]) hw ?_
      rw [asg_ns hst]
      rfl
/-- a function's own level -/
structure Lvl (X : Cx) : Prop where
  hs : X.stack = X.env :: X.outer
  hf : X.env.frame = some X.env.locals
  hx : X.ex = []
theorem Fits.tr (f : Fits T k G P C c X W) {W' : WX} (pn : List (Addr × Obj)) (xe : Value → Shared → Prop) (tk : Takes (X.tr pn xe) W') (ow : PassesOwn (model X.prog X.w) X.A X.env xe) : Fits T k G P C c (X.tr pn xe) W' :=
  ⟨⟨f.good.calm, f.good.nd, f.good.room, tk, ow⟩, f.N, f.sc, f.fn, f.calls, f.free, f.exs, f.ini, f.lv⟩
theorem te_ok {cs : List (Bool × Nat)} {te : Expr} (f : Fits T k G P C c X W) (h : teB T c cs te = true) : TestOk X te (cs.map (qVal X.K)) ∧ ∀ q ∈ cs, qOk T.excs q = true := by
  unfold teB at h
  rw [Bool.and_eq_true] at h
  obtain ⟨h1, h⟩ := h
  have hq : ∀ q ∈ cs, QIn X T.excs q := fun q m => f.qin (List.all_eq_true.mp h1 q m)
  have nm : ∀ q ∈ cs, Names X (qNm q) (qVal X.K q) := fun q m => (hq q m).names f.exs
  refine ⟨?_, fun q m => (hq q m).ok⟩
  split at h
  · split at h
    · rename_i q
      have e := of_decide_eq_true h
      subst e
      exact test1 (nm q List.mem_cons_self)
    · cases h
  · simp only [Bool.and_eq_true, decide_eq_true_eq] at h
    obtain ⟨⟨h3, h4⟩, h5⟩ := h
    obtain ⟨ps, rfl, hl⟩ := qExB_ok h3
    rcases cs with _ | ⟨q1, _ | ⟨q2, _ | ⟨q3, _ | ⟨q4, _ | ⟨q5, t⟩⟩⟩⟩⟩
    · simp at h4
    · simp at h4
    · rcases ps with _ | ⟨p1, _ | ⟨p2, _ | ⟨p3, t⟩⟩⟩ <;> try (simp at hl; done)
      exact test2 (nm q1 (by simp)) (nm q2 (by simp))
    · rcases ps with _ | ⟨p1, _ | ⟨p2, _ | ⟨p3, _ | ⟨p4, t⟩⟩⟩⟩ <;> try (simp at hl; done)
      exact test3 (nm q1 (by simp)) (nm q2 (by simp)) (nm q3 (by simp))
    · rcases ps with _ | ⟨p1, _ | ⟨p2, _ | ⟨p3, _ | ⟨p4, _ | ⟨p5, t⟩⟩⟩⟩⟩ <;> try (simp at hl; done)
      exact test4 (nm q1 (by simp)) (nm q2 (by simp)) (nm q3 (by simp)) (nm q4 (by simp))
    · simp at h5
  · cases h
theorem su_ok {su : List MS} {ss : List Stmt} (f : Fits T k G P C c X W) (hk : c.sc.kind = .function) (h : chSu T c A su ss = true) (a : Addr) (pn : List (Addr × Obj)) : SSs P C G (cxSuite X a pn) A W0 ss su := by
  unfold chSu at h
  split at h
  · simp only [Bool.and_eq_true, decide_eq_true_eq] at h
    obtain ⟨⟨⟨⟨⟨⟨h1, h2⟩, h3⟩, h4⟩, h5⟩, h6⟩, h7⟩ := h
    have e1 : ∀ pp : Pos, SE P C G (cxSuite X a pn) W0 (.Name _ pp) _ := fun pp => se_var (pos := pp) (P := P) (C := C) (G := G) (W := W0) (X := cxSuite X a pn) (by show X.N[_]? = _; rw [f.N]; exact h5) (by show Vis X.env.scope _; rw [f.sc]; exact vis_of h6) (dbg_of h7).1 (dbg_of h7).2
    have t1 : ∀ pp : Pos, SG P C G (cxSuite X a pn) A W0 (.Name _ pp) _ := fun pp => sg_name (pos := pp) (X := cxSuite X a pn) f.good.nd (by show X.N[_]? = _; rw [f.N]; exact h1) (by show Loc X.env.scope _; rw [f.sc]; exact loc_of_b h2) (by
      rw [Bool.or_eq_true, decide_eq_true_eq] at h3
      rcases h3 with h3 | h3
      · exact .inl (f.fn _ h3)
      · exact .inr (by show X.env.scope.names.lookup _ = _; rw [f.sc]; exact h3)) h4
    exact sl_cons (ss_asg (e1 _) (t1 _) (swaps_eq f.sc hk rfl) (par_eq f.sc hk rfl fun _ => rfl) rfl) sl_nil
  · exact sl_cons (ss_ret se_non) sl_nil
  · simp only [Bool.and_eq_true, decide_eq_true_eq] at h
    obtain ⟨⟨⟨h5, h6⟩, h7⟩, hall⟩ := h
    have e1 : ∀ pp : Pos, SE P C G (cxSuite X a pn) W0 (.Name _ pp) _ := fun pp => se_var (pos := pp) (P := P) (C := C) (G := G) (W := W0) (X := cxSuite X a pn) (by show X.N[_]? = _; rw [f.N]; exact h5) (by show Vis X.env.scope _; rw [f.sc]; exact vis_of h6) (dbg_of h7).1 (dbg_of h7).2
    refine sl_cons (ss_ret (se_xfld f.exs (fun d ps hd hfl => ?_) (e1 _) rfl)) sl_nil
    obtain ⟨r, hr, rfl⟩ := f.exs.cov d hd
    have h1 := List.all_eq_true.mp hall r hr
    rw [f.exs.fl r hr] at hfl
    rw [hfl] at h1
    simpa using h1
  · cases h
mutual
theorem okS : ∀ (m : MS) (c : Kx) (A : Nat → Bool) (s : Stmt) (X : Cx) (W : WX), Fits T k G P C c X W → c.sc.kind = .function → Lvl X → chS T m c A s = true → SS P C G X A W s m
  | .expr m, c, A, s, X, W, f, hk, L, h => by
    simp only [chS] at h
    split at h
    · simp only [Bool.and_eq_true] at h
      have hm : SE P C G X W _ m := okE m c false _ X W f h.1
      exact ss_expr hm (noComp_sw h.2)
    · cases h
  | .ret m, c, A, s, X, W, f, hk, L, h => by
    simp only [chS] at h
    split at h
    · have hm : SE P C G X W _ m := okE m c false _ X W f h
      exact ss_ret hm
    · split at h
      · exact ss_retN
      · cases h
    · cases h
  | .asg t m, c, A, s, X, W, f, hk, L, h => by
    simp only [chS] at h
    split at h
    · exact okA f hk h
    · cases h
  | .ite m a b, c, A, s, X, W, f, hk, L, h => by
    simp only [chS] at h
    split at h
    · simp only [Bool.and_eq_true] at h
      exact ss_if (MeanT.st (okE m c true _ X W f h.1.1)) (okSs a c A _ X W f hk L h.1.2) (okSs b c A _ X W f hk L h.2)
    · cases h
  | .for_ t i b, c, A, s, X, W, f, hk, L, h => by
    simp only [chS] at h
    split at h
    · simp only [Bool.and_eq_true] at h
      exact ss_for f.good (okI i c _ _ X W f h.1.1.2) (okT t c A _ X W f h.1.2) (okSs b c A _ X W f hk L h.2) (fun x => fold_ns h.1.1.1)
    · cases h
  | .brk, c, A, s, X, W, f, hk, L, h => by
    simp only [chS] at h
    split at h
    · exact ss_brk
    · cases h
  | .cont, c, A, s, X, W, f, hk, L, h => by
    simp only [chS] at h
    split at h
    · exact ss_cont
    · cases h
  | .pass, c, A, s, X, W, f, hk, L, h => by
    simp only [chS] at h
    split at h
    · exact ss_pass
    · exact ss_doc
    · cases h
  | .never, c, A, s, X, W, f, hk, L, h => ss_never
  | .aug .., c, A, s, X, W, f, hk, L, h => by simp only [chS] at h; cases h
  | .augS .., c, A, s, X, W, f, hk, L, h => by simp only [chS] at h; cases h
  | .whl .., c, A, s, X, W, f, hk, L, h => by simp only [chS] at h; cases h
  | .raise q l, c, A, s, X, W, f, hk, L, h => by
    simp only [chS] at h
    split at h
    · split at h
      · simp only [Bool.and_eq_true, List.any_eq_true, decide_eq_true_eq] at h
        obtain ⟨⟨⟨⟨r, hr, ⟨rfl, rfl⟩, hnf⟩, hg⟩, he⟩, hns⟩ := h
        exact ss_raise1 f.good f.lv f.exs hr (f.ini r hr) hnf (f.gl hg) (show SE P C G X W _ _ from okE _ c false _ X W f he) (star_ns hns)
      · cases h
    · split at h
      · simp only [Bool.and_eq_true, List.any_eq_true, decide_eq_true_eq] at h
        obtain ⟨⟨r, hr, ⟨rfl, rfl⟩, hnf⟩, hg⟩ := h
        exact ss_raise0 f.good f.lv f.exs hr (f.ini r hr) hnf (f.gl hg)
      · cases h
    · cases h
  | .try_ w b cs i su, c, A, s, X, W, f, hk, L, h => by
    simp only [chS] at h
    split at h
    · simp only [Bool.and_eq_true, decide_eq_true_eq] at h
      obtain ⟨⟨⟨⟨⟨⟨h1, h2⟩, h3⟩, h4⟩, h5⟩, h6⟩, h7⟩ := h
      obtain ⟨t1, t2⟩ := te_ok f h5
      exact ss_try f.good f.exs L.hs L.hf L.hx (by rw [f.N]; exact h1) (by show X.env.scope.names.lookup _ = _; rw [f.sc]; exact h2) t1 t2 (fun j hj => List.all_eq_true.mp h4 j (by unfold inL at hj; simpa using hj)) h3
        (fun W' pn xe tk ow => okSs b c (inL w) _ _ W' (f.tr pn xe tk ow) hk ⟨L.hs, L.hf, L.hx⟩ h6) (fun a pn => su_ok f hk h7 a pn)
    · cases h
theorem okSs : ∀ (ms : List MS) (c : Kx) (A : Nat → Bool) (ss : List Stmt) (X : Cx) (W : WX), Fits T k G P C c X W → c.sc.kind = .function → Lvl X → chSs T ms c A ss = true → SSs P C G X A W ss ms
  | [], c, A, ss, X, W, f, hk, L, h => by
    simp only [chSs] at h
    split at h
    · exact sl_nil
    · cases h
  | m :: ms, c, A, ss, X, W, f, hk, L, h => by
    simp only [chSs] at h
    split at h
    · simp only [Bool.and_eq_true] at h
      exact sl_cons (okS m c A _ X W f hk L h.1) (okSs ms c A _ X W f hk L h.2)
    · cases h
end
end
end G

namespace G
open PySem PySem.Spec PyProof.Rows L2
/-! ### what is let go behind a call -/
theorem mapM_some {α β : Type} {f : α → Option β} : ∀ {l : List α} {r : List β}, l.mapM f = some r → (l = [] ∧ r = []) ∨ ∃ a t b u, l = a :: t ∧ r = b :: u ∧ f a = some b ∧ t.mapM f = some u
  | [], r, h => by
    rw [List.mapM_nil] at h
    exact .inl ⟨rfl, (Option.some.inj h).symm⟩
  | a :: t, r, h => by
    rw [List.mapM_cons] at h
    cases h1 : f a with
    | none => rw [h1] at h; cases h
    | some b =>
      rw [h1] at h
      cases h2 : t.mapM f with
      | none => simp only [h2] at h; cases h
      | some u =>
        simp only [h2] at h
        exact .inr ⟨a, t, b, u, rfl, (Option.some.inj h).symm, h1, h2⟩
theorem mapM_len {α β : Type} {f : α → Option β} : ∀ {l : List α} {r : List β}, l.mapM f = some r → r.length = l.length
  | [], r, h => by
    rcases mapM_some h with ⟨_, rfl⟩ | ⟨a, t, b, u, e, _⟩
    · rfl
    · cases e
  | a :: t, r, h => by
    rcases mapM_some h with ⟨e, _⟩ | ⟨a', t', b, u, e, rfl, _, h2⟩
    · cases e
    · cases e
      simp [mapM_len h2]
theorem rvs_mapM {K : PySem.W.Frag} {B M B' M' : List Addr} {H H' : Hp} {f : PV → Option PV} (hf : ∀ x p q, f p = some q → RV K B M H x p → RV K B' M' H' x q) : ∀ {l r : List PV} {vs : List V}, l.mapM f = some r → RVs K B M H vs l → RVs K B' M' H' vs r
  | [], r, vs, h, rv => by
    rcases mapM_some h with ⟨_, rfl⟩ | ⟨a, t, b, u, e, _⟩
    · rw [rv.nil_inv]; exact .nil
    · cases e
  | a :: t, r, vs, h, rv => by
    rcases mapM_some h with ⟨e, _⟩ | ⟨a', t', b, u, e, rfl, h1, h2⟩
    · cases e
    · cases e
      obtain ⟨v, w, rfl, r1, r2⟩ := rv.cons_inv
      exact .cons _ _ _ _ (hf _ _ _ h1 r1) (rvs_mapM hf h2 r2)
section
variable {K : PySem.W.Frag} {G : Nm} {B M M1 : List Addr} {H H1 : Hp} {S0 S1 : Store} {n : Nat}
theorem TupAt.shr {a : Addr} {vs : List V} {M2 : List Addr} (h : TupAt K B M1 H1 a vs) (hs : ∀ z ∈ M2, z ∈ M1) : TupAt K B M2 H1 a vs := by
  rcases h with ⟨h1, h2, h3⟩ | h
  · exact .inl ⟨h1, fun z => h2 (hs _ z), h3⟩
  · exact .inr h
theorem ScrAt.shr {a : Addr} {vs : List V} {M2 : List Addr} (h : ScrAt K B M1 H1 a vs) (hs : ∀ z ∈ M2, z ∈ M1) : ScrAt K B M2 H1 a vs := by
  rcases h with ⟨h1, h2, h3⟩ | h
  · exact .inl ⟨h1, fun z => h2 (hs _ z), h3⟩
  · exact .inr h
theorem LstAt.shr {a : Addr} {vs : List V} {M2 : List Addr} (h : LstAt B M1 H1 a vs) (hs : ∀ z ∈ M2, z ∈ M1) : LstAt B M2 H1 a vs := ⟨h.1, fun z => h.2.1 (hs _ z), h.2.2⟩
theorem take_sub {M1 : List Addr} {n : Nat} : ∀ z ∈ M1.take n, z ∈ M1 := fun z h => List.mem_of_mem_take h
theorem take_get {M1 : List Addr} {i n : Nat} {a : Addr} (h : M1[i]? = some a) (hi : i < n) : (M1.take n)[i]? = some a := by
  rw [List.getElem?_take, if_pos hi]; exact h
/-- what was freed of lists above n -/
theorem frz_ok (rs : RS K G B M1 H1 S1) : ∀ (k : Nat) (x : V) (p q : PV), frz S1 n k p = some q → RV K B M1 H1 x p → RV K B (M1.take n) H1 x q
  | 0, x, p, q, h, r => by simp only [frz] at h; cases h
  | k + 1, x, p, q, h, r => by
    cases p with
    | non => simp only [frz] at h; cases h; rw [r.non_inv]; exact .non
    | bl b => simp only [frz] at h; cases h; rw [r.bl_inv]; exact .bl b
    | int i => simp only [frz] at h; cases h; rw [r.int_inv]; exact .int i
    | str s => simp only [frz] at h; cases h; obtain ⟨y, rfl, rfl, hy⟩ := r.str_inv; exact .str y hy
    | tup l =>
      simp only [frz] at h
      cases e : l.mapM (frz S1 n k) with
      | none => rw [e] at h; cases h
      | some l' =>
        rw [e] at h
        cases h
        obtain ⟨a, vs, rfl, t, rv, hl⟩ := r.tup_inv
        exact .tup a vs l' (t.shr take_sub) (rvs_mapM (fun x p q h r => frz_ok rs k x p q h r) e rv) (by rw [mapM_len e]; exact hl)
    | fl l =>
      simp only [frz] at h
      cases e : l.mapM (frz S1 n k) with
      | none => rw [e] at h; cases h
      | some l' =>
        rw [e] at h
        cases h
        obtain ⟨a, vs, rfl, t, rv, hl⟩ := r.fl_inv
        exact .fl a vs l' (t.shr take_sub) (rvs_mapM (fun x p q h r => frz_ok rs k x p q h r) e rv) (by rw [mapM_len e]; exact hl)
    | loc i =>
      simp only [frz] at h
      obtain ⟨a, rfl, hm⟩ := r.loc_inv
      split at h
      · rename_i hi
        cases h
        exact .loc a i (take_get hm hi)
      · rename_i hi
        split at h
        · rename_i l hs
          cases e : l.mapM (frz S1 n k) with
          | none => rw [e] at h; cases h
          | some l' =>
            rw [e] at h
            cases h
            obtain ⟨vs, ha, rv, hl⟩ := rs.cell i _ a hs hm
            refine .fl a vs l' ⟨.inl ha, fun z => ?_, fun z => (rs.bsy a z).1 (List.mem_of_getElem? hm)⟩ (rvs_mapM (fun x p q h r => frz_ok rs k x p q h r) e rv) (by rw [mapM_len e]; exact hl)
            obtain ⟨j, hj, ej⟩ := List.mem_take_iff_getElem.mp z
            have hj1 : M1[j]? = some a := by rw [List.getElem?_eq_some_iff]; exact ⟨by omega, ej⟩
            have := nodup_at rs.nd hj1 hm
            omega
        · cases h
    | exc c l =>
      simp only [frz] at h
      cases e : l.mapM (frz S1 n k) with
      | none => rw [e] at h; cases h
      | some l' =>
        rw [e] at h
        cases h
        obtain ⟨a, rfl, hm, hb, ⟨rfl, ha⟩ | ⟨d, w, p, rfl, ha, hd, hm2, hb2, rw'⟩⟩ := r.exc_inv
        · rcases mapM_some e with ⟨_, rfl⟩ | ⟨_, _, _, _, e2, _⟩
          · exact .exc0 a c ha (fun z => hm (take_sub _ z)) hb
          · cases e2
        · rcases mapM_some e with ⟨e2, _⟩ | ⟨p1, t1, q, u, e2, rfl, e3, e4⟩
          · cases e2
          · cases e2
            rcases mapM_some e4 with ⟨_, rfl⟩ | ⟨_, _, _, _, e5, _⟩
            · exact .exc1 a d c w q ha (fun z => hm (take_sub _ z)) hb hd (fun z => hm2 (take_sub _ z)) hb2 (frz_ok rs k w _ q e3 rw')
            · cases e5
    | scr l => simp only [frz] at h; cases h
/- a value of old places only -/
mutual
theorem shr_rv {p : PV} {v x : V} {M2 : List Addr} (h : RV K B M H v p) (r : RV K B M1 H1 x p) (hs : ∀ z ∈ M2, z ∈ M1) (hg : ∀ i a, i < M.length → M1[i]? = some a → M2[i]? = some a) : RV K B M2 H1 x p := by
  cases h with
  | non => rw [r.non_inv]; exact .non
  | bl b => rw [r.bl_inv]; exact .bl b
  | int i => rw [r.int_inv]; exact .int i
  | str y hy => obtain ⟨z, rfl, e, hz⟩ := r.str_inv; rw [e]; exact .str z hz
  | tup a vs l h r1 hl =>
    obtain ⟨a', vs', rfl, t, rv, hl'⟩ := r.tup_inv
    exact .tup a' vs' l (t.shr hs) (shr_rvs r1 rv hs hg) hl'
  | fl a vs l h r1 hl =>
    obtain ⟨a', vs', rfl, t, rv, hl'⟩ := r.fl_inv
    exact .fl a' vs' l (t.shr hs) (shr_rvs r1 rv hs hg) hl'
  | scr a vs l h r1 hl =>
    obtain ⟨a', vs', rfl, t, rv, hl'⟩ := r.scr_inv
    exact .scr a' vs' l (t.shr hs) (shr_rvs r1 rv hs hg) hl'
  | loc a i h =>
    obtain ⟨a', rfl, hm⟩ := r.loc_inv
    exact .loc a' i (hg i a' (List.getElem?_eq_some_iff.mp h).1 hm)
  | exc0 a c h hm hb =>
    obtain ⟨a', rfl, hm', hb', ⟨_, ha⟩ | ⟨_, _, _, e, _⟩⟩ := r.exc_inv
    · exact .exc0 a' c ha (fun z => hm' (hs _ z)) hb'
    · cases e
  | exc1 a d c v p h hm hb h2 hm2 hb2 r1 =>
    obtain ⟨a', rfl, hm', hb', ⟨e, _⟩ | ⟨d', w', p', e, ha, hd, hm3, hb3, rw'⟩⟩ := r.exc_inv
    · cases e
    · cases e
      exact .exc1 a' d' c w' p ha (fun z => hm' (hs _ z)) hb' hd (fun z => hm3 (hs _ z)) hb3 (shr_rv r1 rw' hs hg)
theorem shr_rvs {l : List PV} {vs xs : List V} {M2 : List Addr} (h : RVs K B M H vs l) (r : RVs K B M1 H1 xs l) (hs : ∀ z ∈ M2, z ∈ M1) (hg : ∀ i a, i < M.length → M1[i]? = some a → M2[i]? = some a) : RVs K B M2 H1 xs l := by
  cases h with
  | nil => rw [r.nil_inv]; exact .nil
  | cons v p vs ps h h2 =>
    obtain ⟨x, y, rfl, r1, r2⟩ := r.cons_inv
    exact .cons _ _ _ _ (shr_rv h r1 hs hg) (shr_rvs h2 r2 hs hg)
end
theorem rvs_all {M2 : List Addr} {f : PV → Bool} (hf : ∀ x p, f p = true → RV K B M1 H1 x p → RV K B M2 H1 x p) : ∀ {l : List PV} {vs : List V}, l.all f = true → RVs K B M1 H1 vs l → RVs K B M2 H1 vs l
  | [], vs, h, rv => by rw [rv.nil_inv]; exact .nil
  | a :: t, vs, h, rv => by
    rw [List.all_cons, Bool.and_eq_true] at h
    obtain ⟨v, w, rfl, r1, r2⟩ := rv.cons_inv
    exact .cons _ _ _ _ (hf _ _ h.1 r1) (rvs_all hf h.2 r2)
theorem old_rv {M2 : List Addr} (hs : ∀ z ∈ M2, z ∈ M1) (hg : ∀ i a, i < n → M1[i]? = some a → M2[i]? = some a) : ∀ (k : Nat) (x : V) (p : PV), oldV n k p = true → RV K B M1 H1 x p → RV K B M2 H1 x p
  | 0, x, p, h, r => by simp only [oldV] at h; cases h
  | k + 1, x, p, h, r => by
    cases p with
    | non => rw [r.non_inv]; exact .non
    | bl b => rw [r.bl_inv]; exact .bl b
    | int i => rw [r.int_inv]; exact .int i
    | str s => obtain ⟨y, rfl, rfl, hy⟩ := r.str_inv; exact .str y hy
    | tup l =>
      simp only [oldV] at h
      obtain ⟨a, vs, rfl, t, rv, hl⟩ := r.tup_inv
      exact .tup a vs l (t.shr hs) (rvs_all (fun x p h r => old_rv hs hg k x p h r) h rv) hl
    | fl l =>
      simp only [oldV] at h
      obtain ⟨a, vs, rfl, t, rv, hl⟩ := r.fl_inv
      exact .fl a vs l (t.shr hs) (rvs_all (fun x p h r => old_rv hs hg k x p h r) h rv) hl
    | loc i =>
      simp only [oldV, decide_eq_true_eq] at h
      obtain ⟨a, rfl, hm⟩ := r.loc_inv
      exact .loc a i (hg i a h hm)
    | exc c l => simp only [oldV] at h; cases h
    | scr l => simp only [oldV] at h; cases h
theorem frzCell_ok (rs : RS K G B M1 H1 S1) {a : Addr} {c d : Cell} (hc : RC K G B M1 H1 a c) (h : frzCell S1 n c = some d) : RC K G B (M1.take n) H1 a d := by
  cases c with
  | lst l =>
    simp only [frzCell] at h
    cases e : l.mapM (frz S1 n depthL) with
    | none => rw [e] at h; cases h
    | some l' =>
      rw [e] at h
      cases h
      obtain ⟨vs, ha, rv, hl⟩ := hc
      exact ⟨vs, ha, rvs_mapM (fun x p q h r => frz_ok rs depthL x p q h r) e rv, by rw [mapM_len e]; exact hl⟩
  | dct l => exact hc.elim
  | ins c l => exact hc.elim
theorem frzOld_get : ∀ {A S T : Store}, frzOld S1 n A S = some T → T.length = A.length ∧ ∀ (i : Nat) (c : Cell), T[i]? = some c → ∃ a b, A[i]? = some a ∧ S[i]? = some b ∧ ((a = b ∧ c = b) ∨ frzCell S1 n b = some c)
  | [], S, T, h => by
    simp only [frzOld] at h
    cases h
    exact ⟨rfl, fun i c e => by simp at e⟩
  | a :: A, [], T, h => by simp only [frzOld] at h; cases h
  | a :: A, b :: S, T, h => by
    simp only [frzOld] at h
    split at h
    · rename_i hab
      cases e : frzOld S1 n A S with
      | none => rw [e] at h; cases h
      | some T' =>
        rw [e] at h
        cases h
        obtain ⟨h1, h2⟩ := frzOld_get e
        refine ⟨by simp [h1], fun i c e => ?_⟩
        cases i with
        | zero =>
          simp at e
          exact ⟨a, b, by simp, by simp, .inl ⟨hab, e.symm⟩⟩
        | succ i =>
          obtain ⟨a', b', e1, e2, e3⟩ := h2 i c (by simpa using e)
          exact ⟨a', b', by simpa using e1, by simpa using e2, e3⟩
    · cases e1 : frzCell S1 n b with
      | none => rw [e1] at h; cases h
      | some c1 =>
        cases e : frzOld S1 n A S with
        | none => rw [e1, e] at h; cases h
        | some T' =>
          rw [e1, e] at h
          cases h
          obtain ⟨h1, h2⟩ := frzOld_get e
          refine ⟨by simp [h1], fun i c e => ?_⟩
          cases i with
          | zero =>
            simp at e
            subst e
            exact ⟨a, b, by simp, by simp, .inr e1⟩
          | succ i =>
            obtain ⟨a', b', q1, q2, q3⟩ := h2 i c (by simpa using e)
            exact ⟨a', b', by simpa using q1, by simpa using q2, q3⟩
/-- the store behind a call -/
theorem old_ok {T : Store} (r0 : RS K G B M H S0) (e : Ext B M H B M1 H1) (rs : RS K G B M1 H1 S1) (h : frzOld S1 S0.length S0 S1 = some T) : RS K G B (M1.take S0.length) H1 T ∧ Ext B M H B (M1.take S0.length) H1 ∧ M1.take S0.length = M := by
  have hM : M1.take S0.length = M := by
    obtain ⟨N, q⟩ := e.pre
    rw [← q, ← r0.len, List.take_append_of_le_length (Nat.le_refl _), List.take_length]
  obtain ⟨hl, hg⟩ := frzOld_get h
  refine ⟨⟨by rw [hM, r0.len, hl], ?_, fun i c a hs hm => ?_, fun b hb => ⟨fun z => (rs.bsy b hb).1 (List.mem_of_mem_take z), (rs.bsy b hb).2⟩⟩, ⟨by rw [hM]; exact List.prefix_refl _, fun a z => ?_, e.keep⟩, hM⟩
  · rw [hM]; exact r0.nd
  · obtain ⟨a0, b1, e0, e1, e2⟩ := hg i c hs
    have hi : i < S0.length := (List.getElem?_eq_some_iff.mp e0).1
    have hm0 : M[i]? = some a := by rw [← hM]; exact hm
    have hm1 : M1[i]? = some a := by
      obtain ⟨N, q⟩ := e.pre
      rw [← q, List.getElem?_append_left (List.getElem?_eq_some_iff.mp hm0).1]
      exact hm0
    have c1 := rs.cell i b1 a e1 hm1
    rcases e2 with ⟨rfl, rfl⟩ | e2
    · have c0 := r0.cell i _ a e0 hm0
      cases c with
      | lst l =>
        obtain ⟨vs0, h0, rv0, _⟩ := c0
        obtain ⟨vs1, h1, rv1, hl1⟩ := c1
        exact ⟨vs1, h1, shr_rvs rv0 rv1 take_sub (fun i a hi hm => take_get hm (by rw [← r0.len]; exact hi)), hl1⟩
      | dct l => exact c0.elim
      | ins c l => exact c0.elim
    · exact frzCell_ok rs c1 e2
  · rcases z with z | z
    · rw [hM] at z; exact .inl z
    · exact e.new a (.inr z)
theorem gc_ok {g : Nat} {W : Value → Option Addr → Hp → Prop} {Q : VK} {x : V} {p : PV} (r0 : RS K G B M H S0) (e : Ext B M H B M1 H1) (hb : ∀ b ∈ B, H1 b = H b) (rs : RS K G B M1 H1 S1) (rv : RV K B M1 H1 x p) (h : RP K G W B M H (gcR g S0 S1 p) Q) : Q x H1 := by
  have hn : ∀ i : Nat, i < S0.length → ∀ a, M1[i]? = some a → (M1.take S0.length)[i]? = some a := fun i hi a hm => take_get hm hi
  match g with
  | 0 => exact h x M1 H1 e hb rs rv
  | 1 =>
    simp only [gcR] at h
    cases e1 : frzOld S1 S0.length S0 S1 with
    | none => rw [e1] at h; exact h.elim
    | some T =>
      cases e2 : frz S1 S0.length depthL p with
      | none => rw [e1, e2] at h; exact h.elim
      | some u =>
        rw [e1, e2] at h
        obtain ⟨s1, ex, _⟩ := old_ok r0 e rs e1
        exact h x _ H1 ex hb s1 (frz_ok rs depthL x p u e2 rv)
  | g + 2 =>
    simp only [gcR] at h
    split at h
    · rename_i hS
      have hM : M1.take S0.length = M := by
        obtain ⟨N, q⟩ := e.pre
        rw [← q, ← r0.len, List.take_append_of_le_length (Nat.le_refl _), List.take_length]
      have hS1 : ∀ (i : Nat) (c : Cell), S0[i]? = some c → S1[i]? = some c := fun i c hc => by
        have hi := (List.getElem?_eq_some_iff.mp hc).1
        rw [← hS, List.getElem?_take, if_pos hi] at hc
        exact hc
      have pre : ∀ (i : Nat) (a : Addr), M[i]? = some a → M1[i]? = some a := fun i a hm => by
        obtain ⟨N, q⟩ := e.pre
        rw [← q, List.getElem?_append_left (List.getElem?_eq_some_iff.mp hm).1]
        exact hm
      have sub : ∀ z ∈ M, z ∈ M1 := fun z hz => by rw [← hM] at hz; exact List.mem_of_mem_take hz
      have get : ∀ (i : Nat) (a : Addr), i < S0.length → M1[i]? = some a → M[i]? = some a := fun i a hi hm => by rw [← hM]; exact take_get hm hi
      have cells : ∀ M2 : List Addr, (∀ z ∈ M2, z ∈ M1) → (∀ (i : Nat) (a : Addr), i < S0.length → M1[i]? = some a → M2[i]? = some a) → ∀ (i : Nat) (c : Cell) (a : Addr), S0[i]? = some c → M[i]? = some a → RC K G B M2 H1 a c := fun M2 h1 h2 i c a hs hm => by
        have c0 := r0.cell i c a hs hm
        have c1 := rs.cell i c a (hS1 i c hs) (pre i a hm)
        cases c with
        | lst l =>
          obtain ⟨vs0, h0, rv0, _⟩ := c0
          obtain ⟨vs1, h3, rv1, hl1⟩ := c1
          exact ⟨vs1, h3, shr_rvs rv0 rv1 h1 (fun i a hi hm => h2 i a (by rw [← r0.len]; exact hi) hm), hl1⟩
        | dct l => exact c0.elim
        | ins c l => exact c0.elim
      have s0 : RS K G B M H1 S0 := ⟨r0.len, r0.nd, cells M sub get, fun b hb => ⟨fun z => (rs.bsy b hb).1 (sub b z), (rs.bsy b hb).2⟩⟩
      have ex : Ext B M H B M H1 := ⟨List.prefix_refl _, fun a z => by rcases z with z | z; exact .inl z; exact .inr (.inl z), e.keep⟩
      have other : RP K G W B M H (if oldV S0.length depthL p = true then R.ok p S0 else R.bad) Q → Q x H1 := fun h => by
        split at h
        · rename_i ho
          exact h x M H1 ex hb s0 (old_rv sub get depthL x p ho rv)
        · exact h.elim
      cases p with
      | loc i =>
        obtain ⟨a, rfl, hm⟩ := rv.loc_inv
        simp only at h
        split at h
        · rename_i hi
          exact h (.ref a) M H1 ex hb s0 (.loc a i (get i a hi hm))
        · rename_i hi
          split at h
          · rename_i l hs
            split at h
            · rename_i ho
              obtain ⟨vs, ha, rl, hl⟩ := rs.cell i _ a hs hm
              have na : a ∉ M := fun z => by
                obtain ⟨j, hj, ej⟩ := List.mem_iff_getElem.mp z
                have hj1 : M[j]? = some a := by rw [List.getElem?_eq_some_iff]; exact ⟨hj, ej⟩
                have := nodup_at rs.nd (pre j a hj1) hm
                rw [r0.len] at hj
                omega
              have aB : a ∉ B := fun z => (rs.bsy a z).1 (List.mem_of_getElem? hm)
              have aN : H a = none := by
                rcases e.new a (.inl (List.mem_of_getElem? hm)) with z | z | z
                · exact absurd z na
                · exact absurd z aB
                · exact z
              have sub2 : ∀ z ∈ M ++ [a], z ∈ M1 := fun z hz => by
                rcases List.mem_append.mp hz with hz | hz
                · exact sub z hz
                · rw [List.mem_singleton.mp hz]; exact List.mem_of_getElem? hm
              have get2 : ∀ (i : Nat) (b : Addr), i < S0.length → M1[i]? = some b → (M ++ [a])[i]? = some b := fun i b hi hm => by
                rw [List.getElem?_append_left (by rw [r0.len]; exact hi)]
                exact get i b hi hm
              have s2 : RS K G B (M ++ [a]) H1 (S0 ++ [.lst l]) := by
                refine ⟨by simp [r0.len], ?_, fun j d b hs2 hm2 => ?_, fun b hb => ⟨fun z => (rs.bsy b hb).1 (sub2 b z), (rs.bsy b hb).2⟩⟩
                · rw [List.nodup_append]
                  refine ⟨r0.nd, by simp, fun y hy z hz => ?_⟩
                  rw [List.mem_singleton.mp hz]
                  intro q; rw [q] at hy; exact na hy
                · by_cases hj : j < S0.length
                  · rw [List.getElem?_append_left hj] at hs2
                    rw [List.getElem?_append_left (by rw [r0.len]; exact hj)] at hm2
                    exact cells (M ++ [a]) sub2 get2 j d b hs2 hm2
                  · have hj' : j = S0.length := by
                      have := (List.getElem?_eq_some_iff.mp hs2).1
                      simp at this; omega
                    subst hj'
                    have e1 : d = .lst l := by simpa using hs2.symm
                    have e2 : b = a := by rw [← r0.len] at hm2; simpa using hm2.symm
                    subst e1 e2
                    exact ⟨vs, ha, rvs_all (fun x p h r => old_rv sub2 get2 depthL x p h r) ho rl, hl⟩
              refine h (.ref a) (M ++ [a]) H1 ⟨List.prefix_append _ _, fun y z => ?_, e.keep⟩ hb s2 (.loc a _ (by rw [← r0.len]; simp))
              rcases z with z | z
              · rcases List.mem_append.mp z with z | z
                · exact .inl z
                · rw [List.mem_singleton.mp z]; exact .inr (.inr aN)
              · exact .inr (.inl z)
            · exact h.elim
          · exact h.elim
      | _ => exact other h
    · exact h.elim
theorem rx_frz (rs : RS K G B M1 H1 S1) {cls : Value} {d : Option Addr} {c : Nat} {l l' : List PV} (h : RX K G B M1 H1 cls d (.exc c l)) (e : l.mapM (frz S1 n depthL) = some l') : RX K G B (M1.take n) H1 cls d (.exc c l') := by
  rcases mapM_some e with ⟨rfl, rfl⟩ | ⟨p, t, q, u, rfl, rfl, e1, e2⟩
  · exact h
  · cases t with
    | cons p2 t => exact h.elim
    | nil =>
      rcases mapM_some e2 with ⟨_, rfl⟩ | ⟨_, _, _, _, e5, _⟩
      · obtain ⟨h1, dd, w, h2, h3, h4, h5, h6⟩ := h
        exact ⟨h1, dd, w, h2, h3, fun z => h4 (take_sub _ z), h5, frz_ok rs depthL w p q e1 h6⟩
      · cases e5
theorem gcE_ok {g : Nat} {W : Value → Option Addr → Hp → Prop} {Q : VK} {cls : Value} {d : Option Addr} {p : PV} (r0 : RS K G B M H S0) (e : Ext B M H B M1 H1) (hb : ∀ b ∈ B, H1 b = H b) (rs : RS K G B M1 H1 S1) (rx : RX K G B M1 H1 cls d p) (h : RP K G W B M H (gcE g S0 S1 p) Q) : W cls d H1 := by
  match g with
  | 0 => exact h cls d M1 H1 e hb rs rx
  | g + 1 =>
    simp only [gcE] at h
    cases p with
    | exc c l =>
      simp only at h
      cases e1 : frzOld S1 S0.length S0 S1 with
      | none => rw [e1] at h; exact h.elim
      | some T =>
        cases e2 : l.mapM (frz S1 S0.length depthL) with
        | none => rw [e1, e2] at h; exact h.elim
        | some l' =>
          rw [e1, e2] at h
          obtain ⟨s1, ex, _⟩ := old_ok r0 e rs e1
          exact h cls d _ H1 ex hb s1 (rx_frz rs rx e2)
    | _ => exact h.elim
end
end G

namespace G
open PySem PySem.Spec PyProof.Rows L2
/-! ### functions -/
/-- what is known of a def -/
structure FnRow where
  f : Nat
  x : Str
  qual : Str
  params : Arguments
  body : List Stmt
  scope : Scope
  N : List Str
  ps : List Str
  d : Def
  kw : Option Str := none
def nodupB (l : List Str) : Bool := match l with
  | [] => true
  | a :: r => !(r.contains a) && nodupB r
def scB (r : FnRow) : Bool :=
  decide (r.scope.kind = .function) && !r.scope.isCoroutine && !r.scope.isGenerator && decide (r.N.Nodup) && decide (r.N.take r.ps.length = r.ps) &&
    (r.ps.all fun x => decide (r.scope.names.lookup x = some .local) || decide (r.scope.names.lookup x = some .cell)) && (r.scope.names.all fun y => decide (y.2 ≠ .free)) && decide (r.ps.length = r.d.np) && decide (r.N.length = r.d.ns)
def rowB (T : Tab) (r : FnRow) : Bool := scB r && chSs T r.d.body ⟨r.N, r.scope, none⟩ (fun _ => true) r.body
theorem sc_of {r : FnRow} (h : scB r = true) : FnScope r.N r.ps r.scope ∧ r.ps.length = r.d.np ∧ r.N.length = r.d.ns := by
  unfold scB at h
  simp only [Bool.and_eq_true, decide_eq_true_eq, List.all_eq_true, Bool.or_eq_true, Bool.not_eq_true'] at h
  obtain ⟨⟨⟨⟨⟨⟨⟨⟨h1, h2⟩, h3⟩, h4⟩, h5⟩, h6⟩, h7⟩, h8⟩, h9⟩ := h
  exact ⟨⟨h1, h2, h3, h4, h5, h6, h7⟩, h8, h9⟩
section
variable {Pr : Program} {w : World} {K : PySem.W.Frag} {mg : Str → Option Value} {base : Heap} {G : Nm} {P : Prog} {T : Tab}
theorem rvs_env {B M : List Addr} {H : Hp} {vs : List V} {args : List PV} (rv : RVs K B M H vs args) {N : List Str} {ns np : Nat} (h1 : args.length = np) (h2 : N.length = ns) : RE K B M H (L2.start N vs) (args.map some ++ List.replicate (ns - np) none) := by
  have hl := rv.length
  have e : L2.start N vs = vs.map some ++ List.replicate (ns - np) none := by
    unfold L2.start
    rw [h2, hl, h1]
  rw [e]
  refine ⟨by simp [hl], fun i p hp => ?_⟩
  by_cases hi : i < args.length
  · rw [List.getElem?_append_left (by simpa using hi), List.getElem?_map] at hp
    cases e1 : args[i]? with
    | none => rw [e1] at hp; cases hp
    | some q =>
      rw [e1] at hp
      have hp : some (some q) = some (some p) := hp
      obtain rfl := Option.some.inj (Option.some.inj hp)
      obtain ⟨v, e2, r⟩ := rv.get e1
      exact ⟨v, by rw [List.getElem?_append_left (by simpa [hl] using hi), List.getElem?_map, e2]; rfl, r⟩
  · rw [List.getElem?_append_right (by simpa using Nat.le_of_not_lt hi)] at hp
    obtain ⟨_, e3⟩ := List.getElem?_eq_some_iff.mp hp
    rw [List.getElem_replicate] at e3
    cases e3
/-- a def keeps the small program's word -/
theorem fn_ok1 {r : FnRow} {n k : Nat} {fa : Addr} {fd : FuncData} {dvs : List V} {kws : List (Str × V)} (F : FunD K r.x r.qual r.params r.body r.scope dvs kws fa fd) (hf : P.fn r.f = some r.d) (hB : rowB T r = true)
    (calls : ∀ c ∈ T.calls, CallT Pr w K mg base k G (callN P n) c.f c.x c.n c.ks c.perm c.dfl) (free : ∀ x ∈ T.free, mg x = none) (exs : ExAll K mg P T.excs) (ini : ∀ r ∈ T.excs, IniT Pr w K mg base r) (hk2 : 2 ≤ k) :
    FnOk Pr w K mg base (L2.CX Pr w) (k + 1) fa fd r.ps (spec K G (callN P (n + 1)) r.f) := by
  unfold rowB at hB
  rw [Bool.and_eq_true] at hB
  obtain ⟨S, hnp, hns⟩ := sc_of hB.1
  have un : ∀ {vs H Q E}, spec K G (callN P (n + 1)) r.f vs H Q E → ∃ B M S args, RS K G B M H S ∧ RVs K B M H vs args ∧ args.length = r.d.np ∧ RP K G E B M H (runDef P (callN P n) r.d args S) Q := fun {vs H Q E} h => by
    obtain ⟨B, M, S, args, rs, rv, q⟩ := h
    simp only [callN, hf] at q
    split at q
    · rename_i hl
      exact ⟨B, M, S, args, rs, rv, hl, q⟩
    · exact q.elim
  refine F.ok S (fun vs H Q E h => ?_) fun cdv A outer s H vs Q E hr h => ?_
  · obtain ⟨B, M, S, args, rs, rv, hl, q⟩ := un h
    rw [rv.length, hl, hnp]
  · obtain ⟨B, M, S0, args, rs, rv, hl, q⟩ := un h
    let X := cxOf (L2.CX Pr w) Pr w K mg base r.N r.qual r.scope fa cdv A outer s H E
    have fit : Fits T k G P (callN P n) ⟨r.N, r.scope, none⟩ X (fun cls d _ H => E cls d H) :=
      ⟨⟨rfl, S.nd, hr, takes_of (X := X) rfl rfl rfl rfl, passes_of (X := X) rfl⟩, rfl, rfl, fun _ _ => rfl, calls, free, exs, ini, hk2⟩
    refine ⟨tS K G (fun _ => true) (fun cls d _ H => E cls d H) (exL P (callN P n) r.d.body), okSs r.d.body _ _ _ X _ fit S.kind ⟨rfl, rfl, rfl⟩ hB.2, B, M, _, S0, ⟨rvs_env rv hl hns, rs⟩, ?_⟩
    unfold runDef at q
    cases ex : exL P (callN P n) r.d.body (args.map some ++ List.replicate (r.d.ns - r.d.np) none) S0 with
    | ok f S1 =>
      rw [ex] at q
      intro M1 H1 e1 b1 s1
      cases f with
      | nx env => exact fun σ' _ at' => gc_ok rs e1 b1 s1 .non q
      | rt v => exact fun x rx => gc_ok rs e1 b1 s1 rx q
      | bk env => exact q.elim
      | ct env => exact q.elim
    | ex e S1 =>
      rw [ex] at q
      exact fun cls d σ' M1 H1 _ e1 b1 s1 rx => gcE_ok rs e1 b1 s1 rx q
    | bad => rw [ex] at q; exact q.elim
theorem fn_ok0 {f k : Nat} {ps : List Str} {fa : Addr} {fd : FuncData} : FnOk Pr w K mg base (L2.CX Pr w) k fa fd ps (spec K G (callN P 0) f) :=
  ⟨fun vs H Q E h => by obtain ⟨B, M, S, args, rs, rv, q⟩ := h; exact q.elim, fun A outer s H args us vs Q E hr he hb hv h => by obtain ⟨B, M, S, args, rs, rv, q⟩ := h; exact q.elim⟩
/-- values by their places -/
def permG {α : Type} (d : α) (l : List α) (perm : List Nat) : List α := perm.map fun k => l.getD k d
theorem rvs_getD {B M : List Addr} {H : Hp} {vs : List V} {args : List PV} (rv : RVs K B M H vs args) (i : Nat) : RV K B M H (vs.getD i .non) (args.getD i .non) := by
  rw [List.getD_eq_getElem?_getD, List.getD_eq_getElem?_getD]
  cases e : args[i]? with
  | none =>
    have hl := rv.length
    have e2 : vs[i]? = none := by rw [List.getElem?_eq_none_iff] at e ⊢; omega
    rw [e2]
    exact .non
  | some p =>
    obtain ⟨v, e2, r⟩ := rv.get e
    rw [e2]
    exact r
theorem rvs_perm2 {B M : List Addr} {H : Hp} {vs dv : List V} {args dfl : List PV} (rv : RVs K B M H vs args) (rd : RVs K B M H dv dfl) : ∀ perm : List Nat, RVs K B M H (permG .non (vs ++ dv) perm) (permArgs args perm dfl)
  | [] => .nil
  | k :: perm => .cons _ _ _ _ (rvs_getD (rv.append rd) k) (rvs_perm2 rv rd perm)
theorem vals_getD : ∀ {vs : List V} {us : List Value}, Vals vs us → ∀ i : Nat, RelV (vs.getD i .non) (us.getD i .none)
  | [], us, r, i => by cases r; rfl
  | v :: vs, us, r, i => by
    cases r with
    | cons h t =>
      cases i with
      | zero => exact h
      | succ i => exact vals_getD t i
theorem vals_perm {vs : List V} {us : List Value} (r : Vals vs us) : ∀ perm : List Nat, Vals (permG .non vs perm) (permG .none us perm)
  | [] => .nil
  | k :: perm => .cons (vals_getD r k) (vals_perm r perm)
theorem vals_app : ∀ {vs ws : List V} {us zs : List Value}, Vals vs us → Vals ws zs → Vals (vs ++ ws) (us ++ zs)
  | [], ws, us, zs, r, q => by cases r; exact q
  | v :: vs, ws, us, zs, r, q => by
    cases r with
    | cons h t => exact .cons h (vals_app t q)
/-- a call of n values and keywords; a keyword-only parameter that lacks -/
def BindOk (r : FnRow) (c : CallRow) : Prop :=
  (c.dfl = [] ∧ ∀ (kV doc pm : Value) (an : Option Addr) (cdv ct : Value) (us ws : List Value), us.length = c.n → ws.length = c.ks.length →
    bindArgs (PySem.W.fnOf r.x r.qual r.params r.body r.scope .none kV doc pm an cdv ct) ⟨us, c.ks.zip ws⟩ = pure (r.ps.zip (permG .none (us ++ ws) c.perm))) ∨
  ∃ x, r.kw = some x ∧ c.dfl = [.tup []] ∧ ∀ (D : Addr) (doc pm : Value) (an : Option Addr) (cdv ct : Value) (us ws : List Value) (d : Value), us.length = c.n → ws.length = c.ks.length →
    KwChain D [(x, d)] (bindArgs (PySem.W.fnOf r.x r.qual r.params r.body r.scope .none (.ref D) doc pm an cdv ct) ⟨us, c.ks.zip ws⟩) (r.ps.zip (permG .none (us ++ ws ++ [d]) c.perm))
/-- what is known of where a def stands -/
def Stands (K : PySem.W.Frag) (mg : Str → Option Value) (r : FnRow) : Prop := ∃ fa fd kws, FunD K r.x r.qual r.params r.body r.scope [] kws fa fd ∧ mg r.x = some (.ref fa) ∧ ∀ x, r.kw = some x → ∃ a, kws = [(x, .ref a)] ∧ ∀ H, SqT K H a []
/-- all defs, at every level -/
theorem fns_ok (T : Tab) {rows : List FnRow} (hF : ∀ r ∈ rows, P.fn r.f = some r.d ∧ rowB T r = true)
    (hG : ∀ r ∈ rows, Stands K mg r)
    (hC : ∀ c ∈ T.calls, ∃ r, r ∈ rows ∧ r.f = c.f ∧ r.x = c.x ∧ BindOk r c) (free : ∀ x ∈ T.free, mg x = none) (exs : ExAll K mg P T.excs) (ini : ∀ r ∈ T.excs, IniT Pr w K mg base r) :
    ∀ n, ∀ r ∈ rows, ∀ fa fd kws, FunD K r.x r.qual r.params r.body r.scope [] kws fa fd → FnOk Pr w K mg base (L2.CX Pr w) (n + 2) fa fd r.ps (spec K G (callN P n) r.f)
  | 0, r, hr, fa, fd, kws, F => fn_ok0
  | n + 1, r, hr, fa, fd, kws, F => by
    obtain ⟨hf, hB⟩ := hF r hr
    refine fn_ok1 (k := n + 2) F hf hB (fun c hc => ?_) free exs ini (Nat.le_add_left _ _)
    obtain ⟨q, hq, hqf, hqx, hb⟩ := hC c hc
    obtain ⟨fa2, fd2, kws2, F2, hm, hkw⟩ := hG q hq
    have ok := fns_ok T hF hG hC free exs ini n q hq fa2 fd2 kws2 F2
    have kp := F2.kp
    obtain ⟨oc, od, dV, kV, doc, pm, an, cdv, ct, osl, rfl, lk, hcd, hD, hK⟩ := F2.ex
    rcases hD with ⟨_, rfl⟩ | ⟨z, _⟩
    · rw [hqf] at ok
      rcases hb with ⟨hd, hb⟩ | ⟨x, hx, hd, hb⟩
      · refine ⟨fa2, _, q.ps, fun us ws => permG .none (us ++ ws) c.perm, fun vs zs => permG .non (vs ++ zs) c.perm, by rw [← hqx]; exact hm, kp, ok,
          ⟨fun s us ws _ l1 l2 => .of_eq (hb kV doc pm an cdv ct us ws l1 l2), fun r1 r2 => vals_perm (vals_app r1 r2) _⟩, fun B M H vs zs args l1 l2 r => ?_⟩
        have q := rvs_perm2 r (.nil : RVs K B M H [] []) c.perm
        rw [List.append_nil] at q
        rw [hd]
        exact q
      · obtain ⟨a, rfl, ha⟩ := hkw x hx
        rcases hK with e | ⟨D, rfl, hq2⟩
        · cases e
        · obtain ⟨mv, hl, rk, hks⟩ := kwd_vals hq2
          obtain ⟨d, rfl⟩ : ∃ d, mv = [d] := by
            rcases mv with _ | ⟨d, _ | ⟨d2, t⟩⟩
            · cases hl
            · exact ⟨d, rfl⟩
            · cases hl
          refine ⟨fa2, _, q.ps, fun us ws => permG .none (us ++ ws ++ [d]) c.perm, fun vs zs => permG .non (vs ++ zs ++ [.ref a]) c.perm, by rw [← hqx]; exact hm, kp, ok,
            ⟨fun s us ws X l1 l2 => BindsTo.of_looks fun M => KwChain.looks X hks (hb D doc pm an cdv ct us ws d l1 l2), fun r1 r2 => vals_perm (vals_app (vals_app r1 r2) rk) _⟩, fun B M H vs zs args l1 l2 r => ?_⟩
          rw [hd]
          exact rvs_perm2 r (.cons _ _ _ _ (.tup a [] [] (.inr fun H' => ha H') .nil (Nat.zero_le _)) .nil) c.perm
    · exact absurd rfl z
/-! ### own exception classes -/
def BindIni (i : IniRow) : Prop := ∀ (kV doc pm : Value) (an : Option Addr) (cdv ct : Value) (us : List Value), us.length = i.ps.length → bindArgs (PySem.W.fnOf "__init__" i.qual i.params i.body i.scope .none kV doc pm an cdv ct) ⟨us, []⟩ = pure (i.ps.zip us)
theorem iniT_of {xs : List ExRow} {r : ExRow} {i : IniRow} {fd : FuncData} (F : FunD K "__init__" i.qual i.params i.body i.scope [] [] (He.ma K (clsA K r.c) "__init__") fd) (hB : iniB r i = true) (hS : iniScB i = true) (hb : BindIni i) (T : ExF K xs r) (hm : mg (baseS r.b) = none) : IniT Pr w K mg base r := by
  refine ⟨fd, i.ps, ini_ok F hB hS T hm, fun s us _ hl => ?_⟩
  obtain ⟨oc, od, dV, kV, doc, pm, an, cdv, ct, osl, rfl, lk, hcd, hD, hK⟩ := F.ex
  rcases hD with ⟨_, rfl⟩ | ⟨z, _⟩
  · exact .of_eq (hb kV doc pm an cdv ct us hl)
  · exact absurd rfl z
theorem all_nil {α : Type} {Q : α → Prop} : ∀ x ∈ ([] : List α), Q x := fun x h => by cases h
theorem all_cons {α : Type} {Q : α → Prop} {a : α} {l : List α} (h : Q a) (t : ∀ x ∈ l, Q x) : ∀ x ∈ a :: l, Q x := fun x hx => by
  rcases List.mem_cons.mp hx with e | hx
  · rw [e]; exact h
  · exact t x hx
/-- the law's own word -/
theorem spec_law {C : Nat → List PV → Store → R PV} {f : Nat} {H : Hp} {a : Addr} {ns : List Int} {S' : Store} (h64 : ns.length ≤ 63) (hS : SqL K H a (ns.map V.int)) (h : C f [.scr (ns.map .int)] [] = .ok (.bl true) S') :
    spec K G C f [.ref a] H (fun v _ => v = .bl true) fun _ _ _ => False := by
  refine ⟨[], [], [], [.scr (ns.map .int)], ⟨rfl, List.nodup_nil, fun n c a hs => by simp at hs, fun b hb => by cases hb⟩, .cons _ _ _ _ (.scr a _ _ ?_ (rvs_ints ns) ?_) .nil, ?_⟩
  · rcases hS with h | h
    · exact .inl ⟨h, by simp, by simp⟩
    · exact .inr fun H' => .inr h
  · rw [List.length_map, sizeLine_eq]
    omega
  · rw [h]
    exact fun v M' H' _ _ _ rv => rv.bl_inv
theorem cx_false {H : Hp} {s : Shared} {e : Value} {s' : Shared} (h : L2.CX Pr w [] H s (fun _ _ _ => False) e s') : False := by
  obtain ⟨a, B, sI, H', cls, d, h⟩ := h
  simp at h
end
end G

namespace G
open PySem PySem.Spec PyProof.Rows L2
/-- a law's call, walked; what may be let out hangs on the world -/
theorem walk_w {l : PySem.W.OpenLaw} {n k : Nat} {q : Program} {loose : List Str} {XP : (Str → Option Value) → Heap → Prop} {YP : World → Heap → Prop} {d : DefRec} {x : Str}
    (hn : l.most = some n) (hn2 : n ≤ sizeLine) (hdf : d.params.defaults = []) (hr : Room k callerA)
    (Fw : ∀ (w : World) (mg : Str → Option Value) (fa : Addr) (h : Heap), YP w h → h.Ns mainGlobals mg → mg d.name = some (.ref fa) →
      ∃ (K : PySem.W.Frag) (fd : FuncData) (sp : Sp), K.In h ∧ (∀ (s : Shared) (u : Value), BindsTo s fd ⟨[u], []⟩ [(x, u)]) ∧
        (∀ (H : Hp) (a : Addr) (ns : List Int), ns.length ≤ n → SqL K H a (ns.map V.int) → sp [.ref a] H (fun v _ => v = .bl true) fun _ _ _ => False) ∧
        ∀ base : Heap, FnOk l.prog w K mg base (L2.CX l.prog w) k fa fd [x] sp) :
    PySem.W.WalkO q loose XP YP l.row.toRowW d [] (fun f vs => PySem.call f vs) := by
  refine Att.attach_call hn hdf fun w s₀ s₁ mg mb fa o pm cd doc a vs ns Gr Y ho hd hcd hmg hobj hints hlen hg => ?_
  obtain ⟨K, fd, sp, KX, hb, hsp, hF⟩ := Fw w mg fa _ Y Gr.T.g hmg
  exact law_call KX Gr.T.g Gr.T.b Gr.T.builtins Gr.T.nolimit hg hobj hints (Nat.le_trans hlen hn2) hr (fun base _ _ => hF base) hb (fun H hO hS => hsp H a ns hlen hS) fun H e s' z => cx_false z
end G

namespace G
open PySem PySem.Spec PyProof.Rows L2
/-! ### what the top leaves: defs, and keyword-only defaults that are () -/
def kwAd (p : Str × Option Str) (x : Str) (K : PySem.W.Frag) : Addr := match K.lookup (He.fAd K p) with
  | some ⟨_, _, .func fd, _⟩ => (match fd.kwdefaults with
    | .ref D => (match PySem.W.nsIn K D x with
      | some (some (.ref a)) => a
      | _ => 0)
    | _ => 0)
  | _ => 0
def emptyB (K : PySem.W.Frag) (a : Addr) : Bool := match K.lookup a with
  | some ⟨.type c, _, .seq its _, _⟩ => decide (c = "tuple") && decide (its.size = 0)
  | _ => false
theorem emptyB_ok {K : PySem.W.Frag} {a : Addr} (h : emptyB K a = true) (H : Hp) : SqT K H a [] := by
  unfold emptyB at h
  cases q : K.lookup a with
  | none => rw [q] at h; cases h
  | some o =>
    obtain ⟨oc, od, dt, osl⟩ := o
    rw [q] at h
    cases oc with
    | type c =>
      cases dt with
      | seq its n =>
        have h : (decide (c = "tuple") && decide (its.size = 0)) = true := h
        rw [Bool.and_eq_true, decide_eq_true_eq, decide_eq_true_eq] at h
        have e : its.toList = [] := by rw [← List.length_eq_zero_iff, Array.length_toList]; exact h.2
        refine .inr ⟨_, its, n, q, congrArg Value.type h.1, rfl, by rw [h.2]; exact Nat.zero_le _, ?_⟩
        rw [e]
        exact .nil
      | _ => cases h
    | _ => cases dt <;> cases h
def kwsB (rs : List FnRow) (K : PySem.W.Frag) : Bool := rs.all fun r => match r.kw with
  | none => true
  | some x => emptyB K (kwAd (r.x, none) x K)
def kwxB (rs : List FnRow) (xs : List ExRow) (K : PySem.W.Frag) : Bool := kwsB rs K && xs.all (exFB K xs)
def hookE (n : Nat) (fa : List He.Fa) (fn : List He.DefD) (rs : List FnRow) (xs : List ExRow) : PySem.W.Hook where
  α := He.AlD × Bool
  obs := fun s => (He.obsDG n fa fn s.heap.get?, kwxB rs xs (He.frG s.heap.get? (He.asD s.heap.get? n)))
  val := fun _ => (He.valD fn, true)
  says := fun _ h => ∃ K : PySem.W.Frag, K.In h ∧ He.SaysD fa fn K ∧ kwxB rs xs K = true
  of := fun _ _ e => ⟨_, He.frG_in, congrArg Prod.fst e, congrArg Prod.snd e⟩
  keeps := fun _ _ _ ⟨K, hK, c, d⟩ k => ⟨K, PySem.W.Frag.In.keeps hK k, c, d⟩
def obE (n : Nat) (fa : List He.Fa) (fn : List He.DefD) (rs : List FnRow) (xs : List ExRow) (g : Addr → Option Obj) : He.AlD × Bool := (He.obsDG n fa fn g, kwxB rs xs (He.frG g (He.asD g n)))
theorem obE_eq {n : Nat} {fa : List He.Fa} {fn : List He.DefD} {rs : List FnRow} {xs : List ExRow} {g : Addr → Option Obj} {s : Shared} (h : ∀ a, g a = s.heap.get? a) : obE n fa fn rs xs g = (hookE n fa fn rs xs).obs s := by
  have e : g = s.heap.get? := funext h
  rw [e]
  rfl
def ddE (r : FnRow) : He.DefD := ⟨(r.x, none), r.x, r.qual, r.params, r.body, r.scope, [], r.kw.toList.map fun x => (x, .adr (kwAd (r.x, none) x))⟩
theorem stands_of {K : PySem.W.Frag} {mg : Str → Option Value} {fa : List He.Fa} {rs : List FnRow} {ys : List He.DefD} (c : He.SaysD fa (rs.map ddE ++ ys) K) (d : kwsB rs K = true) (gl : ∀ r ∈ rs, mg r.x = some (.ref (He.ga K r.x))) : ∀ r ∈ rs, Stands K mg r := fun r hr => by
  obtain ⟨i, hi, e⟩ := List.mem_iff_getElem.mp hr
  have hd : (rs.map ddE ++ ys)[i]? = some (ddE r) := by
    rw [List.getElem?_append_left (by simpa using hi), List.getElem?_map, List.getElem?_eq_getElem hi, e]
    rfl
  obtain ⟨fd, F⟩ := c.def_ i hd
  refine ⟨_, fd, _, F, gl r hr, fun x hx => ?_⟩
  have h1 := List.all_eq_true.mp d r hr
  rw [hx] at h1
  refine ⟨kwAd (r.x, none) x K, ?_, emptyB_ok h1⟩
  show (r.kw.toList.map _).map _ = _
  rw [hx]
  rfl
/-- a class's __init__ -/
def iniOf (s : Stmt) : Stmt := match s with
  | .ClassDef _ _ _ b _ _ _ _ _ _ _ => (b.find? fun t => match t with
    | .FunctionDef n _ _ _ _ _ _ _ _ _ => decide (n = ("__init__" : Str))
    | _ => false).getD (.Pass ⟨0, 0, 0, 0⟩)
  | _ => .Pass ⟨0, 0, 0, 0⟩
def ddX (p : ExRow × IniRow) : He.DefD := ⟨(clsN p.1.c, some "__init__"), "__init__", p.2.qual, p.2.params, p.2.body, p.2.scope, [], []⟩
/-- .. and of the own exception classes -/
theorem exs_of {K : PySem.W.Frag} {mg : Str → Option Value} {P : Prog} {xs : List (ExRow × IniRow)} (d : (xs.map (·.1)).all (exFB K (xs.map (·.1))) = true) (gl : ∀ p ∈ xs, mg (clsN p.1.c) = some (.ref (clsA K p.1.c)) ∧ (clsN p.1.c == ("__debug__" : Str)) = false)
    (hP : ∀ p ∈ xs, P.base p.1.c = p.1.b ∧ P.flds p.1.c = p.1.fl) (cov : ∀ c, P.base c ≠ 0 → ∃ r ∈ xs.map (·.1), r.c = c) : ExAll K mg P (xs.map (·.1)) := by
  have un : ∀ r ∈ xs.map (·.1), ∃ p ∈ xs, p.1 = r := fun r hr => by
    obtain ⟨p, hp, e⟩ := List.mem_map.mp hr
    exact ⟨p, hp, e⟩
  refine ⟨fun r hr => exFB_ok (List.all_eq_true.mp d r hr), fun r hr => ?_, fun r hr => ?_, fun r hr => ?_, cov⟩
  · obtain ⟨p, hp, rfl⟩ := un r hr; exact gl p hp
  · obtain ⟨p, hp, rfl⟩ := un r hr; exact (hP p hp).1
  · obtain ⟨p, hp, rfl⟩ := un r hr; exact (hP p hp).2
theorem inis_of {Pr : Program} {w : World} {K : PySem.W.Frag} {mg : Str → Option Value} {base : Heap} {P : Prog} {fa : List He.Fa} {rs : List FnRow} {xs : List (ExRow × IniRow)} (c : He.SaysD fa (rs.map ddE ++ xs.map ddX) K) (T : ExAll K mg P (xs.map (·.1)))
    (hB : ∀ p ∈ xs, iniB p.1 p.2 = true ∧ iniScB p.2 = true ∧ BindIni p.2) (hm : ∀ p ∈ xs, mg (baseS p.1.b) = none) : ∀ r ∈ xs.map (·.1), IniT Pr w K mg base r := fun r hr => by
  obtain ⟨p, hp, rfl⟩ := List.mem_map.mp hr
  obtain ⟨i, hi, e⟩ := List.mem_iff_getElem.mp hp
  have hd : (rs.map ddE ++ xs.map ddX)[rs.length + i]? = some (ddX p) := by
    rw [List.getElem?_append_right (by simp), List.length_map, Nat.add_sub_cancel_left, List.getElem?_map, List.getElem?_eq_getElem hi, e]
    rfl
  obtain ⟨fd, F⟩ := c.def_ _ hd
  exact iniT_of F (hB p hp).1 (hB p hp).2.1 (hB p hp).2.2 (T.F _ hr) (hm p hp)
end G

namespace Pk70
open G
/- is_number -/
def s1_0 : MS := (.ret (.and (.isi (.var 0) [.int]) (.not (.isi (.var 0) [.bool]))))
def d1 : Def :=
  { np := 1, ns := 1, gc := 1, body := [s1_0] }
/- as_heap -/
def s19_0 : MS := (.ret (.b .tuple false [(.lc false [1, 2] (.tup [(.var 1), (.var 2)]) (.tup [(.nm 1), (.nm 2)]) (.ex (.var 0)) [])]))
def d19 : Def :=
  { np := 1, ns := 3, gc := 1, body := [s19_0] }
/- as_standing -/
def s28_0 : MS := (.ret (.b .tuple false [(.lc false [1] (.call 19 [(.var 1)] [0] []) (.nm 1) (.ex (.var 0)) [])]))
def d28 : Def :=
  { np := 1, ns := 2, gc := 1, body := [s28_0] }
/- is_there -/
def s20_0 : MS := (.ret (.and (.call 1 [(.var 1)] [0] []) (.ch2 .le .lt (.int (0)) (.var 1) (.b .len false [(.var 0)]))))
def d20 : Def :=
  { np := 2, ns := 2, gc := 1, body := [s20_0] }
/- look_dove -/
def s21_0_0 : MS := .never
def s21_0 : MS := (.ite (.not (.call 20 [(.var 0), (.var 1)] [0, 1] [])) [s21_0_0] [])
def d21 : Def :=
  { np := 2, ns := 2, gc := 1, body := [s21_0] }
/- uppermost -/
def s22_0 : MS := (.expr (.call 21 [(.var 0), (.var 1)] [0, 1] []))
def s22_1 : MS := (.asg (.nm 2) (.call 19 [(.ix (.var 0) (.var 1))] [0] []))
def s22_2 : MS := (.ret (.ite (.cmp .gt (.b .len false [(.var 2)]) (.int (0))) (.ix (.var 2) (.neg (.int (1)))) .non))
def d22 : Def :=
  { np := 2, ns := 3, gc := 1, body := [s22_0, s22_1, s22_2] }
/- held -/
def s23_0 : MS := (.expr (.call 21 [(.var 0), (.var 1)] [0, 1] []))
def s23_1 : MS := (.expr (.call 21 [(.var 0), (.var 2)] [0, 1] []))
def s23_2 : MS := (.ret (.b .tuple false [(.lc false [3, 4] (.var 4) (.tup [(.nm 3), (.nm 4)]) (.ex (.ix (.var 0) (.var 1))) [(.cmp .eq (.var 3) (.var 2))])]))
def d23 : Def :=
  { np := 3, ns := 5, gc := 1, body := [s23_0, s23_1, s23_2] }
/- grudges_in -/
def s24_0 : MS := (.ret (.b .sum false [(.lc false [1] (.b .len false [(.var 1)]) (.nm 1) (.ex (.var 0)) [])]))
def d24 : Def :=
  { np := 1, ns := 2, gc := 1, body := [s24_0] }
/- line -/
def s50_0 : MS := (.ret (.bin false .add (.call 23 [(.var 0), (.var 1), (.var 2)] [0, 1, 2] []) (.rv false (.call 23 [(.var 0), (.var 2), (.var 1)] [0, 1, 2] []))))
def d50 : Def :=
  { np := 3, ns := 3, gc := 1, body := [s50_0] }
/- cut -/
def s51_0 : MS := (.ret (.b .len false [(.call 23 [(.var 0), (.var 1), (.var 2)] [0, 1, 2] [])]))
def d51 : Def :=
  { np := 3, ns := 3, gc := 1, body := [s51_0] }
/- pairs_of -/
def s52_0 : MS := (.asg (.nm 1) (.b .len false [(.var 0)]))
def s52_1 : MS := (.ret (.lc2 false [2, 3] (.tup [(.var 2), (.var 3)]) (.nm 2) (.rng [(.var 1)]) [] [3] (.nm 3) (.rng [(.bin false .add (.var 2) (.int (1))), (.var 1)]) []))
def d52 : Def :=
  { np := 1, ns := 4, gc := 1, body := [s52_0, s52_1] }
/- lines_of -/
def s53_0 : MS := (.asg (.nm 1) (.lc false [2, 3] (.tup [(.var 2), (.var 3), (.call 50 [(.var 0), (.var 2), (.var 3)] [0, 1, 2] [])]) (.tup [(.nm 2), (.nm 3)]) (.ex (.call 52 [(.var 0)] [0] [])) []))
def s53_1 : MS := (.ret (.lc false [4] (.var 4) (.nm 4) (.ex (.var 1)) [(.cmp .gt (.b .len false [(.ix (.var 4) (.int (2)))]) (.int (0)))]))
def d53 : Def :=
  { np := 1, ns := 5, gc := 1, body := [s53_0, s53_1] }
/- first_apart -/
def s57_0_0_0 : MS := (.ret (.var 2))
def s57_0_0 : MS := (.ite (.cmp .ne (.var 3) (.var 4)) [s57_0_0_0] [])
def s57_0 : MS := (.for_ (.tup [(.nm 2), (.tup [(.nm 3), (.nm 4)])]) (.enz (.var 0) (.var 1)) [s57_0_0])
def s57_1 : MS := (.ret (.ite (.cmp .eq (.b .len false [(.var 0)]) (.b .len false [(.var 1)])) .non (.b .min2 false [(.b .len false [(.var 0)]), (.b .len false [(.var 1)])])))
def d57 : Def :=
  { np := 2, ns := 5, gc := 1, body := [s57_0, s57_1] }
/- look_same -/
def s58_0_0 : MS := .never
def s58_0 : MS := (.ite (.cmp .ne (.b .len false [(.var 0)]) (.b .len false [(.var 1)])) [s58_0_0] [])
def d58 : Def :=
  { np := 2, ns := 2, gc := 1, body := [s58_0] }
/- first_unlike -/
def s59_0 : MS := (.expr (.call 58 [(.var 0), (.var 1)] [0, 1] []))
def s59_1_0 : MS := (.asg (.nm 4) (.call 57 [(.call 50 [(.var 0), (.var 2), (.var 3)] [0, 1, 2] []), (.call 50 [(.var 1), (.var 2), (.var 3)] [0, 1, 2] [])] [0, 1] []))
def s59_1_1_0 : MS := (.ret (.tup [(.var 2), (.var 3), (.var 4)]))
def s59_1_1 : MS := (.ite (.cmp .isn (.var 4) .non) [s59_1_1_0] [])
def s59_1 : MS := (.for_ (.tup [(.nm 2), (.nm 3)]) (.ex (.call 52 [(.var 0)] [0] [])) [s59_1_0, s59_1_1])
def s59_2 : MS := (.ret .non)
def d59 : Def :=
  { np := 2, ns := 5, gc := 1, body := [s59_0, s59_1, s59_2] }
/- look_peck -/
def s33_0 : MS := (.expr (.call 21 [(.var 0), (.var 1)] [0, 1] []))
def s33_1_0 : MS := .never
def s33_1 : MS := (.ite (.cmp .in_ (.var 1) (.var 2)) [s33_1_0] [])
def s33_2_0 : MS := .never
def s33_2 : MS := (.ite (.cmp .eq (.b .len false [(.ix (.var 0) (.var 1))]) (.int (0))) [s33_2_0] [])
def d33 : Def :=
  { np := 3, ns := 3, gc := 1, body := [s33_0, s33_1, s33_2] }
/- gone_over -/
def s34_0 : MS := (.asg (.tup [(.nm 2), (.nm 3)]) (.ix (.ix (.var 0) (.var 1)) (.neg (.int (1)))))
def s34_1 : MS := (.asg (.nm 4) (.b .list true [(.var 0)]))
def s34_2 : MS := (.asg (.sub (.var 4) (.var 1)) (.sl false (.ix (.var 0) (.var 1)) none (some (.neg (.int (1))))))
def s34_3 : MS := (.asg (.sub (.var 4) (.var 2)) (.bin false .add (.ix (.var 0) (.var 2)) (.tup [(.tup [(.var 1), (.var 3)])])))
def s34_4 : MS := (.ret (.b .tuple false [(.var 4)]))
def d34 : Def :=
  { np := 2, ns := 5, gc := 1, body := [s34_0, s34_1, s34_2, s34_3, s34_4] }
/- pecked -/
def s35_0 : MS := (.expr (.call 33 [(.var 0), (.var 1), (.var 2)] [0, 1, 2] []))
def s35_1 : MS := (.ret (.call 34 [(.call 28 [(.var 0)] [0] []), (.var 1)] [0, 1] []))
def d35 : Def :=
  { np := 3, ns := 3, gc := 1, body := [s35_0, s35_1] }
/- _law_box -/
def s6_0 : MS := (.asg (.nm 2) (.ix (.var 0) (.var 1)))
def s6_1 : MS := (.ret (.lst true [(.bin false .mul (.b .abs false [(.var 2)]) (.b .int false [(.cmp .ge (.b .abs false [(.var 2)]) (.bin false .pow (.int (10)) (.int (18))))])), (.bin false .add (.bin false .add (.bin false .mod (.var 2) (.int (2305843009213693951))) (.bin false .mul (.int (15485863)) (.var 1))) (.int (11))), (.int (0))]))
def d6 : Def :=
  { np := 2, ns := 3, gc := 2, body := [s6_0, s6_1] }
/- _law_take -/
def s7_0_0 : MS := (.asg (.nm 2) (.bin false .mod (.ix (.var 0) (.int (0))) (.var 1)))
def s7_0_1 : MS := (.asg (.sub (.var 0) (.int (0))) (.bin false .fdiv (.ix (.var 0) (.int (0))) (.var 1)))
def s7_0_2 : MS := (.ret (.var 2))
def s7_0 : MS := (.ite (.cmp .gt (.ix (.var 0) (.int (0))) (.int (0))) [s7_0_0, s7_0_1, s7_0_2] [])
def s7_1 : MS := (.asg (.sub (.var 0) (.int (2))) (.bin false .add (.ix (.var 0) (.int (2))) (.int (1))))
def s7_2 : MS := (.asg (.nm 3) (.bin false .mod (.bin false .add (.ix (.var 0) (.int (1))) (.bin false .mul (.int (1442695040888963407)) (.ix (.var 0) (.int (2))))) (.int (2305843009213693951))))
def s7_3 : MS := (.asg (.nm 3) (.bin false .mod (.bin false .add (.bin false .add (.bin false .mul (.var 3) (.var 3)) (.bin false .mul (.int (39373)) (.ix (.var 0) (.int (2))))) (.int (7))) (.int (2305843009213693921))))
def s7_4 : MS := (.asg (.nm 3) (.bin false .mod (.bin false .add (.bin false .mul (.var 3) (.bin false .add (.bin false .fdiv (.var 3) (.int (65536))) (.int (3)))) (.ix (.var 0) (.int (2)))) (.int (2305843009213693907))))
def s7_5 : MS := (.ret (.bin false .mod (.bin false .fdiv (.var 3) (.int (1048576))) (.var 1)))
def d7 : Def :=
  { np := 2, ns := 4, gc := 1, body := [s7_0, s7_1, s7_2, s7_3, s7_4, s7_5] }
/- _law_cells -/
def s8_0 : MS := (.asg (.nm 2) (.or (.b .list true [(.sl false (.var 0) none (some (.var 1)))]) (.lst true [(.int (0))])))
def s8_1_0 : MS := (.asg (.sub (.var 2) (.bin false .mod (.var 3) (.var 1))) (.bin false .add (.ix (.var 2) (.bin false .mod (.var 3) (.var 1))) (.bin false .mul (.var 4) (.bin false .add (.var 3) (.int (2))))))
def s8_1 : MS := (.for_ (.tup [(.nm 3), (.nm 4)]) (.enu (.sl false (.var 0) (some (.var 1)) (some (.int (63))))) [s8_1_0])
def s8_2 : MS := (.ret (.var 2))
def d8 : Def :=
  { np := 2, ns := 5, gc := 1, body := [s8_0, s8_1, s8_2] }
/- _law_of -/
def s10_0 : MS := (.ret (.ix (.var 1) (.call 7 [(.var 0), (.b .len false [(.var 1)])] [0, 1] [])))
def d10 : Def :=
  { np := 2, ns := 2, gc := 1, body := [s10_0] }
/- _law_word -/
def s12_0 : MS := (.ret (.ix (.lst false [(.str [97]), (.str [98]), (.str [97]), (.str [98]), (.str [97, 98]), (.str [98, 97]), (.str [99]), (.str [122, 122, 122, 122, 122, 122])]) (.call 7 [(.var 0), (.int (8))] [0, 1] [])))
def d12 : Def :=
  { np := 1, ns := 1, gc := 1, body := [s12_0] }
/- _law_room -/
def s13_0 : MS := (.asg (.nm 3) (.bin false .add (.int (1)) (.call 7 [(.var 0), (.var 1)] [0, 1] [])))
def s13_1 : MS := (.asg (.nm 4) (.lc true [5] (.tup []) (.nm 5) (.rng [(.var 3)]) []))
def s13_2_0 : MS := (.asg (.nm 5) (.call 7 [(.var 0), (.var 3)] [0, 1] []))
def s13_2_1 : MS := (.asg (.nm 7) (.bin false .mod (.bin false .add (.bin false .add (.var 5) (.int (1))) (.call 7 [(.var 0), (.bin false .sub (.var 3) (.int (1)))] [0, 1] [])) (.var 3)))
def s13_2_2 : MS := (.asg (.sub (.var 4) (.var 5)) (.bin false .add (.ix (.var 4) (.var 5)) (.tup [(.tup [(.var 7), (.call 12 [(.var 0)] [0] [])])])))
def s13_2 : MS := (.for_ (.nm 6) (.rng [(.ite (.cmp .gt (.var 3) (.int (1))) (.call 7 [(.var 0), (.bin false .add (.var 2) (.int (1)))] [0, 1] []) (.int (0)))]) [s13_2_0, s13_2_1, s13_2_2])
def s13_3 : MS := (.ret (.b .tuple false [(.var 4)]))
def d13 : Def :=
  { np := 3, ns := 8, gc := 1, body := [s13_0, s13_1, s13_2, s13_3] }
/- _law_dozing -/
def s37_0 : MS := (.asg (.nm 2) (.call 7 [(.var 0), (.int (4))] [0, 1] []))
def s37_1 : MS := (.ret (.lc false [3] (.var 3) (.nm 3) (.rng [(.var 1)]) [(.and (.cmp .gt (.var 2) (.int (0))) (.cmp .eq (.call 7 [(.var 0), (.ix (.lst false [(.int (1)), (.int (4)), (.int (2)), (.int (3))]) (.var 2))] [0, 1] []) (.int (0))))]))
def d37 : Def :=
  { np := 2, ns := 4, gc := 1, body := [s37_0, s37_1] }
/- _law_peck -/
def s38_0 : MS := (.asg (.tup [(.nm 2), (.nm 3)]) (.ix (.ix (.var 0) (.var 1)) (.neg (.int (1)))))
def s38_1 : MS := (.asg (.nm 4) (.b .list true [(.var 0)]))
def s38_2 : MS := (.asg (.sub (.var 4) (.var 1)) (.sl false (.ix (.var 0) (.var 1)) none (some (.neg (.int (1))))))
def s38_3 : MS := (.asg (.sub (.var 4) (.var 2)) (.bin false .add (.ix (.var 0) (.var 2)) (.tup [(.tup [(.var 1), (.var 3)])])))
def s38_4 : MS := (.ret (.b .tuple false [(.var 4)]))
def d38 : Def :=
  { np := 2, ns := 5, gc := 1, body := [s38_0, s38_1, s38_2, s38_3, s38_4] }
/- _law_can -/
def s39_0 : MS := (.ret (.lc false [2, 3] (.var 2) (.tup [(.nm 2), (.nm 3)]) (.enu (.var 0)) [(.and (.cmp .ne (.var 3) (.tup [])) (.cmp .nin (.var 2) (.var 1)))]))
def d39 : Def :=
  { np := 2, ns := 4, gc := 1, body := [s39_0] }
/- _law_held -/
def s25_0 : MS := (.ret (.b .tuple false [(.lc false [3, 4] (.var 4) (.tup [(.nm 3), (.nm 4)]) (.ex (.ix (.var 0) (.var 1))) [(.cmp .eq (.var 3) (.var 2))])]))
def d25 : Def :=
  { np := 3, ns := 5, gc := 1, body := [s25_0] }
/- _law_line -/
def s54_0 : MS := (.ret (.bin false .add (.call 25 [(.var 0), (.var 1), (.var 2)] [0, 1, 2] []) (.rv false (.call 25 [(.var 0), (.var 2), (.var 1)] [0, 1, 2] []))))
def d54 : Def :=
  { np := 3, ns := 3, gc := 1, body := [s54_0] }
/- _law_pairs -/
def s61_0 : MS := (.asg (.nm 1) (.lst false []))
def s61_1_0 : MS := (.asg (.nm 1) (.bin false .add (.var 1) (.lc false [3] (.tup [(.var 2), (.var 3)]) (.nm 3) (.rng [(.bin false .add (.var 2) (.int (1))), (.b .len false [(.var 0)])]) [])))
def s61_1 : MS := (.for_ (.nm 2) (.rng [(.b .len false [(.var 0)])]) [s61_1_0])
def s61_2 : MS := (.ret (.var 1))
def d61 : Def :=
  { np := 1, ns := 4, gc := 1, body := [s61_0, s61_1, s61_2] }
/- _law_step_right -/
def s407_0 : MS := (.asg (.tup [(.nm 4), (.nm 5)]) (.call 22 [(.var 0), (.var 2)] [0, 1] []))
def s407_1_0 : MS := (.ret (.bl false))
def s407_1 : MS := (.ite (.or (.cmp .ne (.call 22 [(.var 1), (.var 4)] [0, 1] []) (.tup [(.var 2), (.var 5)])) (.cmp .ne (.call 24 [(.var 1)] [0] []) (.call 24 [(.var 0)] [0] []))) [s407_1_0] [])
def s407_2_0_0 : MS := (.ret (.bl false))
def s407_2_0 : MS := (.ite (.cmp .ne (.call 50 [(.var 1), (.var 6), (.var 7)] [0, 1, 2] []) (.call 54 [(.var 0), (.var 6), (.var 7)] [0, 1, 2] [])) [s407_2_0_0] [])
def s407_2_1 : MS := (.asg (.nm 8) (.bin false .sub (.call 51 [(.var 1), (.var 6), (.var 7)] [0, 1, 2] []) (.call 51 [(.var 0), (.var 6), (.var 7)] [0, 1, 2] [])))
def s407_2_2 : MS := (.asg (.nm 9) (.ite (.cmp .ne (.b .sorted false [(.lst false [(.var 2), (.var 4)])]) (.lst false [(.var 6), (.var 7)])) (.int (0)) (.ix (.lst false [(.int (1)), (.neg (.int (1)))]) (.b .int false [(.cmp .eq (.var 2) (.var 6))]))))
def s407_2_3_0 : MS := (.ret (.bl false))
def s407_2_3 : MS := (.ite (.cmp .ne (.var 8) (.var 9)) [s407_2_3_0] [])
def s407_2 : MS := (.for_ (.tup [(.nm 6), (.nm 7)]) (.ex (.call 61 [(.var 0)] [0] [])) [s407_2_0, s407_2_1, s407_2_2, s407_2_3])
def s407_3 : MS := (.ret (.and (.cmp .eq (.call 53 [(.var 1)] [0] []) (.var 3)) (.cmp .is_ (.call 59 [(.var 0), (.var 1)] [0, 1] []) .non)))
def d407 : Def :=
  { np := 4, ns := 10, gc := 1, body := [s407_0, s407_1, s407_2, s407_3] }
/- _law_right -/
def s408_0 : MS := (.asg (.nm 1) (.call 13 [(.var 0), (.int (8)), (.int (24))] [0, 1, 2] []))
def s408_1 : MS := (.asg (.tup [(.nm 2), (.nm 3), (.nm 4)]) (.tup [(.call 37 [(.var 0), (.b .len false [(.var 1)])] [0, 1] []), (.call 53 [(.var 1)] [0] []), (.var 1)]))
def s408_2_0 : MS := (.asg (.nm 6) (.call 39 [(.var 4), (.var 2)] [0, 1] []))
def s408_2_1_0 : MS := (.ret (.bl true))
def s408_2_1 : MS := (.ite (.cmp .eq (.var 6) (.lst false [])) [s408_2_1_0] [])
def s408_2_2 : MS := (.asg (.nm 7) (.call 10 [(.var 0), (.var 6)] [0, 1] []))
def s408_2_3 : MS := (.asg (.nm 8) (.call 35 [(.var 4), (.var 7), (.var 2)] [0, 1, 2] []))
def s408_2_4_0 : MS := (.ret (.bl false))
def s408_2_4 : MS := (.ite (.or (.cmp .ne (.var 8) (.call 38 [(.var 4), (.var 7)] [0, 1] [])) (.not (.call 407 [(.var 4), (.var 8), (.var 7), (.var 3)] [0, 1, 2, 3] []))) [s408_2_4_0] [])
def s408_2_5 : MS := (.asg (.nm 4) (.var 8))
def s408_2 : MS := (.for_ (.nm 5) (.rng [(.call 7 [(.var 0), (.int (41))] [0, 1] [])]) [s408_2_0, s408_2_1, s408_2_2, s408_2_3, s408_2_4, s408_2_5])
def s408_3 : MS := (.ret (.cmp .is_ (.call 59 [(.var 1), (.var 4)] [0, 1] []) .non))
def d408 : Def :=
  { np := 1, ns := 9, gc := 1, body := [s408_0, s408_1, s408_2, s408_3] }
/- law -/
def s409_0 : MS := (.asg (.nm 1) (.call 8 [(.var 0), (.int (3))] [0, 1] []))
def s409_1_0 : MS := (.asg (.nm 3) (.call 6 [(.var 1), (.var 2)] [0, 1] []))
def s409_1_1_0 : MS := (.ret (.bl false))
def s409_1_1 : MS := (.ite (.not (.b .all false [(.lc false [4] (.call 408 [(.var 3)] [0] []) (.nm 4) (.rng [(.int (2))]) [])])) [s409_1_1_0] [])
def s409_1 : MS := (.for_ (.nm 2) (.rng [(.b .len false [(.var 1)])]) [s409_1_0, s409_1_1])
def s409_2 : MS := (.ret (.bl true))
def d409 : Def :=
  { np := 1, ns := 5, gc := 1, body := [s409_0, s409_1, s409_2] }
def prog : Prog where
  fn := fun k => match k with
    | 1 => some d1
    | 19 => some d19
    | 28 => some d28
    | 20 => some d20
    | 21 => some d21
    | 22 => some d22
    | 23 => some d23
    | 24 => some d24
    | 50 => some d50
    | 51 => some d51
    | 52 => some d52
    | 53 => some d53
    | 57 => some d57
    | 58 => some d58
    | 59 => some d59
    | 33 => some d33
    | 34 => some d34
    | 35 => some d35
    | 6 => some d6
    | 7 => some d7
    | 8 => some d8
    | 10 => some d10
    | 12 => some d12
    | 13 => some d13
    | 37 => some d37
    | 38 => some d38
    | 39 => some d39
    | 25 => some d25
    | 54 => some d54
    | 61 => some d61
    | 407 => some d407
    | 408 => some d408
    | 409 => some d409
    | _ => none
  meth := fun _ _ => none
  ini := fun _ => none
  base := fun c => match c with
    | _ => 0
  flds := fun c => match c with
    | _ => []
  glb := fun _ => .non
end Pk70

namespace Pk71
open G
/- is_number -/
def s1_0 : MS := (.ret (.and (.isi (.var 0) [.int]) (.not (.isi (.var 0) [.bool]))))
def d1 : Def :=
  { np := 1, ns := 1, gc := 1, body := [s1_0] }
/- as_heap -/
def s19_0 : MS := (.ret (.b .tuple false [(.lc false [1, 2] (.tup [(.var 1), (.var 2)]) (.tup [(.nm 1), (.nm 2)]) (.ex (.var 0)) [])]))
def d19 : Def :=
  { np := 1, ns := 3, gc := 1, body := [s19_0] }
/- is_there -/
def s20_0 : MS := (.ret (.and (.call 1 [(.var 1)] [0] []) (.ch2 .le .lt (.int (0)) (.var 1) (.b .len false [(.var 0)]))))
def d20 : Def :=
  { np := 2, ns := 2, gc := 1, body := [s20_0] }
/- look_dove -/
def s21_0_0 : MS := .never
def s21_0 : MS := (.ite (.not (.call 20 [(.var 0), (.var 1)] [0, 1] [])) [s21_0_0] [])
def d21 : Def :=
  { np := 2, ns := 2, gc := 1, body := [s21_0] }
/- held -/
def s23_0 : MS := (.expr (.call 21 [(.var 0), (.var 1)] [0, 1] []))
def s23_1 : MS := (.expr (.call 21 [(.var 0), (.var 2)] [0, 1] []))
def s23_2 : MS := (.ret (.b .tuple false [(.lc false [3, 4] (.var 4) (.tup [(.nm 3), (.nm 4)]) (.ex (.ix (.var 0) (.var 1))) [(.cmp .eq (.var 3) (.var 2))])]))
def d23 : Def :=
  { np := 3, ns := 5, gc := 1, body := [s23_0, s23_1, s23_2] }
/- line -/
def s50_0 : MS := (.ret (.bin false .add (.call 23 [(.var 0), (.var 1), (.var 2)] [0, 1, 2] []) (.rv false (.call 23 [(.var 0), (.var 2), (.var 1)] [0, 1, 2] []))))
def d50 : Def :=
  { np := 3, ns := 3, gc := 1, body := [s50_0] }
/- pairs_of -/
def s52_0 : MS := (.asg (.nm 1) (.b .len false [(.var 0)]))
def s52_1 : MS := (.ret (.lc2 false [2, 3] (.tup [(.var 2), (.var 3)]) (.nm 2) (.rng [(.var 1)]) [] [3] (.nm 3) (.rng [(.bin false .add (.var 2) (.int (1))), (.var 1)]) []))
def d52 : Def :=
  { np := 1, ns := 4, gc := 1, body := [s52_0, s52_1] }
/- first_apart -/
def s57_0_0_0 : MS := (.ret (.var 2))
def s57_0_0 : MS := (.ite (.cmp .ne (.var 3) (.var 4)) [s57_0_0_0] [])
def s57_0 : MS := (.for_ (.tup [(.nm 2), (.tup [(.nm 3), (.nm 4)])]) (.enz (.var 0) (.var 1)) [s57_0_0])
def s57_1 : MS := (.ret (.ite (.cmp .eq (.b .len false [(.var 0)]) (.b .len false [(.var 1)])) .non (.b .min2 false [(.b .len false [(.var 0)]), (.b .len false [(.var 1)])])))
def d57 : Def :=
  { np := 2, ns := 5, gc := 1, body := [s57_0, s57_1] }
/- look_same -/
def s58_0_0 : MS := .never
def s58_0 : MS := (.ite (.cmp .ne (.b .len false [(.var 0)]) (.b .len false [(.var 1)])) [s58_0_0] [])
def d58 : Def :=
  { np := 2, ns := 2, gc := 1, body := [s58_0] }
/- first_unlike -/
def s59_0 : MS := (.expr (.call 58 [(.var 0), (.var 1)] [0, 1] []))
def s59_1_0 : MS := (.asg (.nm 4) (.call 57 [(.call 50 [(.var 0), (.var 2), (.var 3)] [0, 1, 2] []), (.call 50 [(.var 1), (.var 2), (.var 3)] [0, 1, 2] [])] [0, 1] []))
def s59_1_1_0 : MS := (.ret (.tup [(.var 2), (.var 3), (.var 4)]))
def s59_1_1 : MS := (.ite (.cmp .isn (.var 4) .non) [s59_1_1_0] [])
def s59_1 : MS := (.for_ (.tup [(.nm 2), (.nm 3)]) (.ex (.call 52 [(.var 0)] [0] [])) [s59_1_0, s59_1_1])
def s59_2 : MS := (.ret .non)
def d59 : Def :=
  { np := 2, ns := 5, gc := 1, body := [s59_0, s59_1, s59_2] }
/- sleepers_grudges -/
def s67_0 : MS := (.ret (.lc false [2, 3, 4] (.var 2) (.tup [(.nm 2), (.tup [(.nm 3), (.nm 4)])]) (.enu (.var 0)) [(.cmp .in_ (.var 3) (.var 1))]))
def d67 : Def :=
  { np := 2, ns := 5, gc := 1, body := [s67_0] }
/- still_of -/
def s68_0_0 : MS := (.ret (.b .len false [(.ix (.var 0) (.var 2))]))
def s68_0 : MS := (.ite (.cmp .in_ (.var 2) (.var 3)) [s68_0_0] [])
def s68_1 : MS := (.asg (.nm 4) (.b .len false [(.call 67 [(.ix (.var 1) (.var 2)), (.var 3)] [0, 1] [])]))
def s68_2 : MS := (.asg (.nm 5) (.sl false (.call 67 [(.ix (.var 0) (.var 2)), (.var 3)] [0, 1] []) none (some (.var 4))))
def s68_3 : MS := (.ret (.ite (.cmp .gt (.b .len false [(.var 5)]) (.int (0))) (.bin false .add (.ix (.var 5) (.neg (.int (1)))) (.int (1))) (.int (0))))
def d68 : Def :=
  { np := 4, ns := 6, gc := 1, body := [s68_0, s68_1, s68_2, s68_3] }
/- still -/
def s69_0 : MS := (.expr (.call 58 [(.var 0), (.var 1)] [0, 1] []))
def s69_1 : MS := (.ret (.b .tuple false [(.lc false [3] (.call 68 [(.var 0), (.var 1), (.var 3), (.var 2)] [0, 1, 2, 3] []) (.nm 3) (.rng [(.b .len false [(.var 0)])]) [])]))
def d69 : Def :=
  { np := 3, ns := 4, gc := 1, body := [s69_0, s69_1] }
/- first_moved -/
def s70_0_0 : MS := (.asg (.nm 5) (.call 57 [(.sl false (.call 19 [(.ix (.var 0) (.var 3))] [0] []) none (some (.var 4))), (.sl false (.call 19 [(.ix (.var 1) (.var 3))] [0] []) none (some (.var 4)))] [0, 1] []))
def s70_0_1_0 : MS := (.ret (.tup [(.var 3), (.var 5)]))
def s70_0_1 : MS := (.ite (.cmp .isn (.var 5) .non) [s70_0_1_0] [])
def s70_0 : MS := (.for_ (.tup [(.nm 3), (.nm 4)]) (.enu (.call 69 [(.var 0), (.var 1), (.var 2)] [0, 1, 2] [])) [s70_0_0, s70_0_1])
def s70_1 : MS := (.ret .non)
def d70 : Def :=
  { np := 3, ns := 6, gc := 1, body := [s70_0, s70_1] }
/- look_lines -/
def s75_0 : MS := (.asg (.nm 2) (.call 59 [(.var 0), (.var 1)] [0, 1] []))
def s75_1_0 : MS := .never
def s75_1 : MS := (.ite (.cmp .isn (.var 2) .non) [s75_1_0] [])
def d75 : Def :=
  { np := 2, ns := 3, gc := 1, body := [s75_0, s75_1] }
/- look_still -/
def s76_0 : MS := (.expr (.call 75 [(.var 0), (.var 1)] [0, 1] []))
def s76_1 : MS := (.asg (.nm 3) (.call 70 [(.var 0), (.var 1), (.var 2)] [0, 1, 2] []))
def s76_2_0 : MS := .never
def s76_2 : MS := (.ite (.cmp .isn (.var 3) .non) [s76_2_0] [])
def d76 : Def :=
  { np := 3, ns := 4, gc := 1, body := [s76_0, s76_1, s76_2] }
/- rows_given -/
def s78_0 : MS := (.asg (.nm 3) (.lst true []))
def s78_1_0 : MS := (.asg (.nm 6) (.lc false [7] (.var 7) (.nm 7) (.ex (.rv false (.call 67 [(.ix (.var 0) (.var 4)), (.var 2)] [0, 1] []))) [(.cmp .ge (.var 7) (.var 5))]))
def s78_1_1_0 : MS := (.expr (.bm .append false (.var 3) [(.lc false [7] (.tup [(.var 4), (.var 7)]) (.nm 7) (.ex (.var 6)) [])]))
def s78_1_1 : MS := (.ite (.cmp .nin (.var 4) (.var 2)) [s78_1_1_0] [])
def s78_1 : MS := (.for_ (.tup [(.nm 4), (.nm 5)]) (.enu (.var 1)) [s78_1_0, s78_1_1])
def s78_2 : MS := (.ret (.var 3))
def d78 : Def :=
  { np := 3, ns := 8, gc := 1, body := [s78_0, s78_1, s78_2] }
/- givings -/
def s81_0 : MS := (.expr (.call 76 [(.var 0), (.var 1), (.var 2)] [0, 1, 2] []))
def s81_1 : MS := (.asg (.nm 3) (.call 78 [(.var 0), (.call 69 [(.var 0), (.var 1), (.var 2)] [0, 1, 2] []), (.var 2)] [0, 1, 2] []))
def s81_2 : MS := (.ret (.b .sorted false [(.lc2 false [4, 5] (.var 5) (.nm 4) (.ex (.var 3)) [] [5] (.nm 5) (.ex (.var 4)) [])]))
def d81 : Def :=
  { np := 3, ns := 6, gc := 1, body := [s81_0, s81_1, s81_2] }
/- _law_box -/
def s6_0 : MS := (.asg (.nm 2) (.ix (.var 0) (.var 1)))
def s6_1 : MS := (.ret (.lst true [(.bin false .mul (.b .abs false [(.var 2)]) (.b .int false [(.cmp .ge (.b .abs false [(.var 2)]) (.bin false .pow (.int (10)) (.int (18))))])), (.bin false .add (.bin false .add (.bin false .mod (.var 2) (.int (2305843009213693951))) (.bin false .mul (.int (15485863)) (.var 1))) (.int (11))), (.int (0))]))
def d6 : Def :=
  { np := 2, ns := 3, gc := 2, body := [s6_0, s6_1] }
/- _law_take -/
def s7_0_0 : MS := (.asg (.nm 2) (.bin false .mod (.ix (.var 0) (.int (0))) (.var 1)))
def s7_0_1 : MS := (.asg (.sub (.var 0) (.int (0))) (.bin false .fdiv (.ix (.var 0) (.int (0))) (.var 1)))
def s7_0_2 : MS := (.ret (.var 2))
def s7_0 : MS := (.ite (.cmp .gt (.ix (.var 0) (.int (0))) (.int (0))) [s7_0_0, s7_0_1, s7_0_2] [])
def s7_1 : MS := (.asg (.sub (.var 0) (.int (2))) (.bin false .add (.ix (.var 0) (.int (2))) (.int (1))))
def s7_2 : MS := (.asg (.nm 3) (.bin false .mod (.bin false .add (.ix (.var 0) (.int (1))) (.bin false .mul (.int (1442695040888963407)) (.ix (.var 0) (.int (2))))) (.int (2305843009213693951))))
def s7_3 : MS := (.asg (.nm 3) (.bin false .mod (.bin false .add (.bin false .add (.bin false .mul (.var 3) (.var 3)) (.bin false .mul (.int (39373)) (.ix (.var 0) (.int (2))))) (.int (7))) (.int (2305843009213693921))))
def s7_4 : MS := (.asg (.nm 3) (.bin false .mod (.bin false .add (.bin false .mul (.var 3) (.bin false .add (.bin false .fdiv (.var 3) (.int (65536))) (.int (3)))) (.ix (.var 0) (.int (2)))) (.int (2305843009213693907))))
def s7_5 : MS := (.ret (.bin false .mod (.bin false .fdiv (.var 3) (.int (1048576))) (.var 1)))
def d7 : Def :=
  { np := 2, ns := 4, gc := 1, body := [s7_0, s7_1, s7_2, s7_3, s7_4, s7_5] }
/- _law_cells -/
def s8_0 : MS := (.asg (.nm 2) (.or (.b .list true [(.sl false (.var 0) none (some (.var 1)))]) (.lst true [(.int (0))])))
def s8_1_0 : MS := (.asg (.sub (.var 2) (.bin false .mod (.var 3) (.var 1))) (.bin false .add (.ix (.var 2) (.bin false .mod (.var 3) (.var 1))) (.bin false .mul (.var 4) (.bin false .add (.var 3) (.int (2))))))
def s8_1 : MS := (.for_ (.tup [(.nm 3), (.nm 4)]) (.enu (.sl false (.var 0) (some (.var 1)) (some (.int (63))))) [s8_1_0])
def s8_2 : MS := (.ret (.var 2))
def d8 : Def :=
  { np := 2, ns := 5, gc := 1, body := [s8_0, s8_1, s8_2] }
/- _law_of -/
def s10_0 : MS := (.ret (.ix (.var 1) (.call 7 [(.var 0), (.b .len false [(.var 1)])] [0, 1] [])))
def d10 : Def :=
  { np := 2, ns := 2, gc := 1, body := [s10_0] }
/- _law_word -/
def s12_0 : MS := (.ret (.ix (.lst false [(.str [97]), (.str [98]), (.str [97]), (.str [98]), (.str [97, 98]), (.str [98, 97]), (.str [99]), (.str [122, 122, 122, 122, 122, 122])]) (.call 7 [(.var 0), (.int (8))] [0, 1] [])))
def d12 : Def :=
  { np := 1, ns := 1, gc := 1, body := [s12_0] }
/- _law_room -/
def s13_0 : MS := (.asg (.nm 3) (.bin false .add (.int (1)) (.call 7 [(.var 0), (.var 1)] [0, 1] [])))
def s13_1 : MS := (.asg (.nm 4) (.lc true [5] (.tup []) (.nm 5) (.rng [(.var 3)]) []))
def s13_2_0 : MS := (.asg (.nm 5) (.call 7 [(.var 0), (.var 3)] [0, 1] []))
def s13_2_1 : MS := (.asg (.nm 7) (.bin false .mod (.bin false .add (.bin false .add (.var 5) (.int (1))) (.call 7 [(.var 0), (.bin false .sub (.var 3) (.int (1)))] [0, 1] [])) (.var 3)))
def s13_2_2 : MS := (.asg (.sub (.var 4) (.var 5)) (.bin false .add (.ix (.var 4) (.var 5)) (.tup [(.tup [(.var 7), (.call 12 [(.var 0)] [0] [])])])))
def s13_2 : MS := (.for_ (.nm 6) (.rng [(.ite (.cmp .gt (.var 3) (.int (1))) (.call 7 [(.var 0), (.bin false .add (.var 2) (.int (1)))] [0, 1] []) (.int (0)))]) [s13_2_0, s13_2_1, s13_2_2])
def s13_3 : MS := (.ret (.b .tuple false [(.var 4)]))
def d13 : Def :=
  { np := 3, ns := 8, gc := 1, body := [s13_0, s13_1, s13_2, s13_3] }
/- _law_dozing -/
def s37_0 : MS := (.asg (.nm 2) (.call 7 [(.var 0), (.int (4))] [0, 1] []))
def s37_1 : MS := (.ret (.lc false [3] (.var 3) (.nm 3) (.rng [(.var 1)]) [(.and (.cmp .gt (.var 2) (.int (0))) (.cmp .eq (.call 7 [(.var 0), (.ix (.lst false [(.int (1)), (.int (4)), (.int (2)), (.int (3))]) (.var 2))] [0, 1] []) (.int (0))))]))
def d37 : Def :=
  { np := 2, ns := 4, gc := 1, body := [s37_0, s37_1] }
/- _law_peck -/
def s38_0 : MS := (.asg (.tup [(.nm 2), (.nm 3)]) (.ix (.ix (.var 0) (.var 1)) (.neg (.int (1)))))
def s38_1 : MS := (.asg (.nm 4) (.b .list true [(.var 0)]))
def s38_2 : MS := (.asg (.sub (.var 4) (.var 1)) (.sl false (.ix (.var 0) (.var 1)) none (some (.neg (.int (1))))))
def s38_3 : MS := (.asg (.sub (.var 4) (.var 2)) (.bin false .add (.ix (.var 0) (.var 2)) (.tup [(.tup [(.var 1), (.var 3)])])))
def s38_4 : MS := (.ret (.b .tuple false [(.var 4)]))
def d38 : Def :=
  { np := 2, ns := 5, gc := 1, body := [s38_0, s38_1, s38_2, s38_3, s38_4] }
/- _law_can -/
def s39_0 : MS := (.ret (.lc false [2, 3] (.var 2) (.tup [(.nm 2), (.nm 3)]) (.enu (.var 0)) [(.and (.cmp .ne (.var 3) (.tup [])) (.cmp .nin (.var 2) (.var 1)))]))
def d39 : Def :=
  { np := 2, ns := 4, gc := 1, body := [s39_0] }
/- _law_led -/
def s45_0 : MS := (.asg (.nm 4) (.lst true []))
def s45_1_0 : MS := (.asg (.nm 6) (.call 39 [(.var 1), (.var 2)] [0, 1] []))
def s45_1_1_0 : MS := (.expr (.bm .append false (.var 4) [(.call 10 [(.var 0), (.var 6)] [0, 1] [])]))
def s45_1_1_1 : MS := (.asg (.nm 1) (.call 38 [(.var 1), (.ix (.var 4) (.neg (.int (1))))] [0, 1] []))
def s45_1_1 : MS := (.ite (.cmp .ne (.var 6) (.lst false [])) [s45_1_1_0, s45_1_1_1] [])
def s45_1 : MS := (.for_ (.nm 5) (.rng [(.var 3)]) [s45_1_0, s45_1_1])
def s45_2 : MS := (.ret (.tup [(.var 4), (.var 1)]))
def d45 : Def :=
  { np := 4, ns := 7, gc := 1, body := [s45_0, s45_1, s45_2] }
/- _law_right -/
def s410_0 : MS := (.asg (.nm 1) (.call 13 [(.var 0), (.int (8)), (.int (24))] [0, 1, 2] []))
def s410_1 : MS := (.asg (.nm 2) (.call 37 [(.var 0), (.b .len false [(.var 1)])] [0, 1] []))
def s410_2 : MS := (.asg (.tup [(.nm 3), (.nm 4)]) (.tup [(.lst true [(.var 1)]), (.var 1)]))
def s410_3_0 : MS := (.asg (.tup [(.nm 6), (.nm 4)]) (.call 45 [(.var 0), (.var 4), (.var 2), (.int (3))] [0, 1, 2, 3] []))
def s410_3_1 : MS := (.expr (.bm .append false (.var 3) [(.var 4)]))
def s410_3 : MS := (.for_ (.nm 5) (.rng [(.bin false .add (.int (1)) (.call 7 [(.var 0), (.int (20))] [0, 1] []))]) [s410_3_0, s410_3_1])
def s410_4_0 : MS := (.asg (.nm 9) .non)
def s410_4_1_0_0 : MS := (.ret (.bl false))
def s410_4_1_0 : MS := (.ite (.cmp .isn (.call 70 [(.var 8), (.var 10), (.var 2)] [0, 1, 2] []) .non) [s410_4_1_0_0] [])
def s410_4_1_1 : MS := (.asg (.nm 11) (.call 69 [(.var 8), (.var 10), (.var 2)] [0, 1, 2] []))
def s410_4_1_2_0 : MS := (.ret (.bl false))
def s410_4_1_2 : MS := (.ite (.not (.b .all false [(.lc false [12, 13] (.cmp .eq (.sl false (.ix (.var 10) (.var 12)) none (some (.var 13))) (.sl false (.ix (.var 8) (.var 12)) none (some (.var 13)))) (.tup [(.nm 12), (.nm 13)]) (.enu (.var 11)) [])])) [s410_4_1_2_0] [])
def s410_4_1_3_0 : MS := (.ret (.bl false))
def s410_4_1_3 : MS := (.ite (.and (.cmp .isn (.var 9) .non) (.not (.b .all false [(.lc false [13, 14] (.cmp .le (.var 13) (.var 14)) (.tup [(.nm 13), (.nm 14)]) (.zip2 (.var 11) (.var 9)) [])]))) [s410_4_1_3_0] [])
def s410_4_1_4 : MS := (.asg (.nm 9) (.var 11))
def s410_4_1 : MS := (.for_ (.nm 10) (.ex (.sl false (.var 3) (some (.var 7)) none)) [s410_4_1_0, s410_4_1_1, s410_4_1_2, s410_4_1_3, s410_4_1_4])
def s410_4 : MS := (.for_ (.tup [(.nm 7), (.nm 8)]) (.enu (.var 3)) [s410_4_0, s410_4_1])
def s410_5 : MS := (.asg (.nm 15) (.lc false [4, 16] (.b .len false [(.call 81 [(.var 4), (.var 16), (.var 2)] [0, 1, 2] [])]) (.tup [(.nm 4), (.nm 16)]) (.zip2 (.var 3) (.sl false (.var 3) (some (.int (1))) none)) []))
def s410_6 : MS := (.ret (.cmp .eq (.b .len false [(.call 81 [(.var 1), (.ix (.var 3) (.neg (.int (1)))), (.var 2)] [0, 1, 2] [])]) (.b .sum false [(.var 15)])))
def d410 : Def :=
  { np := 1, ns := 17, gc := 1, body := [s410_0, s410_1, s410_2, s410_3, s410_4, s410_5, s410_6] }
/- law -/
def s411_0 : MS := (.asg (.nm 1) (.call 8 [(.var 0), (.int (3))] [0, 1] []))
def s411_1_0 : MS := (.asg (.nm 3) (.call 6 [(.var 1), (.var 2)] [0, 1] []))
def s411_1_1_0 : MS := (.ret (.bl false))
def s411_1_1 : MS := (.ite (.not (.b .all false [(.lc false [4] (.call 410 [(.var 3)] [0] []) (.nm 4) (.rng [(.int (1))]) [])])) [s411_1_1_0] [])
def s411_1 : MS := (.for_ (.nm 2) (.rng [(.b .len false [(.var 1)])]) [s411_1_0, s411_1_1])
def s411_2 : MS := (.ret (.bl true))
def d411 : Def :=
  { np := 1, ns := 5, gc := 1, body := [s411_0, s411_1, s411_2] }
def prog : Prog where
  fn := fun k => match k with
    | 1 => some d1
    | 19 => some d19
    | 20 => some d20
    | 21 => some d21
    | 23 => some d23
    | 50 => some d50
    | 52 => some d52
    | 57 => some d57
    | 58 => some d58
    | 59 => some d59
    | 67 => some d67
    | 68 => some d68
    | 69 => some d69
    | 70 => some d70
    | 75 => some d75
    | 76 => some d76
    | 78 => some d78
    | 81 => some d81
    | 6 => some d6
    | 7 => some d7
    | 8 => some d8
    | 10 => some d10
    | 12 => some d12
    | 13 => some d13
    | 37 => some d37
    | 38 => some d38
    | 39 => some d39
    | 45 => some d45
    | 410 => some d410
    | 411 => some d411
    | _ => none
  meth := fun _ _ => none
  ini := fun _ => none
  base := fun c => match c with
    | _ => 0
  flds := fun c => match c with
    | _ => []
  glb := fun _ => .non
end Pk71

namespace Pk02
open G
/- is_number -/
def s1_0 : MS := (.ret (.and (.isi (.var 0) [.int]) (.not (.isi (.var 0) [.bool]))))
def d1 : Def :=
  { np := 1, ns := 1, gc := 1, body := [s1_0] }
/- as_heap -/
def s19_0 : MS := (.ret (.b .tuple false [(.lc false [1, 2] (.tup [(.var 1), (.var 2)]) (.tup [(.nm 1), (.nm 2)]) (.ex (.var 0)) [])]))
def d19 : Def :=
  { np := 1, ns := 3, gc := 1, body := [s19_0] }
/- is_there -/
def s20_0 : MS := (.ret (.and (.call 1 [(.var 1)] [0] []) (.ch2 .le .lt (.int (0)) (.var 1) (.b .len false [(.var 0)]))))
def d20 : Def :=
  { np := 2, ns := 2, gc := 1, body := [s20_0] }
/- look_dove -/
def s21_0_0 : MS := (.raise 1 [(.var 1)])
def s21_0 : MS := (.ite (.not (.call 20 [(.var 0), (.var 1)] [0, 1] [])) [s21_0_0] [])
def d21 : Def :=
  { np := 2, ns := 2, gc := 1, body := [s21_0] }
/- uppermost -/
def s22_0 : MS := (.expr (.call 21 [(.var 0), (.var 1)] [0, 1] []))
def s22_1 : MS := (.asg (.nm 2) (.call 19 [(.ix (.var 0) (.var 1))] [0] []))
def s22_2 : MS := (.ret (.ite (.cmp .gt (.b .len false [(.var 2)]) (.int (0))) (.ix (.var 2) (.neg (.int (1)))) .non))
def d22 : Def :=
  { np := 2, ns := 3, gc := 1, body := [s22_0, s22_1, s22_2] }
/- held -/
def s23_0 : MS := (.expr (.call 21 [(.var 0), (.var 1)] [0, 1] []))
def s23_1 : MS := (.expr (.call 21 [(.var 0), (.var 2)] [0, 1] []))
def s23_2 : MS := (.ret (.b .tuple false [(.lc false [3, 4] (.var 4) (.tup [(.nm 3), (.nm 4)]) (.ex (.ix (.var 0) (.var 1))) [(.cmp .eq (.var 3) (.var 2))])]))
def d23 : Def :=
  { np := 3, ns := 5, gc := 1, body := [s23_0, s23_1, s23_2] }
/- grudges_in -/
def s24_0 : MS := (.ret (.b .sum false [(.lc false [1] (.b .len false [(.var 1)]) (.nm 1) (.ex (.var 0)) [])]))
def d24 : Def :=
  { np := 1, ns := 2, gc := 1, body := [s24_0] }
/- _law_box -/
def s6_0 : MS := (.asg (.nm 2) (.ix (.var 0) (.var 1)))
def s6_1 : MS := (.ret (.lst true [(.bin false .mul (.b .abs false [(.var 2)]) (.b .int false [(.cmp .ge (.b .abs false [(.var 2)]) (.bin false .pow (.int (10)) (.int (18))))])), (.bin false .add (.bin false .add (.bin false .mod (.var 2) (.int (2305843009213693951))) (.bin false .mul (.int (15485863)) (.var 1))) (.int (11))), (.int (0))]))
def d6 : Def :=
  { np := 2, ns := 3, gc := 2, body := [s6_0, s6_1] }
/- _law_take -/
def s7_0_0 : MS := (.asg (.nm 2) (.bin false .mod (.ix (.var 0) (.int (0))) (.var 1)))
def s7_0_1 : MS := (.asg (.sub (.var 0) (.int (0))) (.bin false .fdiv (.ix (.var 0) (.int (0))) (.var 1)))
def s7_0_2 : MS := (.ret (.var 2))
def s7_0 : MS := (.ite (.cmp .gt (.ix (.var 0) (.int (0))) (.int (0))) [s7_0_0, s7_0_1, s7_0_2] [])
def s7_1 : MS := (.asg (.sub (.var 0) (.int (2))) (.bin false .add (.ix (.var 0) (.int (2))) (.int (1))))
def s7_2 : MS := (.asg (.nm 3) (.bin false .mod (.bin false .add (.ix (.var 0) (.int (1))) (.bin false .mul (.int (1442695040888963407)) (.ix (.var 0) (.int (2))))) (.int (2305843009213693951))))
def s7_3 : MS := (.asg (.nm 3) (.bin false .mod (.bin false .add (.bin false .add (.bin false .mul (.var 3) (.var 3)) (.bin false .mul (.int (39373)) (.ix (.var 0) (.int (2))))) (.int (7))) (.int (2305843009213693921))))
def s7_4 : MS := (.asg (.nm 3) (.bin false .mod (.bin false .add (.bin false .mul (.var 3) (.bin false .add (.bin false .fdiv (.var 3) (.int (65536))) (.int (3)))) (.ix (.var 0) (.int (2)))) (.int (2305843009213693907))))
def s7_5 : MS := (.ret (.bin false .mod (.bin false .fdiv (.var 3) (.int (1048576))) (.var 1)))
def d7 : Def :=
  { np := 2, ns := 4, gc := 1, body := [s7_0, s7_1, s7_2, s7_3, s7_4, s7_5] }
/- _law_cells -/
def s8_0 : MS := (.asg (.nm 2) (.or (.b .list true [(.sl false (.var 0) none (some (.var 1)))]) (.lst true [(.int (0))])))
def s8_1_0 : MS := (.asg (.sub (.var 2) (.bin false .mod (.var 3) (.var 1))) (.bin false .add (.ix (.var 2) (.bin false .mod (.var 3) (.var 1))) (.bin false .mul (.var 4) (.bin false .add (.var 3) (.int (2))))))
def s8_1 : MS := (.for_ (.tup [(.nm 3), (.nm 4)]) (.enu (.sl false (.var 0) (some (.var 1)) (some (.int (63))))) [s8_1_0])
def s8_2 : MS := (.ret (.var 2))
def d8 : Def :=
  { np := 2, ns := 5, gc := 1, body := [s8_0, s8_1, s8_2] }
/- _law_same -/
def s9_0_0_0 : MS := (.ret (.bl false))
def s9_0_0 : MS := (.ite (.or (.cmp .ne (.isi (.var 0) [.list]) (.isi (.var 1) [.list])) (.cmp .ne (.isi (.var 0) [.tuple]) (.isi (.var 1) [.tuple]))) [s9_0_0_0] [])
def s9_0_1_0 : MS := (.ret (.bl false))
def s9_0_1 : MS := (.ite (.cmp .ne (.b .len false [(.var 0)]) (.b .len false [(.var 1)])) [s9_0_1_0] [])
def s9_0_2 : MS := (.ret (.b .all false [(.lc false [2, 3] (.call 9 [(.var 2), (.var 3)] [0, 1] []) (.tup [(.nm 2), (.nm 3)]) (.zip2 (.var 0) (.var 1)) [])]))
def s9_0 : MS := (.ite (.isi (.var 1) [.list, .tuple]) [s9_0_0, s9_0_1, s9_0_2] [])
def s9_1_0 : MS := (.ret (.cmp .is_ (.var 0) .non))
def s9_1 : MS := (.ite (.cmp .is_ (.var 1) .non) [s9_1_0] [])
def s9_2_0 : MS := (.ret (.and (.isi (.var 0) [.str]) (.cmp .eq (.var 0) (.var 1))))
def s9_2 : MS := (.ite (.isi (.var 1) [.str]) [s9_2_0] [])
def s9_3_0 : MS := (.ret (.and (.isi (.var 0) [.bool]) (.cmp .eq (.var 0) (.var 1))))
def s9_3 : MS := (.ite (.isi (.var 1) [.bool]) [s9_3_0] [])
def s9_4 : MS := (.ret (.and (.isi (.var 0) [.int]) (.and (.not (.isi (.var 0) [.bool])) (.cmp .eq (.var 0) (.var 1)))))
def d9 : Def :=
  { np := 2, ns := 4, gc := 1, body := [s9_0, s9_1, s9_2, s9_3, s9_4] }
/- _law_listed -/
def s11_0 : MS := (.ret (.ite (.isi (.var 0) [.list, .tuple]) (.lc false [1] (.call 11 [(.var 1)] [0] []) (.nm 1) (.ex (.var 0)) []) (.var 0)))
def d11 : Def :=
  { np := 1, ns := 2, gc := 1, body := [s11_0] }
/- _law_word -/
def s12_0 : MS := (.ret (.ix (.lst false [(.str [97]), (.str [98]), (.str [97]), (.str [98]), (.str [97, 98]), (.str [98, 97]), (.str [99]), (.str [122, 122, 122, 122, 122, 122])]) (.call 7 [(.var 0), (.int (8))] [0, 1] [])))
def d12 : Def :=
  { np := 1, ns := 1, gc := 1, body := [s12_0] }
/- _law_room -/
def s13_0 : MS := (.asg (.nm 3) (.bin false .add (.int (1)) (.call 7 [(.var 0), (.var 1)] [0, 1] [])))
def s13_1 : MS := (.asg (.nm 4) (.lc true [5] (.tup []) (.nm 5) (.rng [(.var 3)]) []))
def s13_2_0 : MS := (.asg (.nm 5) (.call 7 [(.var 0), (.var 3)] [0, 1] []))
def s13_2_1 : MS := (.asg (.nm 7) (.bin false .mod (.bin false .add (.bin false .add (.var 5) (.int (1))) (.call 7 [(.var 0), (.bin false .sub (.var 3) (.int (1)))] [0, 1] [])) (.var 3)))
def s13_2_2 : MS := (.asg (.sub (.var 4) (.var 5)) (.bin false .add (.ix (.var 4) (.var 5)) (.tup [(.tup [(.var 7), (.call 12 [(.var 0)] [0] [])])])))
def s13_2 : MS := (.for_ (.nm 6) (.rng [(.ite (.cmp .gt (.var 3) (.int (1))) (.call 7 [(.var 0), (.bin false .add (.var 2) (.int (1)))] [0, 1] []) (.int (0)))]) [s13_2_0, s13_2_1, s13_2_2])
def s13_3 : MS := (.ret (.b .tuple false [(.var 4)]))
def d13 : Def :=
  { np := 3, ns := 8, gc := 1, body := [s13_0, s13_1, s13_2, s13_3] }
/- _law_held -/
def s25_0 : MS := (.ret (.b .tuple false [(.lc false [3, 4] (.var 4) (.tup [(.nm 3), (.nm 4)]) (.ex (.ix (.var 0) (.var 1))) [(.cmp .eq (.var 3) (.var 2))])]))
def d25 : Def :=
  { np := 3, ns := 5, gc := 1, body := [s25_0] }
/- _law_refused -/
def s26_0 : MS := (.asg (.nm 4) .non)
def s26_1_0 : MS := (.asg (.nm 5) (.ite (.cmp .eq (.var 0) (.int (0))) (.call 22 [(.var 1), (.var 2)] [0, 1] []) (.call 23 [(.var 1), (.var 2), (.var 3)] [0, 1, 2] [])))
def s26_1_1 : MS := (.asg (.nm 4) (.var 6))
def s26_1 : MS := (.try_ [5] [s26_1_0] [(false, 2), (false, 1), (false, 3)] 6 [s26_1_1])
def s26_2 : MS := (.asg (.nm 7) (.and (.isi (.var 4) [(.own 1)]) (.and (.isi (.var 4) [(.base 2)]) (.not (.isi (.var 4) [(.own 2), (.own 3)])))))
def s26_3 : MS := (.ret (.ite (.var 7) (.fld (.var 4) 1) .non))
def d26 : Def :=
  { np := 4, ns := 8, gc := 1, body := [s26_0, s26_1, s26_2, s26_3] }
/- _law_right -/
def s27_0 : MS := (.asg (.nm 1) (.call 13 [(.var 0), (.int (8)), (.int (24))] [0, 1, 2] []))
def s27_1 : MS := (.asg (.tup [(.nm 2), (.nm 3)]) (.tup [(.b .len false [(.var 1)]), (.call 11 [(.var 1)] [0] [])]))
def s27_2_0 : MS := (.asg (.nm 5) (.ix (.var 1) (.var 4)))
def s27_2_1 : MS := (.asg (.nm 6) (.ite (.cmp .ne (.var 5) (.tup [])) (.ix (.var 5) (.neg (.int (1)))) .non))
def s27_2_2_0 : MS := (.ret (.bl false))
def s27_2_2 : MS := (.ite (.not (.call 9 [(.lst false [(.call 22 [(.var 1), (.var 4)] [0, 1] []), (.call 22 [(.var 4), (.var 3)] [1, 0] [])]), (.lst false [(.var 6), (.var 6)])] [0, 1] [])) [s27_2_2_0] [])
def s27_2_3_0 : MS := (.asg (.nm 8) (.call 25 [(.var 1), (.var 4), (.var 7)] [0, 1, 2] []))
def s27_2_3_1_0 : MS := (.ret (.bl false))
def s27_2_3_1 : MS := (.ite (.not (.call 9 [(.lst false [(.call 23 [(.var 1), (.var 4), (.var 7)] [0, 1, 2] []), (.call 23 [(.var 7), (.var 4), (.var 3)] [2, 1, 0] [])]), (.lst false [(.var 8), (.var 8)])] [0, 1] [])) [s27_2_3_1_0] [])
def s27_2_3 : MS := (.for_ (.nm 7) (.rng [(.var 2)]) [s27_2_3_0, s27_2_3_1])
def s27_2 : MS := (.for_ (.nm 4) (.rng [(.var 2)]) [s27_2_0, s27_2_1, s27_2_2, s27_2_3])
def s27_3 : MS := (.asg (.nm 9) (.b .sum false [(.lc false [5] (.b .len false [(.var 5)]) (.nm 5) (.ex (.var 1)) [])]))
def s27_4_0 : MS := (.ret (.bl false))
def s27_4 : MS := (.ite (.not (.call 9 [(.lst false [(.call 24 [(.var 1)] [0] []), (.call 24 [(.var 3)] [0] [])]), (.lst false [(.var 9), (.var 9)])] [0, 1] [])) [s27_4_0] [])
def s27_5 : MS := (.asg (.nm 10) (.ix (.lst false [(.neg (.int (1))), (.var 2), (.bin false .add (.var 2) (.int (5))), (.neg (.int (9)))]) (.call 7 [(.var 0), (.int (4))] [0, 1] [])))
def s27_6 : MS := (.asg (.nm 11) (.lst false [(.call 26 [(.int (0)), (.var 1), (.var 10), (.int (0))] [0, 1, 2, 3] []), (.call 26 [(.int (1)), (.var 1), (.var 10), (.int (0))] [0, 1, 2, 3] []), (.call 26 [(.int (1)), (.var 1), (.int (0)), (.var 10)] [0, 1, 2, 3] [])]))
def s27_7 : MS := (.ret (.and (.call 9 [(.bin false .add (.var 11) (.lst false [(.call 26 [(.int (1)), (.var 1), (.var 10), (.bin false .add (.var 10) (.var 2))] [0, 1, 2, 3] [])])), (.bin false .mul (.lst false [(.var 10)]) (.int (4)))] [0, 1] []) (.cmp .eq (.var 3) (.call 11 [(.var 1)] [0] []))))
def d27 : Def :=
  { np := 1, ns := 12, gc := 1, body := [s27_0, s27_1, s27_2, s27_3, s27_4, s27_5, s27_6, s27_7] }
/- law -/
def s18_0 : MS := (.asg (.nm 1) (.call 8 [(.var 0), (.int (3))] [0, 1] []))
def s18_1_0 : MS := (.asg (.nm 3) (.call 6 [(.var 1), (.var 2)] [0, 1] []))
def s18_1_1_0 : MS := (.ret (.bl false))
def s18_1_1 : MS := (.ite (.not (.b .all false [(.lc false [4] (.call 27 [(.var 3)] [0] []) (.nm 4) (.rng [(.int (4))]) [])])) [s18_1_1_0] [])
def s18_1 : MS := (.for_ (.nm 2) (.rng [(.b .len false [(.var 1)])]) [s18_1_0, s18_1_1])
def s18_2 : MS := (.ret (.bl true))
def d18 : Def :=
  { np := 1, ns := 5, gc := 1, body := [s18_0, s18_1, s18_2] }
def prog : Prog where
  fn := fun k => match k with
    | 1 => some d1
    | 19 => some d19
    | 20 => some d20
    | 21 => some d21
    | 22 => some d22
    | 23 => some d23
    | 24 => some d24
    | 6 => some d6
    | 7 => some d7
    | 8 => some d8
    | 9 => some d9
    | 11 => some d11
    | 12 => some d12
    | 13 => some d13
    | 25 => some d25
    | 26 => some d26
    | 27 => some d27
    | 18 => some d18
    | _ => none
  meth := fun _ _ => none
  ini := fun _ => none
  base := fun c => match c with
    | 1 => 2
    | 3 => 2
    | 2 => 3
    | _ => 0
  flds := fun c => match c with
    | 1 => [1]
    | 3 => [2]
    | 2 => [1]
    | _ => []
  glb := fun _ => .non
end Pk02

namespace Pk06
open G
/- is_number -/
def s1_0 : MS := (.ret (.and (.isi (.var 0) [.int]) (.not (.isi (.var 0) [.bool]))))
def d1 : Def :=
  { np := 1, ns := 1, gc := 1, body := [s1_0] }
/- is_there -/
def s20_0 : MS := (.ret (.and (.call 1 [(.var 1)] [0] []) (.ch2 .le .lt (.int (0)) (.var 1) (.b .len false [(.var 0)]))))
def d20 : Def :=
  { np := 2, ns := 2, gc := 1, body := [s20_0] }
/- look_dove -/
def s21_0_0 : MS := (.raise 1 [(.var 1)])
def s21_0 : MS := (.ite (.not (.call 20 [(.var 0), (.var 1)] [0, 1] [])) [s21_0_0] [])
def d21 : Def :=
  { np := 2, ns := 2, gc := 1, body := [s21_0] }
/- held -/
def s23_0 : MS := (.expr (.call 21 [(.var 0), (.var 1)] [0, 1] []))
def s23_1 : MS := (.expr (.call 21 [(.var 0), (.var 2)] [0, 1] []))
def s23_2 : MS := (.ret (.b .tuple false [(.lc false [3, 4] (.var 4) (.tup [(.nm 3), (.nm 4)]) (.ex (.ix (.var 0) (.var 1))) [(.cmp .eq (.var 3) (.var 2))])]))
def d23 : Def :=
  { np := 3, ns := 5, gc := 1, body := [s23_0, s23_1, s23_2] }
/- line -/
def s50_0 : MS := (.ret (.bin false .add (.call 23 [(.var 0), (.var 1), (.var 2)] [0, 1, 2] []) (.rv false (.call 23 [(.var 0), (.var 2), (.var 1)] [0, 1, 2] []))))
def d50 : Def :=
  { np := 3, ns := 3, gc := 1, body := [s50_0] }
/- cut -/
def s51_0 : MS := (.ret (.b .len false [(.call 23 [(.var 0), (.var 1), (.var 2)] [0, 1, 2] [])]))
def d51 : Def :=
  { np := 3, ns := 3, gc := 1, body := [s51_0] }
/- pairs_of -/
def s52_0 : MS := (.asg (.nm 1) (.b .len false [(.var 0)]))
def s52_1 : MS := (.ret (.lc2 false [2, 3] (.tup [(.var 2), (.var 3)]) (.nm 2) (.rng [(.var 1)]) [] [3] (.nm 3) (.rng [(.bin false .add (.var 2) (.int (1))), (.var 1)]) []))
def d52 : Def :=
  { np := 1, ns := 4, gc := 1, body := [s52_0, s52_1] }
/- lines_of -/
def s53_0 : MS := (.asg (.nm 1) (.lc false [2, 3] (.tup [(.var 2), (.var 3), (.call 50 [(.var 0), (.var 2), (.var 3)] [0, 1, 2] [])]) (.tup [(.nm 2), (.nm 3)]) (.ex (.call 52 [(.var 0)] [0] [])) []))
def s53_1 : MS := (.ret (.lc true [4] (.var 4) (.nm 4) (.ex (.var 1)) [(.cmp .gt (.b .len false [(.ix (.var 4) (.int (2)))]) (.int (0)))]))
def d53 : Def :=
  { np := 1, ns := 5, gc := 2, body := [s53_0, s53_1] }
/- _law_box -/
def s6_0 : MS := (.asg (.nm 2) (.ix (.var 0) (.var 1)))
def s6_1 : MS := (.ret (.lst true [(.bin false .mul (.b .abs false [(.var 2)]) (.b .int false [(.cmp .ge (.b .abs false [(.var 2)]) (.bin false .pow (.int (10)) (.int (18))))])), (.bin false .add (.bin false .add (.bin false .mod (.var 2) (.int (2305843009213693951))) (.bin false .mul (.int (15485863)) (.var 1))) (.int (11))), (.int (0))]))
def d6 : Def :=
  { np := 2, ns := 3, gc := 2, body := [s6_0, s6_1] }
/- _law_take -/
def s7_0_0 : MS := (.asg (.nm 2) (.bin false .mod (.ix (.var 0) (.int (0))) (.var 1)))
def s7_0_1 : MS := (.asg (.sub (.var 0) (.int (0))) (.bin false .fdiv (.ix (.var 0) (.int (0))) (.var 1)))
def s7_0_2 : MS := (.ret (.var 2))
def s7_0 : MS := (.ite (.cmp .gt (.ix (.var 0) (.int (0))) (.int (0))) [s7_0_0, s7_0_1, s7_0_2] [])
def s7_1 : MS := (.asg (.sub (.var 0) (.int (2))) (.bin false .add (.ix (.var 0) (.int (2))) (.int (1))))
def s7_2 : MS := (.asg (.nm 3) (.bin false .mod (.bin false .add (.ix (.var 0) (.int (1))) (.bin false .mul (.int (1442695040888963407)) (.ix (.var 0) (.int (2))))) (.int (2305843009213693951))))
def s7_3 : MS := (.asg (.nm 3) (.bin false .mod (.bin false .add (.bin false .add (.bin false .mul (.var 3) (.var 3)) (.bin false .mul (.int (39373)) (.ix (.var 0) (.int (2))))) (.int (7))) (.int (2305843009213693921))))
def s7_4 : MS := (.asg (.nm 3) (.bin false .mod (.bin false .add (.bin false .mul (.var 3) (.bin false .add (.bin false .fdiv (.var 3) (.int (65536))) (.int (3)))) (.ix (.var 0) (.int (2)))) (.int (2305843009213693907))))
def s7_5 : MS := (.ret (.bin false .mod (.bin false .fdiv (.var 3) (.int (1048576))) (.var 1)))
def d7 : Def :=
  { np := 2, ns := 4, gc := 1, body := [s7_0, s7_1, s7_2, s7_3, s7_4, s7_5] }
/- _law_cells -/
def s8_0 : MS := (.asg (.nm 2) (.or (.b .list true [(.sl false (.var 0) none (some (.var 1)))]) (.lst true [(.int (0))])))
def s8_1_0 : MS := (.asg (.sub (.var 2) (.bin false .mod (.var 3) (.var 1))) (.bin false .add (.ix (.var 2) (.bin false .mod (.var 3) (.var 1))) (.bin false .mul (.var 4) (.bin false .add (.var 3) (.int (2))))))
def s8_1 : MS := (.for_ (.tup [(.nm 3), (.nm 4)]) (.enu (.sl false (.var 0) (some (.var 1)) (some (.int (63))))) [s8_1_0])
def s8_2 : MS := (.ret (.var 2))
def d8 : Def :=
  { np := 2, ns := 5, gc := 1, body := [s8_0, s8_1, s8_2] }
/- _law_same -/
def s9_0_0_0 : MS := (.ret (.bl false))
def s9_0_0 : MS := (.ite (.or (.cmp .ne (.isi (.var 0) [.list]) (.isi (.var 1) [.list])) (.cmp .ne (.isi (.var 0) [.tuple]) (.isi (.var 1) [.tuple]))) [s9_0_0_0] [])
def s9_0_1_0 : MS := (.ret (.bl false))
def s9_0_1 : MS := (.ite (.cmp .ne (.b .len false [(.var 0)]) (.b .len false [(.var 1)])) [s9_0_1_0] [])
def s9_0_2 : MS := (.ret (.b .all false [(.lc false [2, 3] (.call 9 [(.var 2), (.var 3)] [0, 1] []) (.tup [(.nm 2), (.nm 3)]) (.zip2 (.var 0) (.var 1)) [])]))
def s9_0 : MS := (.ite (.isi (.var 1) [.list, .tuple]) [s9_0_0, s9_0_1, s9_0_2] [])
def s9_1_0 : MS := (.ret (.cmp .is_ (.var 0) .non))
def s9_1 : MS := (.ite (.cmp .is_ (.var 1) .non) [s9_1_0] [])
def s9_2_0 : MS := (.ret (.and (.isi (.var 0) [.str]) (.cmp .eq (.var 0) (.var 1))))
def s9_2 : MS := (.ite (.isi (.var 1) [.str]) [s9_2_0] [])
def s9_3_0 : MS := (.ret (.and (.isi (.var 0) [.bool]) (.cmp .eq (.var 0) (.var 1))))
def s9_3 : MS := (.ite (.isi (.var 1) [.bool]) [s9_3_0] [])
def s9_4 : MS := (.ret (.and (.isi (.var 0) [.int]) (.and (.not (.isi (.var 0) [.bool])) (.cmp .eq (.var 0) (.var 1)))))
def d9 : Def :=
  { np := 2, ns := 4, gc := 1, body := [s9_0, s9_1, s9_2, s9_3, s9_4] }
/- _law_listed -/
def s11_0 : MS := (.ret (.ite (.isi (.var 0) [.list, .tuple]) (.lc false [1] (.call 11 [(.var 1)] [0] []) (.nm 1) (.ex (.var 0)) []) (.var 0)))
def d11 : Def :=
  { np := 1, ns := 2, gc := 1, body := [s11_0] }
/- _law_word -/
def s12_0 : MS := (.ret (.ix (.lst false [(.str [97]), (.str [98]), (.str [97]), (.str [98]), (.str [97, 98]), (.str [98, 97]), (.str [99]), (.str [122, 122, 122, 122, 122, 122])]) (.call 7 [(.var 0), (.int (8))] [0, 1] [])))
def d12 : Def :=
  { np := 1, ns := 1, gc := 1, body := [s12_0] }
/- _law_room -/
def s13_0 : MS := (.asg (.nm 3) (.bin false .add (.int (1)) (.call 7 [(.var 0), (.var 1)] [0, 1] [])))
def s13_1 : MS := (.asg (.nm 4) (.lc true [5] (.tup []) (.nm 5) (.rng [(.var 3)]) []))
def s13_2_0 : MS := (.asg (.nm 5) (.call 7 [(.var 0), (.var 3)] [0, 1] []))
def s13_2_1 : MS := (.asg (.nm 7) (.bin false .mod (.bin false .add (.bin false .add (.var 5) (.int (1))) (.call 7 [(.var 0), (.bin false .sub (.var 3) (.int (1)))] [0, 1] [])) (.var 3)))
def s13_2_2 : MS := (.asg (.sub (.var 4) (.var 5)) (.bin false .add (.ix (.var 4) (.var 5)) (.tup [(.tup [(.var 7), (.call 12 [(.var 0)] [0] [])])])))
def s13_2 : MS := (.for_ (.nm 6) (.rng [(.ite (.cmp .gt (.var 3) (.int (1))) (.call 7 [(.var 0), (.bin false .add (.var 2) (.int (1)))] [0, 1] []) (.int (0)))]) [s13_2_0, s13_2_1, s13_2_2])
def s13_3 : MS := (.ret (.b .tuple false [(.var 4)]))
def d13 : Def :=
  { np := 3, ns := 8, gc := 1, body := [s13_0, s13_1, s13_2, s13_3] }
/- _law_held -/
def s25_0 : MS := (.ret (.b .tuple false [(.lc false [3, 4] (.var 4) (.tup [(.nm 3), (.nm 4)]) (.ex (.ix (.var 0) (.var 1))) [(.cmp .eq (.var 3) (.var 2))])]))
def d25 : Def :=
  { np := 3, ns := 5, gc := 1, body := [s25_0] }
/- _law_line -/
def s54_0 : MS := (.ret (.bin false .add (.call 25 [(.var 0), (.var 1), (.var 2)] [0, 1, 2] []) (.rv false (.call 25 [(.var 0), (.var 2), (.var 1)] [0, 1, 2] []))))
def d54 : Def :=
  { np := 3, ns := 3, gc := 1, body := [s54_0] }
/- _law_refused -/
def s55_0 : MS := (.asg (.nm 4) .non)
def s55_1_0 : MS := (.asg (.nm 5) (.ite (.cmp .eq (.var 0) (.int (0))) (.call 50 [(.var 1), (.var 2), (.var 3)] [0, 1, 2] []) (.call 51 [(.var 1), (.var 2), (.var 3)] [0, 1, 2] [])))
def s55_1_1 : MS := (.asg (.nm 4) (.var 6))
def s55_1 : MS := (.try_ [5] [s55_1_0] [(false, 2), (false, 1), (false, 7)] 6 [s55_1_1])
def s55_2 : MS := (.ret (.ite (.and (.isi (.var 4) [(.own 1)]) (.not (.isi (.var 4) [(.own 2), (.own 7)]))) (.fld (.var 4) 1) .non))
def d55 : Def :=
  { np := 4, ns := 7, gc := 1, body := [s55_0, s55_1, s55_2] }
/- _law_right -/
def s56_0 : MS := (.asg (.nm 1) (.call 13 [(.var 0), (.int (8)), (.int (24))] [0, 1, 2] []))
def s56_1 : MS := (.asg (.tup [(.nm 2), (.nm 3)]) (.tup [(.call 11 [(.var 1)] [0] []), (.lst false [])]))
def s56_2_0_0 : MS := (.asg (.nm 7) (.call 54 [(.var 1), (.var 4), (.var 5)] [0, 1, 2] []))
def s56_2_0_1 : MS := (.asg (.nm 8) (.lst false [(.call 50 [(.var 1), (.var 4), (.var 5)] [0, 1, 2] []), (.call 50 [(.var 5), (.var 4), (.var 2)] [2, 1, 0] []), (.rv false (.call 50 [(.var 1), (.var 5), (.var 4)] [0, 1, 2] []))]))
def s56_2_0_2_0 : MS := (.ret (.bl false))
def s56_2_0_2 : MS := (.ite (.not (.call 9 [(.var 8), (.bin false .mul (.lst false [(.var 7)]) (.int (3)))] [0, 1] [])) [s56_2_0_2_0] [])
def s56_2_0_3 : MS := (.asg (.nm 9) (.b .len false [(.call 25 [(.var 1), (.var 4), (.var 5)] [0, 1, 2] [])]))
def s56_2_0_4_0 : MS := (.ret (.bl false))
def s56_2_0_4 : MS := (.ite (.not (.call 9 [(.lst false [(.call 51 [(.var 1), (.var 4), (.var 5)] [0, 1, 2] []), (.call 51 [(.var 5), (.var 4), (.var 2)] [2, 1, 0] [])]), (.lst false [(.var 9), (.var 9)])] [0, 1] [])) [s56_2_0_4_0] [])
def s56_2_0_5 : MS := (.asg (.nm 3) (.bin false .add (.var 3) (.bin false .mul (.lst false [(.tup [(.var 4), (.var 5), (.var 7)])]) (.b .int false [(.and (.cmp .lt (.var 4) (.var 5)) (.cmp .ne (.var 7) (.tup [])))]))))
def s56_2_0 : MS := (.for_ (.nm 5) (.ex (.lc false [6] (.var 6) (.nm 6) (.rng [(.b .len false [(.var 1)])]) [(.cmp .ne (.var 6) (.var 4))])) [s56_2_0_0, s56_2_0_1, s56_2_0_2, s56_2_0_3, s56_2_0_4, s56_2_0_5])
def s56_2 : MS := (.for_ (.nm 4) (.rng [(.b .len false [(.var 1)])]) [s56_2_0])
def s56_3 : MS := (.asg (.nm 10) (.call 53 [(.var 1)] [0] []))
def s56_4_0 : MS := (.ret (.bl false))
def s56_4 : MS := (.ite (.not (.call 9 [(.lst false [(.var 10), (.call 53 [(.var 2)] [0] [])]), (.lst false [(.var 3), (.var 3)])] [0, 1] [])) [s56_4_0] [])
def s56_5 : MS := (.expr (.bm .append false (.var 10) [(.str [109, 111, 114, 101])]))
def s56_6 : MS := (.expr (.bm .reverse false (.var 10) []))
def s56_7 : MS := (.asg (.nm 11) (.ix (.lst false [(.neg (.int (1))), (.b .len false [(.var 1)]), (.int (77))]) (.call 7 [(.var 0), (.int (3))] [0, 1] [])))
def s56_8 : MS := (.asg (.nm 8) (.bin false .add (.lc false [12] (.call 55 [(.var 12), (.var 1), (.var 11), (.int (0))] [0, 1, 2, 3] []) (.nm 12) (.ex (.tup [(.int (0)), (.int (1))])) []) (.lc false [12] (.call 55 [(.var 12), (.var 1), (.int (0)), (.var 11)] [0, 1, 2, 3] []) (.nm 12) (.ex (.tup [(.int (0)), (.int (1))])) [])))
def s56_9 : MS := (.ret (.and (.call 9 [(.var 8), (.bin false .mul (.lst false [(.var 11)]) (.int (4)))] [0, 1] []) (.call 9 [(.call 53 [(.var 1)] [0] []), (.var 3)] [0, 1] [])))
def d56 : Def :=
  { np := 1, ns := 13, gc := 1, body := [s56_0, s56_1, s56_2, s56_3, s56_4, s56_5, s56_6, s56_7, s56_8, s56_9] }
/- law -/
def s43_0 : MS := (.asg (.nm 1) (.call 8 [(.var 0), (.int (3))] [0, 1] []))
def s43_1_0 : MS := (.asg (.nm 3) (.call 6 [(.var 1), (.var 2)] [0, 1] []))
def s43_1_1_0 : MS := (.ret (.bl false))
def s43_1_1 : MS := (.ite (.not (.b .all false [(.lc false [4] (.call 56 [(.var 3)] [0] []) (.nm 4) (.rng [(.int (3))]) [])])) [s43_1_1_0] [])
def s43_1 : MS := (.for_ (.nm 2) (.rng [(.b .len false [(.var 1)])]) [s43_1_0, s43_1_1])
def s43_2 : MS := (.ret (.bl true))
def d43 : Def :=
  { np := 1, ns := 5, gc := 1, body := [s43_0, s43_1, s43_2] }
def prog : Prog where
  fn := fun k => match k with
    | 1 => some d1
    | 20 => some d20
    | 21 => some d21
    | 23 => some d23
    | 50 => some d50
    | 51 => some d51
    | 52 => some d52
    | 53 => some d53
    | 6 => some d6
    | 7 => some d7
    | 8 => some d8
    | 9 => some d9
    | 11 => some d11
    | 12 => some d12
    | 13 => some d13
    | 25 => some d25
    | 54 => some d54
    | 55 => some d55
    | 56 => some d56
    | 43 => some d43
    | _ => none
  meth := fun _ _ => none
  ini := fun _ => none
  base := fun c => match c with
    | 7 => 1
    | 1 => 2
    | 2 => 3
    | _ => 0
  flds := fun c => match c with
    | 7 => []
    | 1 => [1]
    | 2 => [1]
    | _ => []
  glb := fun _ => .non
end Pk06

namespace Pk07
open G
/- is_number -/
def s1_0 : MS := (.ret (.and (.isi (.var 0) [.int]) (.not (.isi (.var 0) [.bool]))))
def d1 : Def :=
  { np := 1, ns := 1, gc := 1, body := [s1_0] }
/- is_there -/
def s20_0 : MS := (.ret (.and (.call 1 [(.var 1)] [0] []) (.ch2 .le .lt (.int (0)) (.var 1) (.b .len false [(.var 0)]))))
def d20 : Def :=
  { np := 2, ns := 2, gc := 1, body := [s20_0] }
/- look_dove -/
def s21_0_0 : MS := (.raise 1 [(.var 1)])
def s21_0 : MS := (.ite (.not (.call 20 [(.var 0), (.var 1)] [0, 1] [])) [s21_0_0] [])
def d21 : Def :=
  { np := 2, ns := 2, gc := 1, body := [s21_0] }
/- held -/
def s23_0 : MS := (.expr (.call 21 [(.var 0), (.var 1)] [0, 1] []))
def s23_1 : MS := (.expr (.call 21 [(.var 0), (.var 2)] [0, 1] []))
def s23_2 : MS := (.ret (.b .tuple false [(.lc false [3, 4] (.var 4) (.tup [(.nm 3), (.nm 4)]) (.ex (.ix (.var 0) (.var 1))) [(.cmp .eq (.var 3) (.var 2))])]))
def d23 : Def :=
  { np := 3, ns := 5, gc := 1, body := [s23_0, s23_1, s23_2] }
/- line -/
def s50_0 : MS := (.ret (.bin false .add (.call 23 [(.var 0), (.var 1), (.var 2)] [0, 1, 2] []) (.rv false (.call 23 [(.var 0), (.var 2), (.var 1)] [0, 1, 2] []))))
def d50 : Def :=
  { np := 3, ns := 3, gc := 1, body := [s50_0] }
/- pairs_of -/
def s52_0 : MS := (.asg (.nm 1) (.b .len false [(.var 0)]))
def s52_1 : MS := (.ret (.lc2 false [2, 3] (.tup [(.var 2), (.var 3)]) (.nm 2) (.rng [(.var 1)]) [] [3] (.nm 3) (.rng [(.bin false .add (.var 2) (.int (1))), (.var 1)]) []))
def d52 : Def :=
  { np := 1, ns := 4, gc := 1, body := [s52_0, s52_1] }
/- first_apart -/
def s57_0_0_0 : MS := (.ret (.var 2))
def s57_0_0 : MS := (.ite (.cmp .ne (.var 3) (.var 4)) [s57_0_0_0] [])
def s57_0 : MS := (.for_ (.tup [(.nm 2), (.tup [(.nm 3), (.nm 4)])]) (.enz (.var 0) (.var 1)) [s57_0_0])
def s57_1 : MS := (.ret (.ite (.cmp .eq (.b .len false [(.var 0)]) (.b .len false [(.var 1)])) .non (.b .min2 false [(.b .len false [(.var 0)]), (.b .len false [(.var 1)])])))
def d57 : Def :=
  { np := 2, ns := 5, gc := 1, body := [s57_0, s57_1] }
/- look_same -/
def s58_0_0 : MS := (.raise 7 [])
def s58_0 : MS := (.ite (.cmp .ne (.b .len false [(.var 0)]) (.b .len false [(.var 1)])) [s58_0_0] [])
def d58 : Def :=
  { np := 2, ns := 2, gc := 1, body := [s58_0] }
/- first_unlike -/
def s59_0 : MS := (.expr (.call 58 [(.var 0), (.var 1)] [0, 1] []))
def s59_1_0 : MS := (.asg (.nm 4) (.call 57 [(.call 50 [(.var 0), (.var 2), (.var 3)] [0, 1, 2] []), (.call 50 [(.var 1), (.var 2), (.var 3)] [0, 1, 2] [])] [0, 1] []))
def s59_1_1_0 : MS := (.ret (.tup [(.var 2), (.var 3), (.var 4)]))
def s59_1_1 : MS := (.ite (.cmp .isn (.var 4) .non) [s59_1_1_0] [])
def s59_1 : MS := (.for_ (.tup [(.nm 2), (.nm 3)]) (.ex (.call 52 [(.var 0)] [0] [])) [s59_1_0, s59_1_1])
def s59_2 : MS := (.ret .non)
def d59 : Def :=
  { np := 2, ns := 5, gc := 1, body := [s59_0, s59_1, s59_2] }
/- _law_box -/
def s6_0 : MS := (.asg (.nm 2) (.ix (.var 0) (.var 1)))
def s6_1 : MS := (.ret (.lst true [(.bin false .mul (.b .abs false [(.var 2)]) (.b .int false [(.cmp .ge (.b .abs false [(.var 2)]) (.bin false .pow (.int (10)) (.int (18))))])), (.bin false .add (.bin false .add (.bin false .mod (.var 2) (.int (2305843009213693951))) (.bin false .mul (.int (15485863)) (.var 1))) (.int (11))), (.int (0))]))
def d6 : Def :=
  { np := 2, ns := 3, gc := 2, body := [s6_0, s6_1] }
/- _law_take -/
def s7_0_0 : MS := (.asg (.nm 2) (.bin false .mod (.ix (.var 0) (.int (0))) (.var 1)))
def s7_0_1 : MS := (.asg (.sub (.var 0) (.int (0))) (.bin false .fdiv (.ix (.var 0) (.int (0))) (.var 1)))
def s7_0_2 : MS := (.ret (.var 2))
def s7_0 : MS := (.ite (.cmp .gt (.ix (.var 0) (.int (0))) (.int (0))) [s7_0_0, s7_0_1, s7_0_2] [])
def s7_1 : MS := (.asg (.sub (.var 0) (.int (2))) (.bin false .add (.ix (.var 0) (.int (2))) (.int (1))))
def s7_2 : MS := (.asg (.nm 3) (.bin false .mod (.bin false .add (.ix (.var 0) (.int (1))) (.bin false .mul (.int (1442695040888963407)) (.ix (.var 0) (.int (2))))) (.int (2305843009213693951))))
def s7_3 : MS := (.asg (.nm 3) (.bin false .mod (.bin false .add (.bin false .add (.bin false .mul (.var 3) (.var 3)) (.bin false .mul (.int (39373)) (.ix (.var 0) (.int (2))))) (.int (7))) (.int (2305843009213693921))))
def s7_4 : MS := (.asg (.nm 3) (.bin false .mod (.bin false .add (.bin false .mul (.var 3) (.bin false .add (.bin false .fdiv (.var 3) (.int (65536))) (.int (3)))) (.ix (.var 0) (.int (2)))) (.int (2305843009213693907))))
def s7_5 : MS := (.ret (.bin false .mod (.bin false .fdiv (.var 3) (.int (1048576))) (.var 1)))
def d7 : Def :=
  { np := 2, ns := 4, gc := 1, body := [s7_0, s7_1, s7_2, s7_3, s7_4, s7_5] }
/- _law_cells -/
def s8_0 : MS := (.asg (.nm 2) (.or (.b .list true [(.sl false (.var 0) none (some (.var 1)))]) (.lst true [(.int (0))])))
def s8_1_0 : MS := (.asg (.sub (.var 2) (.bin false .mod (.var 3) (.var 1))) (.bin false .add (.ix (.var 2) (.bin false .mod (.var 3) (.var 1))) (.bin false .mul (.var 4) (.bin false .add (.var 3) (.int (2))))))
def s8_1 : MS := (.for_ (.tup [(.nm 3), (.nm 4)]) (.enu (.sl false (.var 0) (some (.var 1)) (some (.int (63))))) [s8_1_0])
def s8_2 : MS := (.ret (.var 2))
def d8 : Def :=
  { np := 2, ns := 5, gc := 1, body := [s8_0, s8_1, s8_2] }
/- _law_same -/
def s60_0_0_0 : MS := (.ret (.bl false))
def s60_0_0 : MS := (.ite (.or (.cmp .ne (.isi (.var 0) [.list]) (.isi (.var 1) [.list])) (.cmp .ne (.isi (.var 0) [.tuple]) (.isi (.var 1) [.tuple]))) [s60_0_0_0] [])
def s60_0_1_0 : MS := (.ret (.bl false))
def s60_0_1 : MS := (.ite (.cmp .ne (.b .len false [(.var 0)]) (.b .len false [(.var 1)])) [s60_0_1_0] [])
def s60_0_2 : MS := (.ret (.b .all false [(.lc false [2, 3] (.call 60 [(.var 2), (.var 3)] [0, 1] []) (.tup [(.nm 2), (.nm 3)]) (.zip2 (.var 0) (.var 1)) [])]))
def s60_0 : MS := (.ite (.isi (.var 1) [.list, .tuple]) [s60_0_0, s60_0_1, s60_0_2] [])
def s60_1_0 : MS := (.ret (.cmp .is_ (.var 0) .non))
def s60_1 : MS := (.ite (.cmp .is_ (.var 1) .non) [s60_1_0] [])
def s60_2_0 : MS := (.ret (.and (.isi (.var 0) [.str]) (.cmp .eq (.var 0) (.var 1))))
def s60_2 : MS := (.ite (.isi (.var 1) [.str]) [s60_2_0] [])
def s60_3_0 : MS := (.ret (.and (.isi (.var 0) [.bool]) (.cmp .eq (.var 0) (.var 1))))
def s60_3 : MS := (.ite (.isi (.var 1) [.bool]) [s60_3_0] [])
def s60_4 : MS := (.ret (.and (.isi (.var 0) [.int]) (.and (.not (.isi (.var 0) [.bool])) (.cmp .eq (.var 0) (.var 1)))))
def d60 : Def :=
  { np := 2, ns := 4, gc := 1, body := [s60_0, s60_1, s60_2, s60_3, s60_4] }
/- _law_of -/
def s10_0 : MS := (.ret (.ix (.var 1) (.call 7 [(.var 0), (.b .len false [(.var 1)])] [0, 1] [])))
def d10 : Def :=
  { np := 2, ns := 2, gc := 1, body := [s10_0] }
/- _law_listed -/
def s11_0 : MS := (.ret (.ite (.isi (.var 0) [.list, .tuple]) (.lc false [1] (.call 11 [(.var 1)] [0] []) (.nm 1) (.ex (.var 0)) []) (.var 0)))
def d11 : Def :=
  { np := 1, ns := 2, gc := 1, body := [s11_0] }
/- _law_word -/
def s12_0 : MS := (.ret (.ix (.lst false [(.str [97]), (.str [98]), (.str [97]), (.str [98]), (.str [97, 98]), (.str [98, 97]), (.str [99]), (.str [122, 122, 122, 122, 122, 122])]) (.call 7 [(.var 0), (.int (8))] [0, 1] [])))
def d12 : Def :=
  { np := 1, ns := 1, gc := 1, body := [s12_0] }
/- _law_room -/
def s13_0 : MS := (.asg (.nm 3) (.bin false .add (.int (1)) (.call 7 [(.var 0), (.var 1)] [0, 1] [])))
def s13_1 : MS := (.asg (.nm 4) (.lc true [5] (.tup []) (.nm 5) (.rng [(.var 3)]) []))
def s13_2_0 : MS := (.asg (.nm 5) (.call 7 [(.var 0), (.var 3)] [0, 1] []))
def s13_2_1 : MS := (.asg (.nm 7) (.bin false .mod (.bin false .add (.bin false .add (.var 5) (.int (1))) (.call 7 [(.var 0), (.bin false .sub (.var 3) (.int (1)))] [0, 1] [])) (.var 3)))
def s13_2_2 : MS := (.asg (.sub (.var 4) (.var 5)) (.bin false .add (.ix (.var 4) (.var 5)) (.tup [(.tup [(.var 7), (.call 12 [(.var 0)] [0] [])])])))
def s13_2 : MS := (.for_ (.nm 6) (.rng [(.ite (.cmp .gt (.var 3) (.int (1))) (.call 7 [(.var 0), (.bin false .add (.var 2) (.int (1)))] [0, 1] []) (.int (0)))]) [s13_2_0, s13_2_1, s13_2_2])
def s13_3 : MS := (.ret (.b .tuple false [(.var 4)]))
def d13 : Def :=
  { np := 3, ns := 8, gc := 1, body := [s13_0, s13_1, s13_2, s13_3] }
/- _law_dozing -/
def s37_0 : MS := (.asg (.nm 2) (.call 7 [(.var 0), (.int (4))] [0, 1] []))
def s37_1 : MS := (.ret (.lc false [3] (.var 3) (.nm 3) (.rng [(.var 1)]) [(.and (.cmp .gt (.var 2) (.int (0))) (.cmp .eq (.call 7 [(.var 0), (.ix (.lst false [(.int (1)), (.int (4)), (.int (2)), (.int (3))]) (.var 2))] [0, 1] []) (.int (0))))]))
def d37 : Def :=
  { np := 2, ns := 4, gc := 1, body := [s37_0, s37_1] }
/- _law_peck -/
def s38_0 : MS := (.asg (.tup [(.nm 2), (.nm 3)]) (.ix (.ix (.var 0) (.var 1)) (.neg (.int (1)))))
def s38_1 : MS := (.asg (.nm 4) (.b .list true [(.var 0)]))
def s38_2 : MS := (.asg (.sub (.var 4) (.var 1)) (.sl false (.ix (.var 0) (.var 1)) none (some (.neg (.int (1))))))
def s38_3 : MS := (.asg (.sub (.var 4) (.var 2)) (.bin false .add (.ix (.var 0) (.var 2)) (.tup [(.tup [(.var 1), (.var 3)])])))
def s38_4 : MS := (.ret (.b .tuple false [(.var 4)]))
def d38 : Def :=
  { np := 2, ns := 5, gc := 1, body := [s38_0, s38_1, s38_2, s38_3, s38_4] }
/- _law_can -/
def s39_0 : MS := (.ret (.lc false [2, 3] (.var 2) (.tup [(.nm 2), (.nm 3)]) (.enu (.var 0)) [(.and (.cmp .ne (.var 3) (.tup [])) (.cmp .nin (.var 2) (.var 1)))]))
def d39 : Def :=
  { np := 2, ns := 4, gc := 1, body := [s39_0] }
/- _law_led -/
def s45_0 : MS := (.asg (.nm 4) (.lst true []))
def s45_1_0 : MS := (.asg (.nm 6) (.call 39 [(.var 1), (.var 2)] [0, 1] []))
def s45_1_1_0 : MS := (.expr (.bm .append false (.var 4) [(.call 10 [(.var 0), (.var 6)] [0, 1] [])]))
def s45_1_1_1 : MS := (.asg (.nm 1) (.call 38 [(.var 1), (.ix (.var 4) (.neg (.int (1))))] [0, 1] []))
def s45_1_1 : MS := (.ite (.cmp .ne (.var 6) (.lst false [])) [s45_1_1_0, s45_1_1_1] [])
def s45_1 : MS := (.for_ (.nm 5) (.rng [(.var 3)]) [s45_1_0, s45_1_1])
def s45_2 : MS := (.ret (.tup [(.var 4), (.var 1)]))
def d45 : Def :=
  { np := 4, ns := 7, gc := 1, body := [s45_0, s45_1, s45_2] }
/- _law_held -/
def s25_0 : MS := (.ret (.b .tuple false [(.lc false [3, 4] (.var 4) (.tup [(.nm 3), (.nm 4)]) (.ex (.ix (.var 0) (.var 1))) [(.cmp .eq (.var 3) (.var 2))])]))
def d25 : Def :=
  { np := 3, ns := 5, gc := 1, body := [s25_0] }
/- _law_line -/
def s54_0 : MS := (.ret (.bin false .add (.call 25 [(.var 0), (.var 1), (.var 2)] [0, 1, 2] []) (.rv false (.call 25 [(.var 0), (.var 2), (.var 1)] [0, 1, 2] []))))
def d54 : Def :=
  { np := 3, ns := 3, gc := 1, body := [s54_0] }
/- _law_pairs -/
def s61_0 : MS := (.asg (.nm 1) (.lst false []))
def s61_1_0 : MS := (.asg (.nm 1) (.bin false .add (.var 1) (.lc false [3] (.tup [(.var 2), (.var 3)]) (.nm 3) (.rng [(.bin false .add (.var 2) (.int (1))), (.b .len false [(.var 0)])]) [])))
def s61_1 : MS := (.for_ (.nm 2) (.rng [(.b .len false [(.var 0)])]) [s61_1_0])
def s61_2 : MS := (.ret (.var 1))
def d61 : Def :=
  { np := 1, ns := 4, gc := 1, body := [s61_0, s61_1, s61_2] }
/- _law_spoilt -/
def s62_0 : MS := (.asg (.nm 2) (.lc false [3, 4] (.var 3) (.tup [(.nm 3), (.nm 4)]) (.enu (.var 1)) [(.cmp .ne (.var 4) (.tup []))]))
def s62_1_0 : MS := (.ret (.var 1))
def s62_1 : MS := (.ite (.cmp .eq (.var 2) (.lst false [])) [s62_1_0] [])
def s62_2 : MS := (.asg (.tup [(.nm 3), (.nm 5)]) (.tup [(.call 10 [(.var 0), (.var 2)] [0, 1] []), (.call 7 [(.var 0), (.int (4))] [0, 1] [])]))
def s62_3 : MS := (.asg (.tup [(.nm 4), (.nm 6)]) (.tup [(.ix (.var 1) (.var 3)), (.b .list true [(.var 1)])]))
def s62_4 : MS := (.asg (.nm 7) (.call 7 [(.var 0), (.b .len false [(.var 4)])] [0, 1] []))
def s62_5_0 : MS := (.asg (.sub (.var 6) (.var 3)) (.bin false .add (.bin false .add (.sl false (.var 4) none (some (.var 7))) (.rv false (.sl false (.var 4) (some (.var 7)) (some (.bin false .add (.var 7) (.int (2))))))) (.sl false (.var 4) (some (.bin false .add (.var 7) (.int (2)))) none)))
def s62_5_1_0 : MS := (.asg (.sub (.var 6) (.var 3)) (.bin false .add (.bin false .add (.sl false (.var 4) none (some (.var 7))) (.tup [(.tup [(.ix (.ix (.var 4) (.var 7)) (.int (0))), (.call 12 [(.var 0)] [0] [])])])) (.sl false (.var 4) (some (.bin false .add (.var 7) (.int (1)))) none)))
def s62_5_1_1_0 : MS := (.asg (.nm 8) (.bin false .add (.sl false (.var 4) none (some (.var 7))) (.sl false (.var 4) (some (.bin false .add (.var 7) (.int (1)))) none)))
def s62_5_1_1_1 : MS := (.asg (.nm 9) (.call 7 [(.var 0), (.b .len false [(.var 4)])] [0, 1] []))
def s62_5_1_1_2 : MS := (.asg (.sub (.var 6) (.var 3)) (.bin false .add (.bin false .add (.sl false (.var 8) none (some (.var 9))) (.sl false (.var 4) (some (.var 7)) (some (.bin false .add (.var 7) (.int (1)))))) (.sl false (.var 8) (some (.var 9)) none)))
def s62_5_1_1_3 : MS := (.asg (.sub (.var 6) (.var 3)) (.bin false .add (.sl false (.var 4) none (some (.var 7))) (.sl false (.var 4) (some (.bin false .add (.var 7) (.int (1)))) none)))
def s62_5_1_1 : MS := (.ite (.cmp .eq (.var 5) (.int (2))) [s62_5_1_1_0, s62_5_1_1_1, s62_5_1_1_2] [s62_5_1_1_3])
def s62_5_1 : MS := (.ite (.cmp .eq (.var 5) (.int (1))) [s62_5_1_0] [s62_5_1_1])
def s62_5 : MS := (.ite (.cmp .eq (.var 5) (.int (0))) [s62_5_0] [s62_5_1])
def s62_6 : MS := (.ret (.b .tuple false [(.var 6)]))
def d62 : Def :=
  { np := 2, ns := 10, gc := 1, body := [s62_0, s62_1, s62_2, s62_3, s62_4, s62_5, s62_6] }
/- _law_two -/
def s63_0 : MS := (.asg (.nm 4) (.call 13 [(.var 0), (.var 1), (.var 2)] [0, 1, 2] []))
def s63_1 : MS := (.asg (.nm 5) (.call 37 [(.var 0), (.b .len false [(.var 4)])] [0, 1] []))
def s63_2 : MS := (.asg (.tup [(.nm 6), (.nm 7)]) (.call 45 [(.var 0), (.var 4), (.var 5), (.call 7 [(.var 0), (.bin false .add (.var 3) (.int (1)))] [0, 1] [])] [0, 1, 2, 3] []))
def s63_3 : MS := (.asg (.nm 8) (.call 7 [(.var 0), (.int (4))] [0, 1] []))
def s63_4_0 : MS := (.asg (.nm 7) (.call 62 [(.var 0), (.var 7)] [0, 1] []))
def s63_4 : MS := (.ite (.cmp .eq (.var 8) (.int (0))) [s63_4_0] [])
def s63_5_0 : MS := (.asg (.nm 7) (.call 62 [(.var 0), (.ix (.call 45 [(.var 0), (.var 4), (.lst false []), (.call 7 [(.var 0), (.int (8))] [0, 1] [])] [0, 1, 2, 3] []) (.int (1)))] [0, 1] []))
def s63_5 : MS := (.ite (.and (.cmp .eq (.var 8) (.int (1))) (.cmp .eq (.call 7 [(.var 0), (.int (2))] [0, 1] []) (.int (0)))) [s63_5_0] [])
def s63_6 : MS := (.ret (.tup [(.var 4), (.var 7), (.var 5)]))
def d63 : Def :=
  { np := 4, ns := 9, gc := 1, body := [s63_0, s63_1, s63_2, s63_3, s63_4, s63_5, s63_6] }
/- _law_lines_apart -/
def s64_0_0 : MS := (.asg (.tup [(.nm 4), (.nm 5)]) (.tup [(.call 54 [(.var 0), (.var 2), (.var 3)] [0, 1, 2] []), (.call 54 [(.var 1), (.var 2), (.var 3)] [0, 1, 2] [])]))
def s64_0_1_0_0 : MS := (.ret (.tup [(.var 2), (.var 3), (.var 6)]))
def s64_0_1_0 : MS := (.ite (.cmp .ne (.sl false (.var 4) (some (.var 6)) (some (.bin false .add (.var 6) (.int (1))))) (.sl false (.var 5) (some (.var 6)) (some (.bin false .add (.var 6) (.int (1)))))) [s64_0_1_0_0] [])
def s64_0_1 : MS := (.for_ (.nm 6) (.rng [(.b .max2 false [(.b .len false [(.var 4)]), (.b .len false [(.var 5)])])]) [s64_0_1_0])
def s64_0 : MS := (.for_ (.tup [(.nm 2), (.nm 3)]) (.ex (.call 61 [(.var 0)] [0] [])) [s64_0_0, s64_0_1])
def s64_1 : MS := (.ret .non)
def d64 : Def :=
  { np := 2, ns := 7, gc := 1, body := [s64_0, s64_1] }
/- _law_refused -/
def s65_0 : MS := (.asg (.nm 2) .non)
def s65_1_0 : MS := (.expr (.call 59 [(.var 0), (.var 1)] [0, 1] []))
def s65_1_1 : MS := (.asg (.nm 2) (.var 3))
def s65_1 : MS := (.try_ [] [s65_1_0] [(false, 8), (false, 1), (false, 7)] 3 [s65_1_1])
def s65_2 : MS := (.ret (.and (.isi (.var 2) [(.own 7)]) (.and (.isi (.var 2) [(.base 1)]) (.not (.isi (.var 2) [(.own 8), (.own 1)])))))
def d65 : Def :=
  { np := 2, ns := 4, gc := 1, body := [s65_0, s65_1, s65_2] }
/- _law_right -/
def s66_0 : MS := (.asg (.tup [(.nm 1), (.nm 2), (.nm 3)]) (.call 63 [(.var 0), (.int (8)), (.int (16)), (.int (20))] [0, 1, 2, 3] []))
def s66_1_0 : MS := (.asg (.nm 2) (.call 13 [(.var 0), (.int (8)), (.int (16))] [0, 1, 2] []))
def s66_1 : MS := (.ite (.cmp .eq (.call 7 [(.var 0), (.int (4))] [0, 1] []) (.int (0))) [s66_1_0] [])
def s66_2_0_0 : MS := (.ret (.bl false))
def s66_2_0 : MS := (.ite (.or (.not (.call 65 [(.var 1), (.var 2)] [0, 1] [])) (.not (.call 65 [(.var 2), (.var 1)] [0, 1] []))) [s66_2_0_0] [])
def s66_2_1 : MS := (.asg (.nm 2) (.var 1))
def s66_2 : MS := (.ite (.cmp .ne (.b .len false [(.var 2)]) (.b .len false [(.var 1)])) [s66_2_0, s66_2_1] [])
def s66_3 : MS := (.asg (.nm 4) (.call 64 [(.var 1), (.var 2)] [0, 1] []))
def s66_4 : MS := (.asg (.nm 5) (.lst false [(.call 59 [(.var 1), (.var 2)] [0, 1] []), (.call 59 [(.call 11 [(.var 2)] [0] []), (.call 11 [(.var 1)] [0] [])] [1, 0] [])]))
def s66_5_0 : MS := (.ret (.bl false))
def s66_5 : MS := (.ite (.not (.call 60 [(.bin false .add (.var 5) (.lst false [(.call 59 [(.var 2), (.var 1)] [0, 1] [])])), (.bin false .mul (.lst false [(.var 4)]) (.int (3)))] [0, 1] [])) [s66_5_0] [])
def s66_6 : MS := (.asg (.nm 6) (.b .tuple false [(.lc false [7] (.tup [(.int (1)), (.call 12 [(.var 0)] [0] [])]) (.nm 7) (.rng [(.bin false .add (.int (1)) (.call 7 [(.var 0), (.int (6))] [0, 1] []))]) [])]))
def s66_7 : MS := (.asg (.nm 8) (.call 7 [(.var 0), (.b .len false [(.var 6)])] [0, 1] []))
def s66_8 : MS := (.asg (.nm 5) (.lst false [(.call 59 [(.tup [(.var 6), (.tup [])]), (.tup [(.sl false (.var 6) none (some (.var 8))), (.tup [])])] [0, 1] []), (.call 59 [(.tup [(.sl false (.var 6) none (some (.var 8))), (.tup [])]), (.tup [(.var 6), (.tup [])])] [0, 1] [])]))
def s66_9 : MS := (.ret (.and (.call 60 [(.var 5), (.bin false .mul (.lst false [(.tup [(.int (0)), (.int (1)), (.var 8)])]) (.int (2)))] [0, 1] []) (.call 60 [(.call 59 [(.var 1), (.var 1)] [0, 1] []), .non] [0, 1] [])))
def d66 : Def :=
  { np := 1, ns := 9, gc := 1, body := [s66_0, s66_1, s66_2, s66_3, s66_4, s66_5, s66_6, s66_7, s66_8, s66_9] }
/- law -/
def s18_0 : MS := (.asg (.nm 1) (.call 8 [(.var 0), (.int (3))] [0, 1] []))
def s18_1_0 : MS := (.asg (.nm 3) (.call 6 [(.var 1), (.var 2)] [0, 1] []))
def s18_1_1_0 : MS := (.ret (.bl false))
def s18_1_1 : MS := (.ite (.not (.b .all false [(.lc false [4] (.call 66 [(.var 3)] [0] []) (.nm 4) (.rng [(.int (4))]) [])])) [s18_1_1_0] [])
def s18_1 : MS := (.for_ (.nm 2) (.rng [(.b .len false [(.var 1)])]) [s18_1_0, s18_1_1])
def s18_2 : MS := (.ret (.bl true))
def d18 : Def :=
  { np := 1, ns := 5, gc := 1, body := [s18_0, s18_1, s18_2] }
def prog : Prog where
  fn := fun k => match k with
    | 1 => some d1
    | 20 => some d20
    | 21 => some d21
    | 23 => some d23
    | 50 => some d50
    | 52 => some d52
    | 57 => some d57
    | 58 => some d58
    | 59 => some d59
    | 6 => some d6
    | 7 => some d7
    | 8 => some d8
    | 60 => some d60
    | 10 => some d10
    | 11 => some d11
    | 12 => some d12
    | 13 => some d13
    | 37 => some d37
    | 38 => some d38
    | 39 => some d39
    | 45 => some d45
    | 25 => some d25
    | 54 => some d54
    | 61 => some d61
    | 62 => some d62
    | 63 => some d63
    | 64 => some d64
    | 65 => some d65
    | 66 => some d66
    | 18 => some d18
    | _ => none
  meth := fun _ _ => none
  ini := fun _ => none
  base := fun c => match c with
    | 7 => 1
    | 1 => 2
    | 8 => 3
    | _ => 0
  flds := fun c => match c with
    | 7 => []
    | 1 => [1]
    | 8 => [4]
    | _ => []
  glb := fun _ => .non
end Pk07

namespace Pk07
open G PySem PySem.Spec PyProof.Rows L2
def top (i : Nat) : Stmt := PySem.Challenge.pw_grudgecote_k07_the_first_unlike_line.main.body.getD i (.Pass ⟨0, 0, 0, 0⟩)
def r1 : FnRow := ⟨1, "is_number", "is_number", defArgs (top 5), defBody (top 5), defScope (top 5), ["thing"], ["thing"], d1, none⟩
def r20 : FnRow := ⟨20, "is_there", "is_there", defArgs (top 6), defBody (top 6), defScope (top 6), ["standing", "dove"], ["standing", "dove"], d20, none⟩
def r21 : FnRow := ⟨21, "look_dove", "look_dove", defArgs (top 7), defBody (top 7), defScope (top 7), ["standing", "dove"], ["standing", "dove"], d21, none⟩
def r23 : FnRow := ⟨23, "held", "held", defArgs (top 8), defBody (top 8), defScope (top 8), ["standing", "dove", "about", "its", "word"], ["standing", "dove", "about"], d23, none⟩
def r50 : FnRow := ⟨50, "line", "line", defArgs (top 10), defBody (top 10), defScope (top 10), ["standing", "one", "other"], ["standing", "one", "other"], d50, none⟩
def r52 : FnRow := ⟨52, "pairs_of", "pairs_of", defArgs (top 11), defBody (top 11), defScope (top 11), ["standing", "many", "one", "other"], ["standing"], d52, none⟩
def r57 : FnRow := ⟨57, "first_apart", "first_apart", defArgs (top 12), defBody (top 12), defScope (top 12), ["words", "others", "place", "word", "other"], ["words", "others"], d57, none⟩
def r58 : FnRow := ⟨58, "look_same", "look_same", defArgs (top 13), defBody (top 13), defScope (top 13), ["one", "other"], ["one", "other"], d58, none⟩
def r59 : FnRow := ⟨59, "first_unlike", "first_unlike", defArgs (top 14), defBody (top 14), defScope (top 14), ["one", "other", "mine", "its", "place"], ["one", "other"], d59, none⟩
def r6 : FnRow := ⟨6, "_law_box", "_law_box", defArgs (top 16), defBody (top 16), defScope (top 16), ["_law_cells_here", "_law_k", "_law_cell"], ["_law_cells_here", "_law_k"], d6, none⟩
def r7 : FnRow := ⟨7, "_law_take", "_law_take", defArgs (top 17), defBody (top 17), defScope (top 17), ["_law_box_here", "_law_many", "_law_found", "_law_blend"], ["_law_box_here", "_law_many"], d7, none⟩
def r8 : FnRow := ⟨8, "_law_cells", "_law_cells", defArgs (top 18), defBody (top 18), defScope (top 18), ["_law_script", "_law_utmost", "_law_cells_here", "_law_k", "_law_cell"], ["_law_script", "_law_utmost"], d8, none⟩
def r60 : FnRow := ⟨60, "_law_same", "_law_same", defArgs (top 19), defBody (top 19), defScope (top 19), ["_law_found", "_law_due", "_law_it", "_law_two_here"], ["_law_found", "_law_due"], d60, none⟩
def r10 : FnRow := ⟨10, "_law_of", "_law_of", defArgs (top 20), defBody (top 20), defScope (top 20), ["_law_box_here", "_law_some"], ["_law_box_here", "_law_some"], d10, none⟩
def r11 : FnRow := ⟨11, "_law_listed", "_law_listed", defArgs (top 21), defBody (top 21), defScope (top 21), ["_law_matter", "_law_part"], ["_law_matter"], d11, none⟩
def r12 : FnRow := ⟨12, "_law_word", "_law_word", defArgs (top 22), defBody (top 22), defScope (top 22), ["_law_box_here"], ["_law_box_here"], d12, none⟩
def r13 : FnRow := ⟨13, "_law_room", "_law_room", defArgs (top 23), defBody (top 23), defScope (top 23), ["_law_box_here", "_law_birds", "_law_most", "_law_many", "_law_heaps", "_law_bird", "_law_turn", "_law_whom"], ["_law_box_here", "_law_birds", "_law_most"], d13, none⟩
def r37 : FnRow := ⟨37, "_law_dozing", "_law_dozing", defArgs (top 24), defBody (top 24), defScope (top 24), ["_law_box_here", "_law_many", "_law_way", "_law_bird"], ["_law_box_here", "_law_many"], d37, none⟩
def r38 : FnRow := ⟨38, "_law_peck", "_law_peck", defArgs (top 25), defBody (top 25), defScope (top 25), ["_law_room_here", "_law_bird", "_law_whom", "_law_word_here", "_law_heaps"], ["_law_room_here", "_law_bird"], d38, none⟩
def r39 : FnRow := ⟨39, "_law_can", "_law_can", defArgs (top 26), defBody (top 26), defScope (top 26), ["_law_room_here", "_law_dozing_here", "_law_bird", "_law_heap"], ["_law_room_here", "_law_dozing_here"], d39, none⟩
def r45 : FnRow := ⟨45, "_law_led", "_law_led", defArgs (top 27), defBody (top 27), defScope (top 27), ["_law_box_here", "_law_room_here", "_law_dozing_here", "_law_turns", "_law_pecks", "_law_turn", "_law_some"], ["_law_box_here", "_law_room_here", "_law_dozing_here", "_law_turns"], d45, none⟩
def r25 : FnRow := ⟨25, "_law_held", "_law_held", defArgs (top 28), defBody (top 28), defScope (top 28), ["_law_room_here", "_law_mine", "_law_its", "_law_whom", "_law_word_here"], ["_law_room_here", "_law_mine", "_law_its"], d25, none⟩
def r54 : FnRow := ⟨54, "_law_line", "_law_line", defArgs (top 29), defBody (top 29), defScope (top 29), ["_law_room_here", "_law_mine", "_law_its"], ["_law_room_here", "_law_mine", "_law_its"], d54, none⟩
def r61 : FnRow := ⟨61, "_law_pairs", "_law_pairs", defArgs (top 30), defBody (top 30), defScope (top 30), ["_law_room_here", "_law_found", "_law_mine", "_law_its"], ["_law_room_here"], d61, none⟩
def r62 : FnRow := ⟨62, "_law_spoilt", "_law_spoilt", defArgs (top 31), defBody (top 31), defScope (top 31), ["_law_box_here", "_law_room_here", "_law_full", "_law_bird", "_law_heap", "_law_way", "_law_heaps", "_law_at", "_law_left", "_law_to"], ["_law_box_here", "_law_room_here"], d62, none⟩
def r63 : FnRow := ⟨63, "_law_two", "_law_two", defArgs (top 32), defBody (top 32), defScope (top 32), ["_law_box_here", "_law_birds", "_law_most", "_law_turns", "_law_room_here", "_law_dozing_here", "_law_pecks", "_law_there", "_law_way"], ["_law_box_here", "_law_birds", "_law_most", "_law_turns"], d63, none⟩
def r64 : FnRow := ⟨64, "_law_lines_apart", "_law_lines_apart", defArgs (top 33), defBody (top 33), defScope (top 33), ["_law_room_here", "_law_there", "_law_mine", "_law_its", "_law_words", "_law_others", "_law_place"], ["_law_room_here", "_law_there"], d64, none⟩
def r65 : FnRow := ⟨65, "_law_refused", "_law_refused", defArgs (top 34), defBody (top 34), defScope (top 34), ["_law_room_here", "_law_there", "_law_caught", "error"], ["_law_room_here", "_law_there"], d65, none⟩
def r66 : FnRow := ⟨66, "_law_right", "_law_right", defArgs (top 35), defBody (top 35), defScope (top 35), ["_law_box_here", "_law_room_here", "_law_there", "_law_dozing_here", "_law_due", "_law_told", "_law_words", "_law_turn", "_law_at"], ["_law_box_here"], d66, none⟩
def r18 : FnRow := ⟨18, "law", "law", defArgs (top 36), defBody (top 36), defScope (top 36), ["_law_script", "_law_cells_here", "_law_k", "_law_box_here", "_law_turn"], ["_law_script"], d18, none⟩
def c0 : CallRow := ⟨1, "is_number", 1, [], [0], []⟩
def c1 : CallRow := ⟨20, "is_there", 2, [], [0, 1], []⟩
def c2 : CallRow := ⟨21, "look_dove", 2, [], [0, 1], []⟩
def c3 : CallRow := ⟨23, "held", 3, [], [0, 1, 2], []⟩
def c4 : CallRow := ⟨58, "look_same", 2, [], [0, 1], []⟩
def c5 : CallRow := ⟨52, "pairs_of", 1, [], [0], []⟩
def c6 : CallRow := ⟨50, "line", 3, [], [0, 1, 2], []⟩
def c7 : CallRow := ⟨57, "first_apart", 2, [], [0, 1], []⟩
def c8 : CallRow := ⟨60, "_law_same", 2, [], [0, 1], []⟩
def c9 : CallRow := ⟨7, "_law_take", 2, [], [0, 1], []⟩
def c10 : CallRow := ⟨11, "_law_listed", 1, [], [0], []⟩
def c11 : CallRow := ⟨12, "_law_word", 1, [], [0], []⟩
def c12 : CallRow := ⟨39, "_law_can", 2, [], [0, 1], []⟩
def c13 : CallRow := ⟨10, "_law_of", 2, [], [0, 1], []⟩
def c14 : CallRow := ⟨38, "_law_peck", 2, [], [0, 1], []⟩
def c15 : CallRow := ⟨25, "_law_held", 3, [], [0, 1, 2], []⟩
def c16 : CallRow := ⟨13, "_law_room", 3, [], [0, 1, 2], []⟩
def c17 : CallRow := ⟨37, "_law_dozing", 2, [], [0, 1], []⟩
def c18 : CallRow := ⟨45, "_law_led", 4, [], [0, 1, 2, 3], []⟩
def c19 : CallRow := ⟨62, "_law_spoilt", 2, [], [0, 1], []⟩
def c20 : CallRow := ⟨61, "_law_pairs", 1, [], [0], []⟩
def c21 : CallRow := ⟨54, "_law_line", 3, [], [0, 1, 2], []⟩
def c22 : CallRow := ⟨59, "first_unlike", 2, [], [0, 1], []⟩
def c23 : CallRow := ⟨63, "_law_two", 4, [], [0, 1, 2, 3], []⟩
def c24 : CallRow := ⟨65, "_law_refused", 2, [], [0, 1], []⟩
def c25 : CallRow := ⟨64, "_law_lines_apart", 2, [], [0, 1], []⟩
def c26 : CallRow := ⟨59, "first_unlike", 0, ["other", "one"], [1, 0], []⟩
def c27 : CallRow := ⟨8, "_law_cells", 2, [], [0, 1], []⟩
def c28 : CallRow := ⟨6, "_law_box", 2, [], [0, 1], []⟩
def c29 : CallRow := ⟨66, "_law_right", 1, [], [0], []⟩
def x7 : ExRow := ⟨7, 1, 0, []⟩
def i7 : IniRow := ⟨"NotSame.__init__", defArgs (iniOf (top 1)), defBody (iniOf (top 1)), defScope (iniOf (top 1)), ["self"]⟩
def x1 : ExRow := ⟨1, 2, 1, [1]⟩
def i1 : IniRow := ⟨"NoDove.__init__", defArgs (iniOf (top 2)), defBody (iniOf (top 2)), defScope (iniOf (top 2)), ["self", "dove"]⟩
def x8 : ExRow := ⟨8, 3, 1, [4]⟩
def i8 : IniRow := ⟨"Barred.__init__", defArgs (iniOf (top 3)), defBody (iniOf (top 3)), defScope (iniOf (top 3)), ["self", "what"]⟩
def xs : List (ExRow × IniRow) := [(x7, i7), (x1, i1), (x8, i8)]
def tab : Tab := ⟨[c0, c1, c2, c3, c4, c5, c6, c7, c8, c9, c10, c11, c12, c13, c14, c15, c16, c17, c18, c19, c20, c21, c22, c23, c24, c25, c26, c27, c28, c29], ["LookupError", "RuntimeError", "ValueError", "abs", "all", "bool", "enumerate", "int", "isinstance", "len", "list", "max", "min", "range", "str", "tuple", "zip"], [x7, x1, x8]⟩
theorem xs_tab : xs.map (·.1) = tab.excs := rfl
theorem y7 : iniB x7 i7 = true ∧ iniScB i7 = true ∧ BindIni i7 := ⟨by decide +kernel, by decide +kernel, fun _ _ _ _ _ _ us h => match us, h with | [_], _ => rfl⟩
theorem z7 : prog.base x7.c = x7.b ∧ prog.flds x7.c = x7.fl := ⟨rfl, rfl⟩
theorem g7 : (clsN x7.c == ("__debug__" : Str)) = false := by decide +kernel
theorem y1 : iniB x1 i1 = true ∧ iniScB i1 = true ∧ BindIni i1 := ⟨by decide +kernel, by decide +kernel, fun _ _ _ _ _ _ us h => match us, h with | [_, _], _ => rfl⟩
theorem z1 : prog.base x1.c = x1.b ∧ prog.flds x1.c = x1.fl := ⟨rfl, rfl⟩
theorem g1 : (clsN x1.c == ("__debug__" : Str)) = false := by decide +kernel
theorem y8 : iniB x8 i8 = true ∧ iniScB i8 = true ∧ BindIni i8 := ⟨by decide +kernel, by decide +kernel, fun _ _ _ _ _ _ us h => match us, h with | [_, _], _ => rfl⟩
theorem z8 : prog.base x8.c = x8.b ∧ prog.flds x8.c = x8.fl := ⟨rfl, rfl⟩
theorem g8 : (clsN x8.c == ("__debug__" : Str)) = false := by decide +kernel
theorem hY : ∀ p ∈ xs, iniB p.1 p.2 = true ∧ iniScB p.2 = true ∧ BindIni p.2 := all_cons y7 (all_cons y1 (all_cons y8 (all_nil)))
theorem hZ : ∀ p ∈ xs, prog.base p.1.c = p.1.b ∧ prog.flds p.1.c = p.1.fl := all_cons z7 (all_cons z1 (all_cons z8 (all_nil)))
theorem hD : ∀ p ∈ xs, (clsN p.1.c == ("__debug__" : Str)) = false := all_cons g7 (all_cons g1 (all_cons g8 (all_nil)))
theorem hb7 : baseS x7.b ∈ tab.free := by decide +kernel
theorem hb1 : baseS x1.b ∈ tab.free := by decide +kernel
theorem hb8 : baseS x8.b ∈ tab.free := by decide +kernel
theorem hB : ∀ p ∈ xs, baseS p.1.b ∈ tab.free := all_cons hb7 (all_cons hb1 (all_cons hb8 (all_nil)))
theorem hV : ∀ c, prog.base c ≠ 0 → ∃ r ∈ xs.map (·.1), r.c = c := by
  intro c h
  unfold prog at h
  dsimp only at h
  split at h
  · exact ⟨x7, List.mem_of_getElem? (i := 0) rfl, rfl⟩
  · exact ⟨x1, List.mem_of_getElem? (i := 1) rfl, rfl⟩
  · exact ⟨x8, List.mem_of_getElem? (i := 2) rfl, rfl⟩
  · exact absurd rfl h
def rows : List FnRow := [r1, r20, r21, r23, r50, r52, r57, r58, r59, r6, r7, r8, r60, r10, r11, r12, r13, r37, r38, r39, r45, r25, r54, r61, r62, r63, r64, r65, r66, r18]
theorem k1 : prog.fn r1.f = some r1.d ∧ rowB tab r1 = true := ⟨rfl, by decide +kernel⟩
theorem k20 : prog.fn r20.f = some r20.d ∧ rowB tab r20 = true := ⟨rfl, by decide +kernel⟩
theorem k21 : prog.fn r21.f = some r21.d ∧ rowB tab r21 = true := ⟨rfl, by decide +kernel⟩
theorem k23 : prog.fn r23.f = some r23.d ∧ rowB tab r23 = true := ⟨rfl, by decide +kernel⟩
theorem k50 : prog.fn r50.f = some r50.d ∧ rowB tab r50 = true := ⟨rfl, by decide +kernel⟩
theorem k52 : prog.fn r52.f = some r52.d ∧ rowB tab r52 = true := ⟨rfl, by decide +kernel⟩
theorem k57 : prog.fn r57.f = some r57.d ∧ rowB tab r57 = true := ⟨rfl, by decide +kernel⟩
theorem k58 : prog.fn r58.f = some r58.d ∧ rowB tab r58 = true := ⟨rfl, by decide +kernel⟩
theorem k59 : prog.fn r59.f = some r59.d ∧ rowB tab r59 = true := ⟨rfl, by decide +kernel⟩
theorem k6 : prog.fn r6.f = some r6.d ∧ rowB tab r6 = true := ⟨rfl, by decide +kernel⟩
theorem k7 : prog.fn r7.f = some r7.d ∧ rowB tab r7 = true := ⟨rfl, by decide +kernel⟩
theorem k8 : prog.fn r8.f = some r8.d ∧ rowB tab r8 = true := ⟨rfl, by decide +kernel⟩
theorem k60 : prog.fn r60.f = some r60.d ∧ rowB tab r60 = true := ⟨rfl, by decide +kernel⟩
theorem k10 : prog.fn r10.f = some r10.d ∧ rowB tab r10 = true := ⟨rfl, by decide +kernel⟩
theorem k11 : prog.fn r11.f = some r11.d ∧ rowB tab r11 = true := ⟨rfl, by decide +kernel⟩
theorem k12 : prog.fn r12.f = some r12.d ∧ rowB tab r12 = true := ⟨rfl, by decide +kernel⟩
theorem k13 : prog.fn r13.f = some r13.d ∧ rowB tab r13 = true := ⟨rfl, by decide +kernel⟩
theorem k37 : prog.fn r37.f = some r37.d ∧ rowB tab r37 = true := ⟨rfl, by decide +kernel⟩
theorem k38 : prog.fn r38.f = some r38.d ∧ rowB tab r38 = true := ⟨rfl, by decide +kernel⟩
theorem k39 : prog.fn r39.f = some r39.d ∧ rowB tab r39 = true := ⟨rfl, by decide +kernel⟩
theorem k45 : prog.fn r45.f = some r45.d ∧ rowB tab r45 = true := ⟨rfl, by decide +kernel⟩
theorem k25 : prog.fn r25.f = some r25.d ∧ rowB tab r25 = true := ⟨rfl, by decide +kernel⟩
theorem k54 : prog.fn r54.f = some r54.d ∧ rowB tab r54 = true := ⟨rfl, by decide +kernel⟩
theorem k61 : prog.fn r61.f = some r61.d ∧ rowB tab r61 = true := ⟨rfl, by decide +kernel⟩
theorem k62 : prog.fn r62.f = some r62.d ∧ rowB tab r62 = true := ⟨rfl, by decide +kernel⟩
theorem k63 : prog.fn r63.f = some r63.d ∧ rowB tab r63 = true := ⟨rfl, by decide +kernel⟩
theorem k64 : prog.fn r64.f = some r64.d ∧ rowB tab r64 = true := ⟨rfl, by decide +kernel⟩
theorem k65 : prog.fn r65.f = some r65.d ∧ rowB tab r65 = true := ⟨rfl, by decide +kernel⟩
theorem k66 : prog.fn r66.f = some r66.d ∧ rowB tab r66 = true := ⟨rfl, by decide +kernel⟩
theorem k18 : prog.fn r18.f = some r18.d ∧ rowB tab r18 = true := ⟨rfl, by decide +kernel⟩
theorem hF : ∀ r ∈ rows, prog.fn r.f = some r.d ∧ rowB tab r = true := all_cons k1 (all_cons k20 (all_cons k21 (all_cons k23 (all_cons k50 (all_cons k52 (all_cons k57 (all_cons k58 (all_cons k59 (all_cons k6 (all_cons k7 (all_cons k8 (all_cons k60 (all_cons k10 (all_cons k11 (all_cons k12 (all_cons k13 (all_cons k37 (all_cons k38 (all_cons k39 (all_cons k45 (all_cons k25 (all_cons k54 (all_cons k61 (all_cons k62 (all_cons k63 (all_cons k64 (all_cons k65 (all_cons k66 (all_cons k18 (all_nil))))))))))))))))))))))))))))))
theorem b0 : BindOk r1 c0 := .inl ⟨rfl, fun _ _ _ _ _ _ us ws h1 h2 => match us, ws, h1, h2 with | [_], [], _, _ => rfl⟩
theorem b1 : BindOk r20 c1 := .inl ⟨rfl, fun _ _ _ _ _ _ us ws h1 h2 => match us, ws, h1, h2 with | [_, _], [], _, _ => rfl⟩
theorem b2 : BindOk r21 c2 := .inl ⟨rfl, fun _ _ _ _ _ _ us ws h1 h2 => match us, ws, h1, h2 with | [_, _], [], _, _ => rfl⟩
theorem b3 : BindOk r23 c3 := .inl ⟨rfl, fun _ _ _ _ _ _ us ws h1 h2 => match us, ws, h1, h2 with | [_, _, _], [], _, _ => rfl⟩
theorem b4 : BindOk r58 c4 := .inl ⟨rfl, fun _ _ _ _ _ _ us ws h1 h2 => match us, ws, h1, h2 with | [_, _], [], _, _ => rfl⟩
theorem b5 : BindOk r52 c5 := .inl ⟨rfl, fun _ _ _ _ _ _ us ws h1 h2 => match us, ws, h1, h2 with | [_], [], _, _ => rfl⟩
theorem b6 : BindOk r50 c6 := .inl ⟨rfl, fun _ _ _ _ _ _ us ws h1 h2 => match us, ws, h1, h2 with | [_, _, _], [], _, _ => rfl⟩
theorem b7 : BindOk r57 c7 := .inl ⟨rfl, fun _ _ _ _ _ _ us ws h1 h2 => match us, ws, h1, h2 with | [_, _], [], _, _ => rfl⟩
theorem b8 : BindOk r60 c8 := .inl ⟨rfl, fun _ _ _ _ _ _ us ws h1 h2 => match us, ws, h1, h2 with | [_, _], [], _, _ => rfl⟩
theorem b9 : BindOk r7 c9 := .inl ⟨rfl, fun _ _ _ _ _ _ us ws h1 h2 => match us, ws, h1, h2 with | [_, _], [], _, _ => rfl⟩
theorem b10 : BindOk r11 c10 := .inl ⟨rfl, fun _ _ _ _ _ _ us ws h1 h2 => match us, ws, h1, h2 with | [_], [], _, _ => rfl⟩
theorem b11 : BindOk r12 c11 := .inl ⟨rfl, fun _ _ _ _ _ _ us ws h1 h2 => match us, ws, h1, h2 with | [_], [], _, _ => rfl⟩
theorem b12 : BindOk r39 c12 := .inl ⟨rfl, fun _ _ _ _ _ _ us ws h1 h2 => match us, ws, h1, h2 with | [_, _], [], _, _ => rfl⟩
theorem b13 : BindOk r10 c13 := .inl ⟨rfl, fun _ _ _ _ _ _ us ws h1 h2 => match us, ws, h1, h2 with | [_, _], [], _, _ => rfl⟩
theorem b14 : BindOk r38 c14 := .inl ⟨rfl, fun _ _ _ _ _ _ us ws h1 h2 => match us, ws, h1, h2 with | [_, _], [], _, _ => rfl⟩
theorem b15 : BindOk r25 c15 := .inl ⟨rfl, fun _ _ _ _ _ _ us ws h1 h2 => match us, ws, h1, h2 with | [_, _, _], [], _, _ => rfl⟩
theorem b16 : BindOk r13 c16 := .inl ⟨rfl, fun _ _ _ _ _ _ us ws h1 h2 => match us, ws, h1, h2 with | [_, _, _], [], _, _ => rfl⟩
theorem b17 : BindOk r37 c17 := .inl ⟨rfl, fun _ _ _ _ _ _ us ws h1 h2 => match us, ws, h1, h2 with | [_, _], [], _, _ => rfl⟩
theorem b18 : BindOk r45 c18 := .inl ⟨rfl, fun _ _ _ _ _ _ us ws h1 h2 => match us, ws, h1, h2 with | [_, _, _, _], [], _, _ => rfl⟩
theorem b19 : BindOk r62 c19 := .inl ⟨rfl, fun _ _ _ _ _ _ us ws h1 h2 => match us, ws, h1, h2 with | [_, _], [], _, _ => rfl⟩
theorem b20 : BindOk r61 c20 := .inl ⟨rfl, fun _ _ _ _ _ _ us ws h1 h2 => match us, ws, h1, h2 with | [_], [], _, _ => rfl⟩
theorem b21 : BindOk r54 c21 := .inl ⟨rfl, fun _ _ _ _ _ _ us ws h1 h2 => match us, ws, h1, h2 with | [_, _, _], [], _, _ => rfl⟩
theorem b22 : BindOk r59 c22 := .inl ⟨rfl, fun _ _ _ _ _ _ us ws h1 h2 => match us, ws, h1, h2 with | [_, _], [], _, _ => rfl⟩
theorem b23 : BindOk r63 c23 := .inl ⟨rfl, fun _ _ _ _ _ _ us ws h1 h2 => match us, ws, h1, h2 with | [_, _, _, _], [], _, _ => rfl⟩
theorem b24 : BindOk r65 c24 := .inl ⟨rfl, fun _ _ _ _ _ _ us ws h1 h2 => match us, ws, h1, h2 with | [_, _], [], _, _ => rfl⟩
theorem b25 : BindOk r64 c25 := .inl ⟨rfl, fun _ _ _ _ _ _ us ws h1 h2 => match us, ws, h1, h2 with | [_, _], [], _, _ => rfl⟩
theorem b26 : BindOk r59 c26 := .inl ⟨rfl, fun _ _ _ _ _ _ us ws h1 h2 => match us, ws, h1, h2 with | [], [_, _], _, _ => rfl⟩
theorem b27 : BindOk r8 c27 := .inl ⟨rfl, fun _ _ _ _ _ _ us ws h1 h2 => match us, ws, h1, h2 with | [_, _], [], _, _ => rfl⟩
theorem b28 : BindOk r6 c28 := .inl ⟨rfl, fun _ _ _ _ _ _ us ws h1 h2 => match us, ws, h1, h2 with | [_, _], [], _, _ => rfl⟩
theorem b29 : BindOk r66 c29 := .inl ⟨rfl, fun _ _ _ _ _ _ us ws h1 h2 => match us, ws, h1, h2 with | [_], [], _, _ => rfl⟩
theorem hC : ∀ c ∈ tab.calls, ∃ r, r ∈ rows ∧ r.f = c.f ∧ r.x = c.x ∧ BindOk r c := all_cons ⟨r1, List.mem_of_getElem? (i := 0) rfl, rfl, rfl, b0⟩ (all_cons ⟨r20, List.mem_of_getElem? (i := 1) rfl, rfl, rfl, b1⟩ (all_cons ⟨r21, List.mem_of_getElem? (i := 2) rfl, rfl, rfl, b2⟩ (all_cons ⟨r23, List.mem_of_getElem? (i := 3) rfl, rfl, rfl, b3⟩ (all_cons ⟨r58, List.mem_of_getElem? (i := 7) rfl, rfl, rfl, b4⟩ (all_cons ⟨r52, List.mem_of_getElem? (i := 5) rfl, rfl, rfl, b5⟩ (all_cons ⟨r50, List.mem_of_getElem? (i := 4) rfl, rfl, rfl, b6⟩ (all_cons ⟨r57, List.mem_of_getElem? (i := 6) rfl, rfl, rfl, b7⟩ (all_cons ⟨r60, List.mem_of_getElem? (i := 12) rfl, rfl, rfl, b8⟩ (all_cons ⟨r7, List.mem_of_getElem? (i := 10) rfl, rfl, rfl, b9⟩ (all_cons ⟨r11, List.mem_of_getElem? (i := 14) rfl, rfl, rfl, b10⟩ (all_cons ⟨r12, List.mem_of_getElem? (i := 15) rfl, rfl, rfl, b11⟩ (all_cons ⟨r39, List.mem_of_getElem? (i := 19) rfl, rfl, rfl, b12⟩ (all_cons ⟨r10, List.mem_of_getElem? (i := 13) rfl, rfl, rfl, b13⟩ (all_cons ⟨r38, List.mem_of_getElem? (i := 18) rfl, rfl, rfl, b14⟩ (all_cons ⟨r25, List.mem_of_getElem? (i := 21) rfl, rfl, rfl, b15⟩ (all_cons ⟨r13, List.mem_of_getElem? (i := 16) rfl, rfl, rfl, b16⟩ (all_cons ⟨r37, List.mem_of_getElem? (i := 17) rfl, rfl, rfl, b17⟩ (all_cons ⟨r45, List.mem_of_getElem? (i := 20) rfl, rfl, rfl, b18⟩ (all_cons ⟨r62, List.mem_of_getElem? (i := 24) rfl, rfl, rfl, b19⟩ (all_cons ⟨r61, List.mem_of_getElem? (i := 23) rfl, rfl, rfl, b20⟩ (all_cons ⟨r54, List.mem_of_getElem? (i := 22) rfl, rfl, rfl, b21⟩ (all_cons ⟨r59, List.mem_of_getElem? (i := 8) rfl, rfl, rfl, b22⟩ (all_cons ⟨r63, List.mem_of_getElem? (i := 25) rfl, rfl, rfl, b23⟩ (all_cons ⟨r65, List.mem_of_getElem? (i := 27) rfl, rfl, rfl, b24⟩ (all_cons ⟨r64, List.mem_of_getElem? (i := 26) rfl, rfl, rfl, b25⟩ (all_cons ⟨r59, List.mem_of_getElem? (i := 8) rfl, rfl, rfl, b26⟩ (all_cons ⟨r8, List.mem_of_getElem? (i := 11) rfl, rfl, rfl, b27⟩ (all_cons ⟨r6, List.mem_of_getElem? (i := 9) rfl, rfl, rfl, b28⟩ (all_cons ⟨r66, List.mem_of_getElem? (i := 28) rfl, rfl, rfl, b29⟩ (all_nil))))))))))))))))))))))))))))))
end Pk07

namespace Pk07
open G PySem PySem.Spec PyProof.Rows L2
def fn : List He.DefD := rows.map ddE ++ xs.map ddX
def fa : List He.Fa := rows.map (fun r => .glo r.x) ++ tab.free.map .free ++ xs.map (fun p => .glo (clsN p.1.c))
abbrev Rw : PySem.W.OpenRow := PySem.W.OpenLaw.row PySem.Challenge.rw_grudgecote_k07_the_first_unlike_line
abbrev hk : PySem.W.Hook := hookE 4 fa fn rows tab.excs
def ob (s : PySem.W.SharedT) : He.AlD × Bool := obE 4 fa fn rows tab.excs (HandSHeadRun.getT s)
theorem ob_eq (s : PySem.W.SharedT) : ob s = hk.obs s.abs := obE_eq (HandSHeadRun.getT_eq s)
def loose : List PySem.Str := (["NotSame", "NoDove", "Barred", "is_number", "is_there", "look_dove", "held", "line", "pairs_of", "first_apart", "look_same", "first_unlike", "_law_box", "_law_take", "_law_cells", "_law_same", "_law_of", "_law_listed", "_law_word", "_law_room"] : List PySem.Str) ++ (["_law_dozing", "_law_peck", "_law_can", "_law_led", "_law_held", "_law_line", "_law_pairs", "_law_spoilt", "_law_two", "_law_lines_apart", "_law_refused", "_law_right"] : List PySem.Str)
set_option maxHeartbeats 0 in
theorem run (w : World) : HandSHeadRun.RunEq Rw (PySem.W.view Rw.prog [36]) hk ob 2000 loose w := by
  intro os
  kernel_rfl
theorem facts {P : Program} {w : World} {K : PySem.W.Frag} {h : Heap} {mg : Str → Option Value} {f : Addr} (X : K.In h) (Gm : h.Ns mainGlobals mg) (hfa : mg ("law" : Str) = some (.ref f)) (c : He.SaysD fa fn K) (d : kwxB rows tab.excs K = true) :
    ∃ fd : FuncData, (∀ (s : Shared) (v : Value), BindsTo s fd ⟨[v], []⟩ [("_law_script", v)]) ∧ ∀ base : Heap, FnOk P w K mg base (L2.CX P w) 100 f fd ["_law_script"] (spec K ⟨fun _ => "", fun _ => 0⟩ (callN prog 98) 18) := by
  have gl : ∀ (i : Nat) (x : Str), fa[i]? = some (.glo x) → mg x = some (.ref (He.ga K x)) := fun i x e => He.glo_ok X Gm (c.fact i (f := .glo x) e)
  have fr : ∀ (i : Nat) (x : Str), fa[i]? = some (.free x) → mg x = none := fun i x e => He.free_ok X Gm (c.fact i (f := .free x) e)
  have hG : ∀ r ∈ rows, Stands K mg r := stands_of (ys := xs.map ddX) c (Bool.and_eq_true_iff.mp d).1 fun r hr => by
    obtain ⟨i, hi, e⟩ := List.mem_iff_getElem.mp hr
    refine gl i r.x ?_
    show (rows.map (fun r => He.Fa.glo r.x) ++ tab.free.map .free ++ xs.map (fun p => .glo (clsN p.1.c)))[i]? = _
    rw [List.getElem?_append_left (by rw [List.length_append, List.length_map]; omega), List.getElem?_append_left (by rw [List.length_map]; exact hi), List.getElem?_map, List.getElem?_eq_getElem hi, e]
    rfl
  have free : ∀ x ∈ tab.free, mg x = none := fun x hx => by
    obtain ⟨i, hi, e⟩ := List.mem_iff_getElem.mp hx
    refine fr ((rows.map (fun r => He.Fa.glo r.x)).length + i) x ?_
    show (rows.map (fun r => He.Fa.glo r.x) ++ tab.free.map .free ++ xs.map (fun p => .glo (clsN p.1.c)))[_]? = _
    rw [List.getElem?_append_left (by simp only [List.length_append, List.length_map]; omega), List.getElem?_append_right (Nat.le_add_right _ _), Nat.add_sub_cancel_left, List.getElem?_map, List.getElem?_eq_getElem hi, e]
    rfl
  have glx : ∀ p ∈ xs, mg (clsN p.1.c) = some (.ref (clsA K p.1.c)) := fun p hp => by
    obtain ⟨i, hi, e⟩ := List.mem_iff_getElem.mp hp
    refine gl ((rows.map (fun r => He.Fa.glo r.x) ++ tab.free.map He.Fa.free).length + i) (clsN p.1.c) ?_
    show (rows.map (fun r => He.Fa.glo r.x) ++ tab.free.map .free ++ xs.map (fun p => .glo (clsN p.1.c)))[_]? = _
    rw [List.getElem?_append_right (Nat.le_add_right _ _), Nat.add_sub_cancel_left, List.getElem?_map, List.getElem?_eq_getElem hi, e]
    rfl
  have exs : ExAll K mg prog tab.excs := exs_of (xs := xs) (show (xs.map (·.1)).all (exFB K (xs.map (·.1))) = true from (Bool.and_eq_true_iff.mp d).2) (fun p hp => ⟨glx p hp, hD p hp⟩) hZ hV
  have bfr : ∀ p ∈ xs, mg (baseS p.1.b) = none := fun p hp => free _ (hB p hp)
  obtain ⟨fa2, fd, kws, F, hm, _⟩ := hG r18 (List.mem_of_getElem? (i := 29) rfl)
  have e := hfa.symm.trans hm
  cases e
  refine ⟨fd, fun s v => FunD.bindsA (ps := ["_law_script"]) F (fun _ _ _ _ _ _ us hl => match us, hl with | [_], _ => rfl) s [v] rfl, fun base => ?_⟩
  exact fns_ok tab hF hG hC free exs (inis_of (rs := rows) (xs := xs) c exs hY bfr) 98 r18 (List.mem_of_getElem? (i := 29) rfl) _ _ _ F

end Pk07

namespace G
/-! ### what a run of the small program gives -/
structure wp {α : Type} (r : R α) (Q : α → Store → Prop) : Prop where
  ex : ∃ a S, r = .ok a S ∧ Q a S
section
variable {α β : Type}
theorem wp_ok {a : α} {S : Store} {Q : α → Store → Prop} : wp (.ok a S) Q = Q a S := by
  refine propext ⟨fun h => ?_, fun h => ⟨a, S, rfl, h⟩⟩
  obtain ⟨b, T, e, q⟩ := h.ex
  cases e
  exact q
theorem wp_bad {Q : α → Store → Prop} : wp .bad Q = False := propext ⟨fun h => (by obtain ⟨b, T, e, q⟩ := h.ex; cases e), False.elim⟩
theorem wp_ex {e : PV} {S : Store} {Q : α → Store → Prop} : wp (.ex e S) Q = False := propext ⟨fun h => (by obtain ⟨b, T, e, q⟩ := h.ex; cases e), False.elim⟩
theorem wp_bind {r : R α} {g : α → Store → R β} {Q : β → Store → Prop} : wp (r.bind g) Q = wp r fun a S => wp (g a S) Q := by
  cases r <;> simp only [R.bind, wp_ok, wp_bad, wp_ex]
theorem wp_mono {r : R α} {Q Q' : α → Store → Prop} (h : wp r Q) (i : ∀ a S, Q a S → Q' a S) : wp r Q' := by
  obtain ⟨a, S, e, q⟩ := h.ex
  exact ⟨a, S, e, i a S q⟩
theorem wp_eq {r : R α} {Q : α → Store → Prop} (h : wp r Q) : ∃ a S, r = .ok a S ∧ Q a S := h.ex
theorem wp_of {r : R α} {a : α} {S : Store} {Q : α → Store → Prop} (e : r = .ok a S) (h : Q a S) : wp r Q := ⟨a, S, e, h⟩
theorem wp_lift {o : Option α} {a : α} {S : Store} {Q : α → Store → Prop} (e : o = some a) (h : Q a S) : wp (lift o S) Q := by rw [e]; exact ⟨a, S, rfl, h⟩
theorem wp_val {a : α} {S : Store} {Q : α → Store → Prop} (h : Q a S) : wp (.ok a S) Q := ⟨a, S, rfl, h⟩
end
theorem seqOf_tup {S : Store} {l : List PV} : seqOf S (.tup l) = some l := rfl
theorem seqOf_fl {S : Store} {l : List PV} : seqOf S (.fl l) = some l := rfl
theorem ok_bind {α β : Type} {a : α} {S : Store} {g : α → Store → R β} : (R.ok a S).bind g = g a S := rfl
theorem cb_len_fl {b : Bool} {l : List PV} {S : Store} : callB .len b [.fl l] S = .ok (.int l.length) S := rfl
theorem cb_len_tup {b : Bool} {l : List PV} {S : Store} : callB .len b [.tup l] S = .ok (.int l.length) S := rfl
theorem cb_tuple_fl {b : Bool} {l : List PV} {S : Store} : callB .tuple b [.fl l] S = .ok (.tup l) S := rfl
theorem cb_tuple_tup {b : Bool} {l : List PV} {S : Store} : callB .tuple b [.tup l] S = .ok (.tup l) S := rfl
theorem bi_add {m : Bool} {i j : Int} {S : Store} : binop m .add (.int i) (.int j) S = .ok (.int (i + j)) S := rfl
theorem bi_sub {m : Bool} {i j : Int} {S : Store} : binop m .sub (.int i) (.int j) S = .ok (.int (i - j)) S := rfl
theorem bi_mod {m : Bool} {i j : Int} {S : Store} (h : 0 < j) : binop m .mod (.int i) (.int j) S = .ok (.int (i % j)) S := by
  show (if 0 < j then _ else _) = _
  rw [if_pos h]
theorem bi_mul {m : Bool} {i j : Int} {S : Store} (h : mulOk i j = true) : binop m .mul (.int i) (.int j) S = .ok (.int (i * j)) S := by
  show (if mulOk i j then _ else _) = _
  rw [if_pos h]
theorem bi_pow {m : Bool} {i j : Int} {S : Store} (h : 0 ≤ j ∧ j ≤ 1000 ∧ i.natAbs < 2 ^ 64) : binop m .pow (.int i) (.int j) S = .ok (.int (i ^ j.toNat)) S := by
  show (if 0 ≤ j ∧ j ≤ 1000 ∧ i.natAbs < 2 ^ 64 then _ else _) = _
  rw [if_pos h]
theorem cb_abs_int {m : Bool} {i : Int} {S : Store} : callB .abs m [.int i] S = .ok (.int (if i < 0 then -i else i)) S := rfl
theorem cb_int_bl {m b : Bool} {S : Store} : callB .int m [.bl b] S = .ok (.int (if b then 1 else 0)) S := rfl
theorem bi_tup {m : Bool} {a b : List PV} {S : Store} : binop m .add (.tup a) (.tup b) S = newTup (a ++ b) S := rfl
theorem newTup_ok {l : List PV} {S : Store} (h : l.length ≤ sizeL) : newTup l S = .ok (.tup l) S := by
  unfold newTup
  rw [if_pos h]
theorem isi_non {P : Prog} {ts : List Ty} {S : Store} : isiV P ts .non S = .ok (.bl (ts.any (hasTy P S .non))) S := rfl
theorem isi_bl {P : Prog} {ts : List Ty} {S : Store} {b : Bool} : isiV P ts (.bl b) S = .ok (.bl (ts.any (hasTy P S (.bl b)))) S := rfl
theorem isi_int {P : Prog} {ts : List Ty} {S : Store} {i : Int} : isiV P ts (.int i) S = .ok (.bl (ts.any (hasTy P S (.int i)))) S := rfl
theorem isi_str {P : Prog} {ts : List Ty} {S : Store} {s : List Nat} : isiV P ts (.str s) S = .ok (.bl (ts.any (hasTy P S (.str s)))) S := rfl
theorem isi_tup {P : Prog} {ts : List Ty} {S : Store} {l : List PV} : isiV P ts (.tup l) S = .ok (.bl (ts.any (hasTy P S (.tup l)))) S := rfl
theorem isi_fl {P : Prog} {ts : List Ty} {S : Store} {l : List PV} : isiV P ts (.fl l) S = .ok (.bl (ts.any (hasTy P S (.fl l)))) S := rfl
theorem isi_exc {P : Prog} {ts : List Ty} {S : Store} {c : Nat} {l : List PV} (h : (ts.all isOwnT && P.base c != 0) = true) : isiV P ts (.exc c l) S = .ok (.bl (ts.any (hasTy P S (.exc c l)))) S := if_pos h
theorem cmp_lt {i j : Int} {S : Store} : cmpV .lt (.int i) (.int j) S = .ok (decide (i < j)) S := rfl
theorem cmp_gt {i j : Int} {S : Store} : cmpV .gt (.int i) (.int j) S = .ok (decide (j < i)) S := rfl
theorem cmp_le {i j : Int} {S : Store} : cmpV .le (.int i) (.int j) S = .ok (decide (i ≤ j)) S := rfl
theorem cmp_ge {i j : Int} {S : Store} : cmpV .ge (.int i) (.int j) S = .ok (decide (j ≤ i)) S := rfl
theorem cmp_eq {i j : Int} {S : Store} : cmpV .eq (.int i) (.int j) S = .ok (i == j) S := rfl
theorem wp_evB {r : R PV} {Q : Bool → Store → Prop} : wp (evB r) Q = wp r fun v S => wp (lift (truthy S v) S) Q := wp_bind
theorem tr_bl {b : Bool} {S : Store} {Q : Bool → Store → Prop} : wp (lift (truthy S (.bl b)) S) Q = Q b S := wp_ok
theorem evB_wbl {b : Bool} {S : Store} : evB (.ok (.bl b) S) = .ok b S := rfl
/-- a for's ends -/
def endsF (I : Env → Store → Prop) (Q : Fl → Store → Prop) : Fl → Store → Prop
  | .nx e, S => I e S
  | .ct e, S => I e S
  | .bk e, S => Q (.nx e) S
  | .rt v, S => Q (.rt v) S
theorem wp_for {w : Store → Bool} {body : PV → Env → Store → R Fl} {Q : Fl → Store → Prop} : ∀ {xs : List PV} {env : Env} {S : Store} (I : Nat → Env → Store → Prop),
    I 0 env S → (∀ i x env S, xs[i]? = some x → I i env S → w S = true ∧ wp (body x env S) (endsF (I (i + 1)) Q)) → (∀ env S, I xs.length env S → w S = true ∧ Q (.nx env) S) → wp (forL w body xs env S) Q
  | [], env, S, I, h0, hs, hd => by
    obtain ⟨h1, h2⟩ := hd env S h0
    simp only [forL, h1, if_true]
    exact wp_val h2
  | x :: xs, env, S, I, h0, hs, hd => by
    obtain ⟨h1, h2⟩ := hs 0 x env S rfl h0
    obtain ⟨f, S', e, h3⟩ := wp_eq h2
    simp only [forL, h1, if_true, e]
    have rec_ : ∀ env', I 1 env' S' → wp (forL w body xs env' S') Q := fun env' h => wp_for (fun i => I (i + 1)) h (fun i y env S hy => hs (i + 1) y env S (by simpa using hy)) (fun env S h => hd env S h)
    cases f with
    | nx e => exact rec_ _ h3
    | ct e => exact rec_ _ h3
    | bk e => exact wp_val h3
    | rt v => exact wp_val h3
theorem wp_comp {w : Store → Bool} {body : PV → Store → R (List PV)} {Q : List PV → Store → Prop} : ∀ {xs : List PV} {S : Store} (I : Nat → List PV → Store → Prop),
    I 0 [] S → (∀ i x acc S, xs[i]? = some x → I i acc S → w S = true ∧ wp (body x S) fun a S' => I (i + 1) (acc ++ a) S') → (∀ acc S, I xs.length acc S → w S = true ∧ Q acc S) → wp (compL w body xs S) Q
  | [], S, I, h0, hs, hd => by
    obtain ⟨h1, h2⟩ := hd [] S h0
    simp only [compL, h1, if_true]
    exact wp_val h2
  | x :: xs, S, I, h0, hs, hd => by
    obtain ⟨h1, h2⟩ := hs 0 x [] S rfl h0
    obtain ⟨a, S', e, h3⟩ := wp_eq h2
    simp only [compL, h1, if_true, e, R.bind]
    have q : wp (compL w body xs S') fun r S => Q (a ++ r) S := by
      refine wp_comp (fun i acc S => I (i + 1) (a ++ acc) S) (by simpa using h3) (fun i y acc S hy h => ?_) (fun acc S h => hd _ _ h)
      obtain ⟨k1, k2⟩ := hs (i + 1) y (a ++ acc) S (by simpa using hy) h
      exact ⟨k1, by simpa only [List.append_assoc] using k2⟩
    obtain ⟨r, S'', e2, h4⟩ := wp_eq q
    simp only [e2]
    exact wp_val h4
theorem wp_noEx {α : Type} {r : R α} {Q : α → Store → Prop} (h : wp r Q) : wp (noEx r) Q := by
  cases r with
  | ok a S => exact h
  | _ => obtain ⟨b, T, e, q⟩ := h.ex; cases e
/-! ### behind a call -/
/-- plain data of depth at most k -/
def plain : Nat → PV → Bool
  | 0, _ => false
  | k + 1, .tup l => l.all (plain k)
  | k + 1, .fl l => l.all (plain k)
  | _ + 1, .loc _ => false
  | _ + 1, .scr _ => false
  | _ + 1, .exc .. => false
  | _ + 1, _ => true
theorem mapM_self {f : PV → Option PV} : ∀ {l : List PV}, (∀ x ∈ l, f x = some x) → l.mapM f = some l
  | [], _ => rfl
  | x :: l, h => by
    rw [List.mapM_cons, h x (List.mem_cons_self ..), mapM_self fun y hy => h y (List.mem_cons_of_mem _ hy)]
    rfl
theorem frz_plain {S : Store} {n : Nat} : ∀ {k : Nat} {v : PV}, plain k v = true → frz S n k v = some v
  | 0, v, h => by cases h
  | k + 1, v, h => by
    cases v with
    | tup l =>
      simp only [plain, List.all_eq_true] at h
      simp only [frz, mapM_self fun x hx => frz_plain (h x hx)]
      rfl
    | fl l =>
      simp only [plain, List.all_eq_true] at h
      simp only [frz, mapM_self fun x hx => frz_plain (h x hx)]
      rfl
    | loc i => cases h
    | scr l => cases h
    | exc c l => cases h
    | _ => rfl
theorem frzOld_same {S1 : Store} {n : Nat} : ∀ {S E : Store}, frzOld S1 n S (S ++ E) = some S
  | [], E => by cases E <;> rfl
  | a :: S, E => by
    simp only [List.cons_append, frzOld, if_true, frzOld_same (S := S) (E := E)]
    rfl
/-- the store but one list of ints at place n -/
theorem frzOld_box {S1 : Store} {m : Nat} {b b' : List PV} (hb : ∀ x ∈ b', plain depthL x = true) : ∀ {S E : Store}, frzOld S1 m (S ++ [.lst b]) (S ++ [.lst b'] ++ E) = some (S ++ [.lst b'])
  | [], E => by
    simp only [List.nil_append, List.cons_append, frzOld]
    split
    · rename_i h
      cases E <;> simp [frzOld, h]
    · simp only [frzCell, mapM_self fun x hx => frz_plain (hb x hx)]
      cases E <;> rfl
  | a :: S, E => by
    have q := frzOld_box (S1 := S1) (m := m) (b := b) hb (S := S) (E := E)
    simp only [List.cons_append, frzOld, if_true]
    rw [q]
    rfl
theorem gc_same {S E : Store} {v : PV} {Q : PV → Store → Prop} (hv : plain depthL v = true) (h : Q v S) : wp (gcR 1 S (S ++ E) v) Q := by
  simp only [gcR, frzOld_same, frz_plain hv]
  exact wp_val h
theorem gc_same0 {S : Store} {v : PV} {Q : PV → Store → Prop} (hv : plain depthL v = true) (h : Q v S) : wp (gcR 1 S S v) Q := by
  have q := gc_same (E := []) (Q := Q) hv h
  rwa [List.append_nil] at q
theorem gc_box {S E : Store} {b b' : List PV} {v : PV} {Q : PV → Store → Prop} (hb : ∀ x ∈ b', plain depthL x = true) (hv : plain depthL v = true) (h : Q v (S ++ [.lst b'])) : wp (gcR 1 (S ++ [.lst b]) (S ++ [.lst b'] ++ E) v) Q := by
  simp only [gcR, frzOld_box hb, frz_plain hv]
  exact wp_val h
theorem frzOld_set {S1 : Store} {m : Nat} {b' : List PV} (hb : ∀ x ∈ b', plain depthL x = true) : ∀ {S E : Store} {n : Nat}, frzOld S1 m S (S.set n (.lst b') ++ E) = some (S.set n (.lst b'))
  | [], E, n => by cases E <;> rfl
  | a :: S, E, 0 => by
    simp only [List.set_cons_zero, List.cons_append, frzOld, frzOld_same (S := S) (E := E)]
    split
    · rfl
    · simp only [frzCell, mapM_self fun x hx => frz_plain (hb x hx)]
      rfl
  | a :: S, E, n + 1 => by
    simp only [List.set_cons_succ, List.cons_append, frzOld, if_true, frzOld_set hb (S := S) (E := E) (n := n)]
    rfl
theorem gc_set {S E : Store} {n : Nat} {b' : List PV} {v : PV} {Q : PV → Store → Prop} (hb : ∀ x ∈ b', plain depthL x = true) (hv : plain depthL v = true) (h : Q v (S.set n (.lst b'))) : wp (gcR 1 S (S.set n (.lst b') ++ E) v) Q := by
  simp only [gcR, frzOld_set hb, frz_plain hv]
  exact wp_val h
theorem gc_set0 {S : Store} {n : Nat} {b' : List PV} {v : PV} {Q : PV → Store → Prop} (hb : ∀ x ∈ b', plain depthL x = true) (hv : plain depthL v = true) (h : Q v (S.set n (.lst b'))) : wp (gcR 1 S (S.set n (.lst b')) v) Q := by
  have q := gc_set (E := []) (Q := Q) hb hv h
  rwa [List.append_nil] at q
/-- a call -/
theorem wp_call {P : Prog} {n f : Nat} {d : Def} {args : List PV} {S : Store} {Q : PV → Store → Prop} (hf : P.fn f = some d) (hl : args.length = d.np)
    (h : wp (exL P (callN P n) d.body (args.map some ++ List.replicate (d.ns - d.np) none) S) fun fl S1 => match fl with
      | .rt v => wp (gcR d.gc S S1 v) Q
      | .nx _ => wp (gcR d.gc S S1 .non) Q
      | _ => False) : wp (callN P (n + 1) f args S) Q := by
  obtain ⟨fl, S1, e, h⟩ := wp_eq h
  simp only [callN, hf, hl, if_true, runDef, e]
  cases fl with
  | rt v => exact h
  | nx e => exact h
  | bk e => exact h.elim
  | ct e => exact h.elim
/-- a block: one statement, then the rest -/
def seqF (I : Env → Store → Prop) (Q : Fl → Store → Prop) : Fl → Store → Prop
  | .nx e, S => I e S
  | f, S => Q f S
theorem wp_cons {P : Prog} {C : Nat → List PV → Store → R PV} {s : MS} {r : List MS} {env : Env} {S : Store} {Q : Fl → Store → Prop} (h : wp (exS P C s env S) (seqF (fun env S => wp (exL P C r env S) Q) Q)) : wp (exL P C (s :: r) env S) Q := by
  obtain ⟨f, S', e, h⟩ := wp_eq h
  simp only [exL, e, R.bind]
  cases f with
  | nx e => exact h
  | rt v => exact wp_val h
  | bk e => exact wp_val h
  | ct e => exact wp_val h
theorem wp_nil {P : Prog} {C : Nat → List PV → Store → R PV} {env : Env} {S : Store} {Q : Fl → Store → Prop} (h : Q (.nx env) S) : wp (exL P C [] env S) Q := by
  simp only [exL]
  exact wp_val h
theorem wp_mk {l : List PV} {S : Store} {Q : PV → Store → Prop} (hl : l.length ≤ sizeL) (h : Q (.loc S.length) (S ++ [.lst l])) : wp (newList true l S) Q := by
  unfold newList
  rw [if_pos hl, if_pos rfl]
  exact wp_val h
theorem wp_fl {l : List PV} {S : Store} {Q : PV → Store → Prop} (hl : l.length ≤ sizeL) (h : Q (.fl l) S) : wp (newList false l S) Q := by
  unfold newList
  rw [if_pos hl, if_neg Bool.false_ne_true]
  exact wp_val h
theorem wp_rng1 {j : Nat} {S : Store} {Q : Its → Store → Prop} (hj : j < 1073741824) (h : Q ⟨rangeL 0 j, []⟩ S) : wp (rangeIts [.int (j : Int)] S) Q := by
  have hb : bnd62 (j : Int) = true := by unfold bnd62; simp; omega
  simp only [rangeIts, hb, if_true, Int.toNat_natCast]
  exact wp_val h
theorem wp_rngZ {z : Int} {S : Store} {Q : Its → Store → Prop} (h0 : 0 ≤ z) (h1 : z < 1073741824) (h : Q ⟨rangeL 0 z.toNat, []⟩ S) : wp (rangeIts [.int z] S) Q := by
  have hb : bnd62 z = true := by unfold bnd62; simp; omega
  simp only [rangeIts, hb, if_true]
  exact wp_val h
theorem range_at {lo : Int} {n i : Nat} {p : PV} (h : (rangeL lo n)[i]? = some p) : i < n ∧ p = .int (lo + (i : Int)) := by
  unfold rangeL at h
  rw [List.getElem?_map] at h
  by_cases hi : i < n
  · rw [List.getElem?_range hi] at h
    exact ⟨hi, (Option.some.inj h).symm⟩
  · rw [List.getElem?_eq_none (by simpa using hi)] at h
    cases h
theorem range_len {lo : Int} {n : Nat} : (rangeL lo n).length = n := by simp [rangeL]
end G

namespace LC
open G
abbrev d7 := Pk70.d7
/-- the box: three ints -/
def box (a b c : Int) : Cell := .lst [.int a, .int b, .int c]
theorem box_plain {a b c : Int} : ∀ x ∈ [PV.int a, .int b, .int c], plain depthL x = true := fun x hx => by
  simp at hx
  rcases hx with rfl | rfl | rfl <;> rfl
theorem mulOk_l {i j : Int} (h : i.natAbs < 2 ^ 64) : mulOk i j = true := by
  unfold mulOk
  simp [h]
theorem mod_abs {i m : Int} (h0 : 0 < m) (hm : m ≤ 2 ^ 64) : (i % m).natAbs < 2 ^ 64 := by
  have h1 := Int.emod_nonneg i (show m ≠ 0 by omega)
  have h2 := Int.emod_lt_of_pos i h0
  omega
theorem take_ok {P : Prog} (h7 : P.fn 7 = some d7) {k n : Nat} {S : Store} {a b c m : Int} (hS : S[n]? = some (box a b c)) (hm : 0 < m) (hm2 : m < 1073741824)
    {Q : PV → Store → Prop} (q : ∀ r a' b' c', 0 ≤ r → r < m → Q (.int r) (S.set n (box a' b' c'))) : wp (callN P (k + 1) 7 [.loc n, .int m] S) Q := by
  have hn : n < S.length := (List.getElem?_eq_some_iff.mp hS).1
  refine wp_call h7 rfl ?_
  unfold box at hS
  have hm0 : m ≠ 0 := by omega
  by_cases ha : 0 < a
  · simp [d7, Pk70.d7, Pk70.s7_0_0, Pk70.s7_0_1, Pk70.s7_0_2, Pk70.s7_0, Pk70.s7_1, Pk70.s7_2, Pk70.s7_3, Pk70.s7_4, Pk70.s7_5, exL, exS, ev, evB, getVar, getIx, hS, lift, R.bind, cmpV, cmpop, numCmp, truthy, binop, asgT, setIx, ixN, G.atI, ha, hm, hm2]
    refine wp_val (gc_set0 box_plain rfl (q _ _ _ _ (Int.emod_nonneg _ hm0) (Int.emod_lt_of_pos _ hm)))
  · have hs : ∀ x : Cell, (S.set n x)[n]? = some x := fun x => List.getElem?_set_self hn
    have e1 : mulOk 1442695040888963407 (c + 1) = true := mulOk_l (by decide)
    have e2 : ∀ x y : Int, mulOk (x % 2305843009213693951) y = true := fun x y => mulOk_l (mod_abs (by decide) (by decide))
    have e3 : ∀ x y : Int, mulOk (x % 2305843009213693921) y = true := fun x y => mulOk_l (mod_abs (by decide) (by decide))
    have e4 : mulOk 39373 (c + 1) = true := mulOk_l (by decide)
    simp [d7, Pk70.d7, Pk70.s7_0_0, Pk70.s7_0_1, Pk70.s7_0_2, Pk70.s7_0, Pk70.s7_1, Pk70.s7_2, Pk70.s7_3, Pk70.s7_4, Pk70.s7_5, exL, exS, ev, evB, getVar, getIx, hS, hs, lift, R.bind, cmpV, cmpop, numCmp, truthy, binop, asgT, setIx, ixN, G.atI, ha, hm, hm2, e1, e2, e3, e4]
    refine wp_val (gc_set0 box_plain rfl (q _ _ _ _ (Int.emod_nonneg _ hm0) (Int.emod_lt_of_pos _ hm)))
end LC

namespace LC
open G
abbrev d10 := Pk70.d10
abbrev d12 := Pk70.d12
theorem atI_nat {α : Type} {l : List α} {r : Int} (h0 : 0 ≤ r) (h1 : r < l.length) : ∃ x, G.atI l r = some x ∧ l[r.toNat]? = some x := by
  have h : r.toNat < l.length := by omega
  refine ⟨l[r.toNat], ?_, by simp [h]⟩
  unfold G.atI ixN
  rw [if_pos h0, if_pos h1]
  simp [h]
theorem set_self {S : Store} {n : Nat} {x : Cell} (hn : n < S.length) : (S.set n x)[n]? = some x := List.getElem?_set_self hn
/-- a drawn member of a plain list -/
theorem of_ok {P : Prog} (h7 : P.fn 7 = some d7) (h10 : P.fn 10 = some d10) {k n : Nat} {S : Store} {a b c : Int} {l : List PV} (hS : S[n]? = some (box a b c)) (hl : 0 < l.length) (hl2 : l.length < 1073741824) (hp : ∀ x ∈ l, plain depthL x = true)
    {Q : PV → Store → Prop} (q : ∀ v a' b' c', v ∈ l → Q v (S.set n (box a' b' c'))) : wp (callN P (k + 2) 10 [.loc n, .fl l] S) Q := by
  refine wp_call h10 rfl ?_
  simp [d10, Pk70.d10, Pk70.s10_0, exL, exS, ev, evL, getVar, permArgs, wp_bind, wp_ok, ok_bind, cb_len_fl]
  refine take_ok (m := l.length) h7 hS (by omega) (by omega) fun r a' b' c' h0 h1 => ?_
  obtain ⟨x, hx, hx2⟩ := atI_nat (l := l) h0 h1
  have hm := List.mem_of_getElem? hx2
  simp only [getIx, hx, lift, wp_ok]
  exact gc_set0 box_plain (hp x hm) (q _ _ _ _ hm)
theorem word_ok {P : Prog} (h7 : P.fn 7 = some d7) (h12 : P.fn 12 = some d12) {k n : Nat} {S : Store} {a b c : Int} (hS : S[n]? = some (box a b c))
    {Q : PV → Store → Prop} (q : ∀ w a' b' c', Q (.str w) (S.set n (box a' b' c'))) : wp (callN P (k + 2) 12 [.loc n] S) Q := by
  refine wp_call h12 rfl ?_
  simp [d12, Pk70.d12, Pk70.s12_0, exL, exS, ev, evL, getVar, permArgs, wp_bind, wp_ok, ok_bind, newList, sizeL]
  refine take_ok (m := 8) h7 hS (by decide) (by decide) fun r a' b' c' h0 h1 => ?_
  obtain ⟨x, hx, hx2⟩ := atI_nat (l := [PV.str [97], .str [98], .str [97], .str [98], .str [97, 98], .str [98, 97], .str [99], .str [122, 122, 122, 122, 122, 122]]) h0 h1
  have hm := List.mem_of_getElem? hx2
  simp only [getIx, hx, lift, wp_ok]
  have hw : ∃ w, x = .str w := by
    simp at hm
    rcases hm with h | h | h | h | h | h | h | h <;> exact ⟨_, h⟩
  obtain ⟨w, rfl⟩ := hw
  exact gc_set0 box_plain rfl (q _ _ _ _)
end LC

namespace LC
open G
abbrev d13 := Pk70.d13
/-- a heap, a room -/
abbrev Heap := List (Nat × List Nat)
abbrev Room := List Heap
def encP (p : Nat × List Nat) : PV := .tup [.int p.1, .str p.2]
def encH (h : Heap) : PV := .tup (h.map encP)
def encR (r : Room) : PV := .tup (r.map encH)
/-- each grudge is against another bird of the room -/
def Good (r : Room) : Prop := ∀ (i : Nat) (h : Heap), r[i]? = some h → ∀ p : Nat × List Nat, p ∈ h → p.1 < r.length ∧ p.1 ≠ i
def size (r : Room) : Nat := (r.map List.length).sum
theorem plainP {k : Nat} {p : Nat × List Nat} : plain (k + 2) (encP p) = true := by simp [plain, encP]
theorem plainH {k : Nat} {h : Heap} : plain (k + 3) (encH h) = true := by
  simp only [plain, encH, List.all_eq_true, List.mem_map]
  rintro x ⟨p, _, rfl⟩
  exact plainP
theorem plainR {k : Nat} {r : Room} : plain (k + 4) (encR r) = true := by
  simp only [plain, encR, List.all_eq_true, List.mem_map]
  rintro x ⟨p, _, rfl⟩
  exact plainH
theorem good_add {r : Room} {i w : Nat} {h : Heap} {t : List Nat} (g : Good r) (hi : r[i]? = some h) (hw : w < r.length) (hne : w ≠ i) : Good (r.set i (h ++ [(w, t)])) := by
  intro j h' hj p hp
  rw [List.length_set]
  by_cases e : i = j
  · subst e
    have hl := (List.getElem?_eq_some_iff.mp hi).1
    rw [List.getElem?_set_self hl] at hj
    cases hj
    rcases List.mem_append.mp hp with hp | hp
    · exact g i h hi p hp
    · rw [List.mem_singleton.mp hp]; exact ⟨hw, hne⟩
  · rw [List.getElem?_set_ne e] at hj
    exact g j h' hj p hp
theorem size_add : ∀ {r : Room} {i : Nat} {h h' : Heap}, r[i]? = some h → size (r.set i h') + h.length = size r + h'.length
  | [], i, h, h', hi => by simp at hi
  | a :: r, 0, h, h', hi => by
    simp at hi
    subst hi
    simp [size]
    omega
  | a :: r, i + 1, h, h', hi => by
    have q := size_add (r := r) (i := i) (h := h) (h' := h') (by simpa using hi)
    simp [size] at q ⊢
    omega
theorem len_le : ∀ {r : Room} {i : Nat} {h : Heap}, r[i]? = some h → h.length ≤ size r
  | [], i, h, hi => by simp at hi
  | a :: r, 0, h, hi => by
    simp at hi
    subst hi
    simp [size]
  | a :: r, i + 1, h, hi => by
    have q := len_le (r := r) (i := i) (h := h) (by simpa using hi)
    simp [size] at q ⊢
    omega
theorem set_app {S E : Store} {n : Nat} {x : Cell} (hn : n < S.length) : (S ++ E).set n x = S.set n x ++ E := by
  rw [List.set_append, if_pos hn]
theorem get_app {S E : Store} {n : Nat} (hn : n < S.length) : (S ++ E)[n]? = S[n]? := List.getElem?_append_left hn
theorem get_last {S : Store} {x : Cell} : (S ++ [x])[S.length]? = some x := by simp
theorem set_last {S : Store} {x y : Cell} : (S ++ [x]).set S.length y = S ++ [y] := by simp
theorem wp_run {P : Prog} {n f : Nat} {d : Def} {args : List PV} {S : Store} {Q : PV → Store → Prop} (hf : P.fn f = some d) (hl : args.length = d.np) (body : List MS) (g : Nat) (env : Env) (hb : d.body = body) (hg : d.gc = g) (he : args.map some ++ List.replicate (d.ns - d.np) none = env)
    (h : wp (exL P (callN P n) body env S) fun fl S1 => match fl with
      | .rt v => wp (gcR g S S1 v) Q
      | .nx _ => wp (gcR g S S1 .non) Q
      | _ => False) : wp (callN P (n + 1) f args S) Q := by
  subst hb hg he
  exact wp_call hf hl h
def roomI (S : Store) (n : Nat) (birds most z : Int) (i : Nat) (env : Env) (S' : Store) : Prop := ∃ (x5 x6 x7 : Option PV) (r : Room) (a b c : Int), env = [some (PV.loc n), some (PV.int birds), some (PV.int most), some (PV.int z), some (PV.loc S.length), x5, x6, x7] ∧ S' = S.set n (box a b c) ++ [.lst (r.map encH)] ∧ r.length = z.toNat ∧ Good r ∧ size r ≤ i
def roomF (S : Store) (n : Nat) (birds most z : Int) (t : Nat) (f : Fl) (S' : Store) : Prop := ∃ env, f = .nx env ∧ roomI S n birds most z t env S'
theorem atI_int {α : Type} {l : List α} {r : Int} {x : α} (h0 : 0 ≤ r) (h : l[r.toNat]? = some x) : G.atI l r = some x := by
  have hl := (List.getElem?_eq_some_iff.mp h).1
  unfold G.atI ixN
  rw [if_pos h0, if_pos (by omega)]
  exact h
theorem ixN_int {k : Nat} {r : Int} (h0 : 0 ≤ r) (h1 : r < k) : G.ixN k r = some r.toNat := by
  unfold ixN
  rw [if_pos h0, if_pos h1]
theorem room_ok {P : Prog} (h7 : P.fn 7 = some d7) (h12 : P.fn 12 = some d12) (h13 : P.fn 13 = some d13) {k n : Nat} {S : Store} {a b c birds most : Int} (hS : S[n]? = some (box a b c)) (hb : 0 < birds) (hb2 : birds < 1000) (hm : 0 ≤ most) (hm2 : most < 1000)
    {Q : PV → Store → Prop} (q : ∀ (r : Room) a' b' c', Good r → 0 < r.length → (r.length : Int) ≤ birds → (size r : Int) ≤ most → Q (encR r) (S.set n (box a' b' c'))) : wp (callN P (k + 3) 13 [.loc n, .int birds, .int most] S) Q := by
  have hn : n < S.length := (List.getElem?_eq_some_iff.mp hS).1
  refine wp_run h13 rfl [Pk70.s13_0, Pk70.s13_1, Pk70.s13_2, Pk70.s13_3] 1 [some (.loc n), some (.int birds), some (.int most), none, none, none, none, none] rfl rfl rfl ?_
  refine wp_cons ?_
  simp [Pk70.s13_0, exS, ev, evL, asgT, getVar, permArgs, wp_bind, wp_ok, ok_bind]
  refine take_ok (m := birds) h7 hS hb (by omega) fun many0 a1 b1 c1 h0 h1 => ?_
  rw [bi_add]
  generalize hz : 1 + many0 = z
  simp only [wp_ok, seqF]
  refine wp_cons ?_
  simp [Pk70.s13_1, exS, ev, evL, evI, asgT, getVar, wp_bind, wp_ok, ok_bind]
  refine wp_rngZ (by omega) (by omega) ?_
  refine wp_comp (fun i acc S' => i ≤ z.toNat ∧ acc = List.replicate i (.tup []) ∧ S' = S.set n (box a1 b1 c1)) ⟨Nat.zero_le _, rfl, rfl⟩ ?_ ?_
  · rintro i x acc S' hx ⟨hi, rfl, rfl⟩
    obtain ⟨hlt, rfl⟩ := range_at hx
    refine ⟨rfl, wp_noEx ?_⟩
    simp [evAnd, evB, wp_bind, wp_ok, ok_bind, newTup, lift, truthy, List.replicate_succ', hlt]
    omega
  · rintro acc S' ⟨hi, rfl, rfl⟩
    refine ⟨rfl, ?_⟩
    rw [range_len]
    refine wp_mk (by rw [List.length_replicate]; unfold sizeL; omega) ?_
    simp only [seqF, List.length_set]
    -- the turns
    have turns : ∀ (env : Env) (a1 b1 c1 : Int) (t : Nat), (t : Int) ≤ most → (0 < t → 1 < z) → env = [some (PV.loc n), some (PV.int birds), some (PV.int most), some (PV.int z), some (PV.loc S.length), none, none, none] →
        wp (forL (fun _ => true) (fun x env S => (asgT P (callN P (k + 2)) (.nm 6) x env S).bind fun env S => exL P (callN P (k + 2)) [Pk70.s13_2_0, Pk70.s13_2_1, Pk70.s13_2_2] env S) (rangeL 0 t) env (S.set n (box a1 b1 c1) ++ [Cell.lst (List.replicate z.toNat (PV.tup []))]))
          (roomF S n birds most z t) := by
      intro env a1 b1 c1 t ht htz henv
      refine wp_for (roomI S n birds most z) ?_ ?_ ?_
      · refine ⟨none, none, none, List.replicate z.toNat [], a1, b1, c1, henv, ?_, by simp, fun i h hi p hp => ?_, ?_⟩
        · rw [List.map_replicate]; rfl
        · rw [List.getElem?_replicate] at hi
          split at hi
          · cases hi; cases hp
          · cases hi
        · simp [size]
      · rintro i x env S' hx ⟨x5, x6, x7, r, a2, b2, c2, rfl, rfl, hl, hg, hsz⟩
        obtain ⟨hlt, rfl⟩ := range_at hx
        rw [range_len] at *
        refine ⟨rfl, ?_⟩
        have hz1 : 1 < z := htz (by omega)
        have hbox : ∀ a b c : Int, (S.set n (box a b c) ++ [Cell.lst (r.map encH)])[n]? = some (box a b c) := fun a b c => by
          rw [get_app (by simpa using hn)]
          exact set_self hn
        simp only [asgT, ok_bind, List.set_cons_succ, List.set_cons_zero]
        refine wp_cons ?_
        simp [Pk70.s13_2_0, exS, ev, evL, asgT, getVar, permArgs, wp_bind, wp_ok, ok_bind]
        refine take_ok (m := z) h7 (hbox _ _ _) (by omega) (by omega) fun bird a3 b3 c3 g0 g1 => ?_
        rw [set_app (by simpa using hn), List.set_set]
        simp only [seqF]
        refine wp_cons ?_
        simp [Pk70.s13_2_1, exS, ev, evL, asgT, getVar, permArgs, wp_bind, wp_ok, ok_bind, bi_add, bi_sub]
        refine take_ok (m := z - 1) h7 (hbox _ _ _) (by omega) (by omega) fun off a4 b4 c4 o0 o1 => ?_
        rw [set_app (by simpa using hn), List.set_set, bi_add]
        simp only [wp_ok]
        rw [bi_mod (by omega)]
        simp only [wp_ok, seqF]
        refine wp_cons ?_
        have hbl : bird.toNat < r.length := by omega
        obtain ⟨h, hh⟩ : ∃ h, r[bird.toNat]? = some h := ⟨r[bird.toNat], by simp [hbl]⟩
        have hh2 : (r.map encH)[bird.toNat]? = some (encH h) := by rw [List.getElem?_map, hh]; rfl
        have hget : ∀ a b c : Int, getIx (.loc S.length) (.int bird) (S.set n (box a b c) ++ [Cell.lst (r.map encH)]) = .ok (encH h) (S.set n (box a b c) ++ [Cell.lst (r.map encH)]) := fun a b c => by
          have e : (S.set n (box a b c) ++ [Cell.lst (r.map encH)])[S.length]? = some (Cell.lst (r.map encH)) := by simp
          simp only [getIx, e, atI_int g0 hh2, lift]
        simp [Pk70.s13_2_2, exS, ev, evL, asgT, getVar, permArgs, wp_bind, wp_ok, ok_bind, hget]
        refine word_ok h7 h12 (hbox _ _ _) fun w a5 b5 c5 => ?_
        rw [set_app (by simpa using hn), List.set_set]
        rw [newTup_ok (by simp [sizeL])]
        simp only [wp_ok]
        rw [newTup_ok (by simp [sizeL])]
        simp only [wp_ok]
        have hle := len_le hh
        rw [show encH h = PV.tup (h.map encP) from rfl, bi_tup, newTup_ok (by simp [sizeL]; omega)]
        simp only [wp_ok]
        have hset : setIx (.loc S.length) (.int bird) (.tup (h.map encP ++ [PV.tup [.int ((bird + 1 + off) % z), .str w]])) (S.set n (box a5 b5 c5) ++ [Cell.lst (r.map encH)]) =
            .ok () (S.set n (box a5 b5 c5) ++ [Cell.lst ((r.map encH).set bird.toNat (.tup (h.map encP ++ [PV.tup [.int ((bird + 1 + off) % z), .str w]])))]) := by
          have e : (S.set n (box a5 b5 c5) ++ [Cell.lst (r.map encH)])[S.length]? = some (Cell.lst (r.map encH)) := by simp
          have e2 : G.ixN (r.map encH).length bird = some bird.toNat := ixN_int g0 (by rw [List.length_map]; omega)
          simp only [setIx, e, e2]
          have e3 : ∀ (A : Store) (x y : Cell) (m : Nat), m = A.length → (A ++ [x]).set m y = A ++ [y] := fun A x y m h => by subst h; exact set_last
          rw [e3 _ _ _ _ (by simp)]
        rw [hset]
        simp only [wp_ok, seqF]
        refine wp_nil ?_
        have w0 : 0 ≤ (bird + 1 + off) % z := Int.emod_nonneg _ (by omega)
        have w1 : (bird + 1 + off) % z < z := Int.emod_lt_of_pos _ (by omega)
        have w2 : (bird + 1 + off) % z ≠ bird := by
          intro e
          by_cases hc : bird + 1 + off < z
          · rw [Int.emod_eq_of_lt (by omega) hc] at e; omega
          · have e2 : (bird + 1 + off) % z = bird + 1 + off - z := by
              rw [← Int.sub_emod_right, Int.emod_eq_of_lt (by omega) (by omega)]
            omega
        refine ⟨_, _, _, r.set bird.toNat (h ++ [(((bird + 1 + off) % z).toNat, w)]), a5, b5, c5, rfl, ?_, by rw [List.length_set]; exact hl, good_add hg hh (by omega) (by omega), ?_⟩
        · rw [List.map_set]
          congr 4
          simp [encH, encP, Int.toNat_of_nonneg w0]
        · have q := size_add (r := r) (h' := h ++ [(((bird + 1 + off) % z).toNat, w)]) hh
          simp at q
          omega
      · rintro env S' h
        rw [range_len] at h
        exact ⟨rfl, env, rfl, h⟩
    have fin : ∀ (t : Nat) (f : Fl) (S' : Store), (t : Int) ≤ most → roomF S n birds most z t f S' → seqF (fun env S1 => wp (exL P (callN P (k + 2)) [Pk70.s13_3] env S1) fun fl S1 => match fl with
        | Fl.rt v => wp (gcR 1 S S1 v) Q
        | Fl.nx e => wp (gcR 1 S S1 PV.non) Q
        | _ => False) (fun fl S1 => match fl with
        | Fl.rt v => wp (gcR 1 S S1 v) Q
        | Fl.nx e => wp (gcR 1 S S1 PV.non) Q
        | _ => False) f S' := by
      rintro t f S' ht ⟨env, rfl, x5, x6, x7, r, a, b, c, rfl, rfl, hl, hg, hsz⟩
      simp only [seqF]
      refine wp_cons ?_
      have e : (S.set n (box a b c) ++ [Cell.lst (r.map encH)])[S.length]? = some (Cell.lst (r.map encH)) := by simp
      have e2 : callB .tuple false [.loc S.length] (S.set n (box a b c) ++ [Cell.lst (r.map encH)]) = .ok (encR r) (S.set n (box a b c) ++ [Cell.lst (r.map encH)]) := by
        simp only [callB, seqOf, e, lift, R.bind]
        rfl
      simp [Pk70.s13_3, exS, ev, evL, getVar, wp_bind, wp_ok, ok_bind, e2, seqF]
      exact gc_set box_plain plainR (q r a b c hg (by omega) (by omega) (by omega))
    refine wp_cons ?_
    by_cases hz1 : 1 < z
    · simp [Pk70.s13_2, exS, ev, evL, evI, evB_wbl, getVar, permArgs, wp_bind, wp_ok, ok_bind, bi_add, cmp_gt, hz1]
      refine take_ok (m := most + 1) h7 (by rw [get_app (by simpa using hn)]; exact set_self hn) (by omega) (by omega) fun t a4 b4 c4 g0 g1 => ?_
      rw [set_app (by simpa using hn), List.set_set]
      refine wp_rngZ g0 (by omega) ?_
      refine wp_mono (turns _ a4 b4 c4 t.toNat (by omega) (fun _ => hz1) rfl) fun f S' h => ?_
      exact fin t.toNat f S' (by omega) h
    · simp [Pk70.s13_2, exS, ev, evL, evI, evB_wbl, getVar, permArgs, wp_bind, wp_ok, ok_bind, bi_add, cmp_gt, hz1]
      refine wp_rngZ (by omega) (by omega) ?_
      refine wp_mono (turns _ a1 b1 c1 0 (by omega) (fun h => by omega) rfl) fun f S' h => ?_
      exact fin 0 f S' (by omega) h
end LC

namespace LC
open G
abbrev d8 := Pk70.d8
theorem enum_at : ∀ {l : List PV} {k i : Nat} {p : PV}, (enumL k l)[i]? = some p → ∃ x, l[i]? = some x ∧ p = .tup [.int (k + i : Nat), x]
  | [], k, i, p, h => by simp [enumL] at h
  | x :: l, k, 0, p, h => by
    simp only [enumL, List.getElem?_cons_zero] at h
    exact ⟨x, by simp, by rw [← Option.some.inj h]; rfl⟩
  | x :: l, k, i + 1, p, h => by
    simp only [enumL, List.getElem?_cons_succ] at h
    obtain ⟨y, h1, h2⟩ := enum_at h
    refine ⟨y, by simpa using h1, ?_⟩
    have e : k + 1 + i = k + (i + 1) := by omega
    rw [h2, e]
theorem enum_len : ∀ {l : List PV} {k : Nat}, (enumL k l).length = l.length
  | [], _ => rfl
  | _ :: l, k => by simp [enumL, enum_len (l := l)]
theorem cut_map {l : List Int} {lo hi : Option Int} : cutL (l.map PV.int) lo hi = (cutL l lo hi).map PV.int := by
  unfold cutL
  rw [List.length_map, List.map_take, List.map_drop]
theorem cut_len {α : Type} (l : List α) (lo hi : Option Int) : (cutL l lo hi).length ≤ l.length := by
  unfold cutL
  rw [List.length_take, List.length_drop]
  omega
theorem ints_plain {k : Nat} {l : List Int} : plain (k + 2) (.fl (l.map .int)) = true := by
  simp [plain]
def cellsI (A : Store) (u : Int) (ns : List Int) (i : Nat) (env : Env) (S' : Store) : Prop := ∃ (x3 x4 : Option PV) (l : List Int), env = [some (.scr (ns.map .int)), some (.int u), some (.loc A.length), x3, x4] ∧ S' = A ++ [.lst (l.map .int)] ∧ 0 < l.length ∧ l.length ≤ 63 ∧ (u < ns.length → l.length = u.toNat)
theorem cells_ok {P : Prog} (h8 : P.fn 8 = some d8) {k : Nat} {S : Store} {ns : List Int} {u : Int} (hn : ns.length ≤ 63) (hu : 0 < u) (hu2 : u < 64)
    {Q : PV → Store → Prop} (q : ∀ l : List Int, 0 < l.length → l.length ≤ 63 → Q (.fl (l.map .int)) S) : wp (callN P (k + 1) 8 [.scr (ns.map .int), .int u] S) Q := by
  refine wp_call h8 rfl ?_
  simp only [d8, Pk70.d8, List.map_cons, List.map_nil, Nat.reduceSub, List.replicate_succ, List.replicate_zero, List.cons_append, List.nil_append]
  refine wp_cons ?_
  have cut1 : cutL (ns.map PV.int) none (some u) = (ns.take u.toNat).map PV.int := by
    rw [cut_map]
    congr 1
    unfold cutL sIx
    simp [show ¬ u < 0 by omega]
  have l1 : (ns.take u.toNat).length ≤ 63 := by rw [List.length_take]; omega
  have rest : ∀ (A : Store) (l : List Int), 0 < l.length → l.length ≤ 63 → (u < ns.length → l.length = u.toNat) → (∃ E, A = S ++ E) →
      wp (exL P (callN P k) [Pk70.s8_1, Pk70.s8_2] [some (.scr (ns.map .int)), some (.int u), some (.loc A.length), none, none] (A ++ [.lst (l.map .int)])) (fun fl S1 => match fl with
        | Fl.rt v => wp (gcR 1 S S1 v) Q
        | Fl.nx e => wp (gcR 1 S S1 PV.non) Q
        | _ => False) := by
    rintro A l h0 h1 h2 ⟨E, rfl⟩
    refine wp_cons ?_
    have fin : ∀ f S', (∃ env i, f = .nx env ∧ cellsI (S ++ E) u ns i env S') → seqF (fun env S1 => wp (exL P (callN P k) [Pk70.s8_2] env S1) fun fl S1 => match fl with
        | Fl.rt v => wp (gcR 1 S S1 v) Q
        | Fl.nx e => wp (gcR 1 S S1 PV.non) Q
        | _ => False) (fun fl S1 => match fl with
        | Fl.rt v => wp (gcR 1 S S1 v) Q
        | Fl.nx e => wp (gcR 1 S S1 PV.non) Q
        | _ => False) f S' := by
      rintro f S' ⟨env, i, rfl, x3, x4, l, rfl, rfl, g0, g1, g2⟩
      simp only [seqF]
      refine wp_cons ?_
      simp [Pk70.s8_2, exS, ev, getVar, wp_bind, wp_ok, ok_bind, seqF]
      have e1 : frzOld (S ++ (E ++ [Cell.lst (l.map PV.int)])) S.length S (S ++ (E ++ [Cell.lst (l.map PV.int)])) = some S := frzOld_same
      have e2 : frz (S ++ (E ++ [Cell.lst (l.map PV.int)])) S.length depthL (.loc (S.length + E.length)) = some (.fl (l.map PV.int)) := by
        have g : (S ++ (E ++ [Cell.lst (l.map PV.int)]))[S.length + E.length]? = some (Cell.lst (l.map PV.int)) := by
          rw [← List.append_assoc, ← List.length_append]
          exact get_last
        show (if S.length + E.length < S.length then _ else _) = _
        rw [if_neg (by omega)]
        simp only [g]
        rw [mapM_self]
        · rfl
        · intro x hx
          obtain ⟨j, _, rfl⟩ := List.mem_map.mp hx
          rfl
      simp only [gcR, e1, e2, wp_ok]
      exact q l g0 g1
    have cut2 : ∀ x, x ∈ cutL (ns.map PV.int) (some u) (some 63) → ∃ j : Int, x = .int j := fun x hx => by
      rw [cut_map] at hx
      obtain ⟨j, _, rfl⟩ := List.mem_map.mp hx
      exact ⟨j, rfl⟩
    have cut3 : 0 < (cutL (ns.map PV.int) (some u) (some 63)).length → u < ns.length := fun h => by
      unfold cutL sIx at h
      simp [show ¬ u < 0 by omega] at h
      omega
    have cut4 : (cutL (ns.map PV.int) (some u) (some 63)).length ≤ sizeL := by
      have := cut_len (ns.map PV.int) (some u) (some 63)
      rw [List.length_map] at this
      unfold sizeL
      omega
    simp [Pk70.s8_1, exS, ev, evI, evO, getVar, wp_bind, wp_ok, ok_bind, optI, slice]
    refine wp_fl cut4 ?_
    generalize cutL (ns.map PV.int) (some u) (some 63) = cs at cut2 cut3 cut4
    simp only [enuV, seqOf, wp_ok]
    refine wp_mono (Q := fun f S' => ∃ env i, f = .nx env ∧ cellsI (S ++ E) u ns i env S') ?_ fin
    refine wp_for (cellsI (S ++ E) u ns) ⟨none, none, l, by simp, by simp, h0, h1, h2⟩ ?_ ?_
    · rintro i x env S' hx ⟨x3, x4, l, rfl, rfl, g0, g1, g2⟩
      obtain ⟨y, hy, rfl⟩ := enum_at hx
      obtain ⟨j, rfl⟩ := cut2 y (List.mem_of_getElem? hy)
      have hcs : i < cs.length := (List.getElem?_eq_some_iff.mp hy).1
      have hlu := g2 (cut3 (by omega))
      refine ⟨rfl, ?_⟩
      generalize hki : ((0 + i : Nat) : Int) = ki
      have k0 : 0 ≤ ki := by omega
      have m0 : 0 ≤ ki % u := Int.emod_nonneg _ (by omega)
      have m1 : ki % u < u := Int.emod_lt_of_pos _ hu
      have hkl : (ki % u).toNat < l.length := by omega
      have g : ((S ++ E) ++ [Cell.lst (l.map PV.int)])[(S ++ E).length]? = some (Cell.lst (l.map PV.int)) := get_last
      have hl2 : (l.map PV.int)[(ki % u).toNat]? = some (.int l[(ki % u).toNat]) := by simp [hkl]
      have hget : getIx (.loc (S ++ E).length) (.int (ki % u)) ((S ++ E) ++ [Cell.lst (l.map PV.int)]) = .ok (.int l[(ki % u).toNat]) ((S ++ E) ++ [Cell.lst (l.map PV.int)]) := by
        simp only [getIx, g, atI_int m0 hl2, lift]
      have hset : ∀ v : Int, setIx (.loc (S ++ E).length) (.int (ki % u)) (.int v) ((S ++ E) ++ [Cell.lst (l.map PV.int)]) = .ok () ((S ++ E) ++ [Cell.lst ((l.set (ki % u).toNat v).map PV.int)]) := fun v => by
        have e2 : G.ixN (l.map PV.int).length (ki % u) = some (ki % u).toNat := ixN_int m0 (by rw [List.length_map]; omega)
        simp only [setIx, g, e2, set_last, List.map_set]
      have hmul : mulOk j (ki + 2) = true := by
        unfold mulOk
        have c4 := cut4
        unfold sizeL at c4
        have : (ki + 2).natAbs < 2 ^ 64 := by omega
        simp [this]
      generalize hA : (S ++ E) ++ [Cell.lst (l.map PV.int)] = A1 at *
      generalize hB : (S ++ E).length = B1 at *
      rw [show asgT P (callN P k) (.tup [.nm 3, .nm 4]) (.tup [.int ki, .int j]) [some (.scr (ns.map .int)), some (.int u), some (.loc B1), x3, x4] A1 = .ok [some (.scr (ns.map .int)), some (.int u), some (.loc B1), some (.int ki), some (.int j)] A1 from rfl]
      rw [ok_bind]
      refine wp_cons ?_
      simp [Pk70.s8_1_0, exS, ev, asgT, getVar, wp_bind, wp_ok, ok_bind, bi_mod hu, hget, bi_add, bi_mul hmul, hset, seqF]
      refine wp_nil ?_
      subst hB
      exact ⟨_, _, l.set (ki % u).toNat (l[(ki % u).toNat] + j * (ki + 2)), rfl, by simp [List.map_set], by rw [List.length_set]; exact g0, by rw [List.length_set]; exact g1, fun h => by rw [List.length_set]; exact g2 h⟩
    · rintro env S' h
      exact ⟨rfl, env, _, rfl, h⟩
  simp [Pk70.s8_0, exS, ev, evL, evO, asgT, getVar, wp_bind, wp_ok, ok_bind, optI, slice, cut1]
  rw [← List.map_take]
  refine wp_fl (by rw [List.length_map]; unfold sizeL; omega) ?_
  show wp (newList true ((ns.take u.toNat).map PV.int) S) _
  refine wp_mk (by rw [List.length_map]; unfold sizeL; omega) ?_
  have tr : truthy (S ++ [Cell.lst ((ns.take u.toNat).map PV.int)]) (.loc S.length) = some (!(ns.take u.toNat).isEmpty) := by
    simp only [truthy, get_last, List.isEmpty_map]
  rw [tr]
  simp only [lift, wp_ok]
  cases hb : (ns.take u.toNat).isEmpty with
  | false =>
    simp only [Bool.not_false, if_true, wp_ok, seqF]
    have hne : ns.take u.toNat ≠ [] := fun e => by rw [e] at hb; cases hb
    exact rest S (ns.take u.toNat) (List.length_pos_iff.mpr hne) l1 (fun h => by rw [List.length_take]; omega) ⟨[], by simp⟩
  | true =>
    simp only [Bool.not_true, Bool.false_eq_true, if_false]
    have he : ns = [] := by
      have e := List.isEmpty_iff.mp hb
      rcases List.take_eq_nil_iff.mp e with h | h
      · omega
      · exact h
    refine wp_mk (by decide) ?_
    simp only [seqF]
    refine rest _ [0] (by decide) (by decide) (fun h => ?_) ⟨_, rfl⟩
    subst he
    simp at h
    omega
end LC

namespace LC
open G
abbrev d6 := Pk70.d6
abbrev d37 := Pk70.d37
theorem gc_two {S : Store} {l : List PV} {Q : PV → Store → Prop} (hl : l.all (oldV S.length depthL) = true) (h : Q (.loc S.length) (S ++ [.lst l])) : wp (gcR 2 S (S ++ [.lst l]) (.loc S.length)) Q := by
  simp only [gcR]
  rw [if_pos (by simp)]
  simp only [Nat.lt_irrefl, if_false, get_last, hl, if_true]
  exact wp_val h
theorem box_ok {P : Prog} (h6 : P.fn 6 = some d6) {k : Nat} {S : Store} {l : List Int} {j : Int} (h0 : 0 ≤ j) (h1 : j < l.length) (h2 : l.length ≤ 63)
    {Q : PV → Store → Prop} (q : ∀ a b c : Int, Q (.loc S.length) (S ++ [box a b c])) : wp (callN P (k + 1) 6 [.fl (l.map .int), .int j] S) Q := by
  refine wp_call h6 rfl ?_
  simp only [d6, Pk70.d6, List.map_cons, List.map_nil, Nat.reduceSub, List.replicate_succ, List.replicate_zero, List.cons_append, List.nil_append]
  refine wp_cons ?_
  have hj : j.toNat < l.length := by omega
  have hl2 : (l.map PV.int)[j.toNat]? = some (.int l[j.toNat]) := by simp [hj]
  generalize l[j.toNat] = x at hl2
  simp [Pk70.s6_0, exS, ev, asgT, getVar, getIx, atI_int h0 hl2, lift, wp_bind, wp_ok, ok_bind]
  simp only [seqF]
  refine wp_cons ?_
  have m1 : ∀ b : Bool, mulOk (if x < 0 then -x else x) (if b then 1 else 0) = true := fun b => by
    unfold mulOk
    cases b <;> simp
  have m2 : mulOk 15485863 j = true := mulOk_l (by decide)
  generalize hx : (if x < 0 then -x else x) = y at m1
  simp [Pk70.s6_1, exS, ev, evL, getVar, wp_bind, wp_ok, ok_bind, cb_abs_int, hx, cmp_ge, bi_pow, cb_int_bl, bi_mod, bi_mul m2, bi_add]
  have m3 : mulOk y (if 1000000000000000000 ≤ y then 1 else 0) = true := by
    unfold mulOk
    split <;> simp
  rw [bi_mul m3]
  simp only [wp_ok]
  refine wp_mk (by simp [sizeL]) ?_
  simp only [seqF]
  exact gc_two (l := [.int _, .int _, .int _]) rfl (q _ _ _)
end LC

namespace LC
open G
def dozI (S : Store) (n : Nat) (i : Nat) (acc : List PV) (S' : Store) : Prop := ∃ (l : List Int) (a b c : Int), acc = l.map .int ∧ (∀ x ∈ l, 0 ≤ x ∧ x < i) ∧ l.length ≤ i ∧ S' = S.set n (box a b c)
theorem ints_all {l : List Int} : plain depthL (.fl (l.map .int)) = true := ints_plain (k := 22)
theorem doz_ok {P : Prog} (h7 : P.fn 7 = some d7) (h37 : P.fn 37 = some d37) {k n : Nat} {S : Store} {a b c z : Int} (hS : S[n]? = some (box a b c)) (hz : 0 < z) (hz2 : z < 1000)
    {Q : PV → Store → Prop} (q : ∀ (l : List Int) a' b' c', (∀ x ∈ l, 0 ≤ x ∧ x < z) → (l.length : Int) ≤ z → Q (.fl (l.map .int)) (S.set n (box a' b' c'))) : wp (callN P (k + 2) 37 [.loc n, .int z] S) Q := by
  have hn : n < S.length := (List.getElem?_eq_some_iff.mp hS).1
  refine wp_call h37 rfl ?_
  simp only [d37, Pk70.d37, List.map_cons, List.map_nil, Nat.reduceSub, List.replicate_succ, List.replicate_zero, List.cons_append, List.nil_append]
  refine wp_cons ?_
  simp [Pk70.s37_0, exS, ev, evL, asgT, getVar, permArgs, wp_bind, wp_ok, ok_bind]
  refine take_ok (m := 4) h7 hS (by decide) (by decide) fun way a1 b1 c1 g0 g1 => ?_
  simp only [seqF]
  refine wp_cons ?_
  simp [Pk70.s37_1, exS, ev, evL, evI, getVar, wp_bind, wp_ok, ok_bind]
  refine wp_rngZ (by omega) (by omega) ?_
  refine wp_comp (dozI S n) ⟨[], a1, b1, c1, rfl, by simp, Nat.zero_le _, rfl⟩ ?_ ?_
  · rintro i x acc S' hx ⟨l, a2, b2, c2, rfl, hl, hle, rfl⟩
    obtain ⟨hlt, rfl⟩ := range_at hx
    refine ⟨rfl, wp_noEx ?_⟩
    generalize hi : (0 + (i : Int)) = xi
    have stay : ∀ a b c, dozI S n (i + 1) (l.map .int ++ []) (S.set n (box a b c)) := fun a b c => ⟨l, a, b, c, by simp, fun x hx => by have := hl x hx; omega, by omega, rfl⟩
    have add : ∀ a b c, dozI S n (i + 1) (l.map .int ++ [.int xi]) (S.set n (box a b c)) := fun a b c => ⟨l ++ [xi], a, b, c, by simp, fun x hx => by
      rcases List.mem_append.mp hx with h | h
      · have := hl x h; omega
      · rw [List.mem_singleton.mp h]; omega, by simp; omega, rfl⟩
    simp only [asgT, wipeE, ok_bind, evAnd, ev, evL, getVar, List.set_cons_succ, List.set_cons_zero, List.getElem?_cons_succ, List.getElem?_cons_zero, wp_bind, wp_evB, wp_ok, cmp_gt, tr_bl, lift, truthy]
    by_cases hw : 0 < way
    · simp only [hw, decide_true, if_true, wp_bind, wp_ok]
      rw [newList, if_pos (by simp [sizeL]), if_neg Bool.false_ne_true]
      simp only [wp_ok]
      have hm : ∃ m : Int, getIx (.fl [.int 1, .int 4, .int 2, .int 3]) (.int way) (S.set n (box a2 b2 c2)) = .ok (.int m) (S.set n (box a2 b2 c2)) ∧ 0 < m ∧ m < 10 := by
        have h4 : way = 1 ∨ way = 2 ∨ way = 3 := by omega
        rcases h4 with rfl | rfl | rfl <;> exact ⟨_, rfl, by decide, by decide⟩
      obtain ⟨m, em, m0, m1⟩ := hm
      simp only [em, wp_ok, permArgs, List.map_cons, List.map_nil, List.append_nil, List.getD_cons_zero, List.getD_cons_succ]
      refine take_ok (m := m) h7 (set_self hn) m0 (by omega) fun r a3 b3 c3 r0 r1 => ?_
      rw [List.set_set]
      simp only [cmp_eq, wp_ok, truthy, lift]
      cases hr : (r == 0) with
      | true => simp only [if_true, wp_bind, wp_ok]; exact add _ _ _
      | false => simp only [Bool.false_eq_true, if_false, wp_ok]; exact stay _ _ _
    · simp only [hw, decide_false, Bool.false_eq_true, if_false, wp_ok, wp_bind, lift, truthy]
      exact stay _ _ _
  · rintro acc S' ⟨l, a2, b2, c2, rfl, hl, hle, rfl⟩
    rw [range_len] at *
    refine ⟨rfl, wp_fl (by rw [List.length_map]; unfold sizeL; omega) ?_⟩
    simp only [seqF]
    exact gc_set0 box_plain ints_all (q l a2 b2 c2 (fun x hx => by have := hl x hx; omega) (by omega))
end LC

namespace LC
open G
abbrev d38 := Pk70.d38
/-- a peck, in plain Lean: bird i hands its uppermost grudge on -/
def peck (r : Room) (i : Nat) : Room := match r[i]? with
  | some h => match h.getLast? with
    | some (w, t) => let r1 := r.set i h.dropLast
      r1.set w ((r[w]?.getD []) ++ [(i, t)])
    | none => r
  | none => r
theorem atI_last {α : Type} {l : List α} {x : α} (h : l.getLast? = some x) : G.atI l (-1) = some x := by
  have h2 : l[l.length - 1]? = some x := by rw [← List.getLast?_eq_getElem?]; exact h
  have hl : 0 < l.length := by
    cases l with
    | nil => cases h
    | cons a t => simp
  unfold G.atI ixN
  rw [if_neg (by decide), if_pos (by omega)]
  have e : ((-1 : Int) + l.length).toNat = l.length - 1 := by omega
  show l[((-1 : Int) + l.length).toNat]? = some x
  rw [e]
  exact h2
theorem cut_last {α : Type} {l : List α} : cutL l none (some (-1)) = l.dropLast := by
  unfold cutL sIx
  have e : ((-1 : Int) + l.length).toNat = l.length - 1 := by omega
  simp [e, List.dropLast_eq_take]
theorem peck_ok {P : Prog} (h38 : P.fn 38 = some d38) {k : Nat} {S : Store} {r : Room} {b : Int} {h : Heap} {w : Nat} {t : List Nat} (g : Good r) (hb : 0 ≤ b) (hh : r[b.toNat]? = some h) (hl : h.getLast? = some (w, t)) (hsz : size r < 10000)  (hlen : r.length < 10000)
    {Q : PV → Store → Prop} (q : Q (encR (peck r b.toNat)) S) : wp (callN P (k + 1) 38 [encR r, .int b] S) Q := by
  have hbl : b.toNat < r.length := (List.getElem?_eq_some_iff.mp hh).1
  have hwm : (w, t) ∈ h := List.mem_of_getLast? hl
  obtain ⟨hw, hwb⟩ := g _ h hh _ hwm
  obtain ⟨h2, hh2⟩ : ∃ h2, r[w]? = some h2 := ⟨r[w], by simp [hw]⟩
  refine wp_call h38 rfl ?_
  simp only [d38, Pk70.d38, List.map_cons, List.map_nil, Nat.reduceSub, List.replicate_succ, List.replicate_zero, List.cons_append, List.nil_append]
  have gb : ∀ S : Store, getIx (encR r) (.int b) S = .ok (encH h) S := fun S => by
    have e : (r.map encH)[b.toNat]? = some (encH h) := by rw [List.getElem?_map, hh]; rfl
    simp only [encR, getIx, atI_int hb e, lift]
  have gl : ∀ S : Store, getIx (encH h) (.int (-1)) S = .ok (.tup [.int w, .str t]) S := fun S => by
    have e : (h.map encP).getLast? = some (encP (w, t)) := by rw [List.getLast?_map, hl]; rfl
    simp only [encH, getIx, atI_last e, lift]
    rfl
  generalize hwi : (w : Int) = wi at gl
  have hwn : wi.toNat = w := by omega
  have gw : ∀ S : Store, getIx (encR r) (.int wi) S = .ok (encH h2) S := fun S => by
    have e : (r.map encH)[wi.toNat]? = some (encH h2) := by rw [List.getElem?_map, hwn, hh2]; rfl
    simp only [encR, getIx, atI_int (show 0 ≤ wi by omega) e, lift]
  refine wp_cons ?_
  simp [Pk70.s38_0, exS, ev, negV, asgT, asgTs, seqOf_tup, seqOf_fl, getVar, wp_bind, wp_ok, ok_bind, gb, gl]
  simp only [seqF]
  refine wp_cons ?_
  simp [Pk70.s38_1, exS, ev, evL, asgT, getVar, wp_bind, wp_ok, ok_bind]
  show wp (newList true (r.map encH) S) _
  refine wp_mk (by rw [List.length_map]; unfold sizeL; omega) ?_
  simp only [seqF]
  have gm : ∀ c : Cell, (S ++ [c])[S.length]? = some c := fun c => get_last
  have hsetb : ∀ (l : List PV) (i : Int) (v : PV), 0 ≤ i → i < l.length → setIx (.loc S.length) (.int i) v (S ++ [Cell.lst l]) = .ok () (S ++ [Cell.lst (l.set i.toNat v)]) := fun l i v h0 h1 => by
    simp only [setIx, gm, ixN_int h0 h1, set_last]
  have hcut : ∀ S : Store, slice false (encH h) none (some (-1)) S = .ok (encH h.dropLast) S := fun S => by
    show R.ok (PV.tup (cutL (h.map encP) none (some (-1)))) S = _
    rw [cut_last, ← List.map_dropLast]
    rfl
  refine wp_cons ?_
  simp [Pk70.s38_2, exS, ev, evO, optI, negV, asgT, getVar, wp_bind, wp_ok, ok_bind, gb, hcut]
  rw [hsetb _ _ _ hb (by rw [List.length_map]; omega)]
  simp only [wp_ok, seqF]
  refine wp_cons ?_
  have hle := len_le hh2
  simp [Pk70.s38_3, exS, ev, evL, asgT, getVar, wp_bind, wp_ok, ok_bind, gw]
  rw [newTup_ok (by simp [sizeL])]
  simp only [wp_ok]
  rw [newTup_ok (by simp [sizeL])]
  simp only [wp_ok]
  rw [show encH h2 = PV.tup (h2.map encP) from rfl, bi_tup, newTup_ok (by simp [sizeL]; omega)]
  simp only [wp_ok]
  rw [hsetb _ _ _ (show 0 ≤ wi by omega) (by simp; omega)]
  simp only [wp_ok, seqF]
  refine wp_cons ?_
  have et : ∀ l : List PV, callB .tuple false [.loc S.length] (S ++ [Cell.lst l]) = .ok (.tup l) (S ++ [Cell.lst l]) := fun l => by
    simp only [callB, seqOf, gm, lift, R.bind]
  simp [Pk70.s38_4, exS, ev, evL, getVar, wp_bind, wp_ok, ok_bind, et, seqF]
  have e : PV.tup (((r.map encH).set b.toNat (encH h.dropLast)).set wi.toNat (.tup (h2.map encP ++ [.tup [.int b, .str t]]))) = encR (peck r b.toNat) := by
    unfold peck
    rw [hh]
    simp only [hl, hh2, Option.getD_some]
    unfold encR
    rw [List.map_set, List.map_set, hwn]
    congr 3
    simp [encH, encP, Int.toNat_of_nonneg hb]
  rw [e]
  exact gc_same plainR q
abbrev d34 := Pk70.d34
theorem gone_ok {P : Prog} (h34 : P.fn 34 = some d34) {k : Nat} {S : Store} {r : Room} {b : Int} {h : Heap} {w : Nat} {t : List Nat} (g : Good r) (hb : 0 ≤ b) (hh : r[b.toNat]? = some h) (hl : h.getLast? = some (w, t)) (hsz : size r < 10000)  (hlen : r.length < 10000)
    {Q : PV → Store → Prop} (q : Q (encR (peck r b.toNat)) S) : wp (callN P (k + 1) 34 [encR r, .int b] S) Q := by
  have hbl : b.toNat < r.length := (List.getElem?_eq_some_iff.mp hh).1
  have hwm : (w, t) ∈ h := List.mem_of_getLast? hl
  obtain ⟨hw, hwb⟩ := g _ h hh _ hwm
  obtain ⟨h2, hh2⟩ : ∃ h2, r[w]? = some h2 := ⟨r[w], by simp [hw]⟩
  refine wp_call h34 rfl ?_
  simp only [d34, Pk70.d34, List.map_cons, List.map_nil, Nat.reduceSub, List.replicate_succ, List.replicate_zero, List.cons_append, List.nil_append]
  have gb : ∀ S : Store, getIx (encR r) (.int b) S = .ok (encH h) S := fun S => by
    have e : (r.map encH)[b.toNat]? = some (encH h) := by rw [List.getElem?_map, hh]; rfl
    simp only [encR, getIx, atI_int hb e, lift]
  have gl : ∀ S : Store, getIx (encH h) (.int (-1)) S = .ok (.tup [.int w, .str t]) S := fun S => by
    have e : (h.map encP).getLast? = some (encP (w, t)) := by rw [List.getLast?_map, hl]; rfl
    simp only [encH, getIx, atI_last e, lift]
    rfl
  generalize hwi : (w : Int) = wi at gl
  have hwn : wi.toNat = w := by omega
  have gw : ∀ S : Store, getIx (encR r) (.int wi) S = .ok (encH h2) S := fun S => by
    have e : (r.map encH)[wi.toNat]? = some (encH h2) := by rw [List.getElem?_map, hwn, hh2]; rfl
    simp only [encR, getIx, atI_int (show 0 ≤ wi by omega) e, lift]
  refine wp_cons ?_
  simp [Pk70.s34_0, exS, ev, negV, asgT, asgTs, seqOf_tup, seqOf_fl, getVar, wp_bind, wp_ok, ok_bind, gb, gl]
  simp only [seqF]
  refine wp_cons ?_
  simp [Pk70.s34_1, exS, ev, evL, asgT, getVar, wp_bind, wp_ok, ok_bind]
  show wp (newList true (r.map encH) S) _
  refine wp_mk (by rw [List.length_map]; unfold sizeL; omega) ?_
  simp only [seqF]
  have gm : ∀ c : Cell, (S ++ [c])[S.length]? = some c := fun c => get_last
  have hsetb : ∀ (l : List PV) (i : Int) (v : PV), 0 ≤ i → i < l.length → setIx (.loc S.length) (.int i) v (S ++ [Cell.lst l]) = .ok () (S ++ [Cell.lst (l.set i.toNat v)]) := fun l i v h0 h1 => by
    simp only [setIx, gm, ixN_int h0 h1, set_last]
  have hcut : ∀ S : Store, slice false (encH h) none (some (-1)) S = .ok (encH h.dropLast) S := fun S => by
    show R.ok (PV.tup (cutL (h.map encP) none (some (-1)))) S = _
    rw [cut_last, ← List.map_dropLast]
    rfl
  refine wp_cons ?_
  simp [Pk70.s34_2, exS, ev, evO, optI, negV, asgT, getVar, wp_bind, wp_ok, ok_bind, gb, hcut]
  rw [hsetb _ _ _ hb (by rw [List.length_map]; omega)]
  simp only [wp_ok, seqF]
  refine wp_cons ?_
  have hle := len_le hh2
  simp [Pk70.s34_3, exS, ev, evL, asgT, getVar, wp_bind, wp_ok, ok_bind, gw]
  rw [newTup_ok (by simp [sizeL])]
  simp only [wp_ok]
  rw [newTup_ok (by simp [sizeL])]
  simp only [wp_ok]
  rw [show encH h2 = PV.tup (h2.map encP) from rfl, bi_tup, newTup_ok (by simp [sizeL]; omega)]
  simp only [wp_ok]
  rw [hsetb _ _ _ (show 0 ≤ wi by omega) (by simp; omega)]
  simp only [wp_ok, seqF]
  refine wp_cons ?_
  have et : ∀ l : List PV, callB .tuple false [.loc S.length] (S ++ [Cell.lst l]) = .ok (.tup l) (S ++ [Cell.lst l]) := fun l => by
    simp only [callB, seqOf, gm, lift, R.bind]
  simp [Pk70.s34_4, exS, ev, evL, getVar, wp_bind, wp_ok, ok_bind, et, seqF]
  have e : PV.tup (((r.map encH).set b.toNat (encH h.dropLast)).set wi.toNat (.tup (h2.map encP ++ [.tup [.int b, .str t]]))) = encR (peck r b.toNat) := by
    unfold peck
    rw [hh]
    simp only [hl, hh2, Option.getD_some]
    unfold encR
    rw [List.map_set, List.map_set, hwn]
    congr 3
    simp [encH, encP, Int.toNat_of_nonneg hb]
  rw [e]
  exact gc_same plainR q
end LC

namespace LC
open G
/-- a comprehension that changes nothing -/
theorem wp_compP {w : Store → Bool} {body : PV → Store → R (List PV)} {S : Store} {Q : List PV → Store → Prop} {xs : List PV} (f : PV → List PV) (hw : w S = true) (hf : ∀ x ∈ xs, wp (body x S) fun a S' => a = f x ∧ S' = S) (q : Q (xs.flatMap f) S) : wp (compL w body xs S) Q := by
  refine wp_comp (fun i acc S' => acc = (xs.take i).flatMap f ∧ S' = S) ⟨by simp, rfl⟩ ?_ ?_
  · rintro i x acc S' hx ⟨rfl, rfl⟩
    refine ⟨hw, wp_mono (hf x (List.mem_of_getElem? hx)) fun a S' h => ?_⟩
    obtain ⟨rfl, rfl⟩ := h
    have hl := (List.getElem?_eq_some_iff.mp hx).1
    have e : xs.take (i + 1) = xs.take i ++ [x] := by
      rw [List.take_add_one, hx]
      rfl
    exact ⟨by rw [e]; simp, rfl⟩
  · rintro acc S' ⟨rfl, rfl⟩
    exact ⟨hw, by rw [List.take_length]; exact q⟩
theorem heap_ok {P : Prog} (h19 : P.fn 19 = some Pk70.d19) {k : Nat} {S : Store} {h : Heap} (hl : h.length < 10000) {Q : PV → Store → Prop} (q : Q (encH h) S) : wp (callN P (k + 1) 19 [encH h] S) Q := by
  refine wp_call h19 rfl ?_
  simp only [Pk70.d19, List.map_cons, List.map_nil, Nat.reduceSub, List.replicate_succ, List.replicate_zero, List.cons_append, List.nil_append]
  refine wp_cons ?_
  simp [Pk70.s19_0, exS, ev, evL, evI, getVar, wp_bind, wp_ok, ok_bind, encH, itemsOf]
  refine wp_compP (fun x => [x]) rfl (fun x hx => ?_) ?_
  · obtain ⟨p, _, rfl⟩ := List.mem_map.mp hx
    refine wp_noEx ?_
    rw [encP]
    generalize (p.1 : Int) = i
    simp [asgT, asgTs, seqOf_tup, seqOf_fl, evAnd, ev, evL, getVar, wipeE, wp_bind, wp_ok, ok_bind, wp_evB, tr_bl, newTup_ok, sizeL]
    rw [newTup_ok (by simp [sizeL])]
    exact wp_val ⟨rfl, rfl⟩
  · refine wp_fl (by simp [sizeL]; omega) ?_
    simp only [cb_tuple_fl, wp_ok, seqF]
    have e : PV.tup ((h.map encP).flatMap fun x => [x]) = encH h := by simp [encH, List.flatMap_singleton']
    rw [e]
    exact gc_same0 plainH q
theorem standing_ok {P : Prog} (h19 : P.fn 19 = some Pk70.d19) (h28 : P.fn 28 = some Pk70.d28) {k : Nat} {S : Store} {r : Room} (hs : size r < 10000) (hlen : r.length < 10000) {Q : PV → Store → Prop} (q : Q (encR r) S) : wp (callN P (k + 2) 28 [encR r] S) Q := by
  refine wp_call h28 rfl ?_
  simp only [Pk70.d28, List.map_cons, List.map_nil, Nat.reduceSub, List.replicate_succ, List.replicate_zero, List.cons_append, List.nil_append]
  refine wp_cons ?_
  simp [Pk70.s28_0, exS, ev, evL, evI, getVar, wp_bind, wp_ok, ok_bind, encR, itemsOf]
  refine wp_compP (fun x => [x]) rfl (fun x hx => ?_) ?_
  · obtain ⟨h, hh, rfl⟩ := List.mem_map.mp hx
    obtain ⟨j, hj, e⟩ := List.mem_iff_getElem.mp hh
    have hle : h.length ≤ size r := len_le (i := j) (by rw [List.getElem?_eq_some_iff]; exact ⟨hj, e⟩)
    refine wp_noEx ?_
    simp [asgT, evAnd, ev, evL, getVar, wipeE, permArgs, wp_bind, wp_ok, ok_bind, wp_evB, tr_bl]
    exact heap_ok h19 (by omega) ⟨rfl, rfl⟩
  · refine wp_fl (by simp [sizeL]; omega) ?_
    simp only [cb_tuple_fl, wp_ok, seqF]
    have e : PV.tup ((r.map encH).flatMap fun x => [x]) = encR r := by simp [encR, List.flatMap_singleton']
    rw [e]
    exact gc_same0 plainR q
theorem number_ok {P : Prog} (h1 : P.fn 1 = some Pk70.d1) {k : Nat} {S : Store} {i : Int} {Q : PV → Store → Prop} (q : Q (.bl true) S) : wp (callN P (k + 1) 1 [.int i] S) Q := by
  refine wp_call h1 rfl ?_
  simp only [Pk70.d1, List.map_cons, List.map_nil, Nat.reduceSub, List.replicate_succ, List.replicate_zero, List.cons_append, List.nil_append]
  refine wp_cons ?_
  simp [Pk70.s1_0, exS, ev, getVar, isi_int, hasTy, evB, lift, truthy, wp_bind, wp_ok, ok_bind, seqF]
  exact gc_same0 rfl q
theorem there_ok {P : Prog} (h1 : P.fn 1 = some Pk70.d1) (h20 : P.fn 20 = some Pk70.d20) {k : Nat} {S : Store} {l : List PV} {i : Int} (h0 : 0 ≤ i) (hi : i < l.length) {Q : PV → Store → Prop} (q : Q (.bl true) S) : wp (callN P (k + 2) 20 [.tup l, .int i] S) Q := by
  refine wp_call h20 rfl ?_
  simp only [Pk70.d20, List.map_cons, List.map_nil, Nat.reduceSub, List.replicate_succ, List.replicate_zero, List.cons_append, List.nil_append]
  refine wp_cons ?_
  simp [Pk70.s20_0, exS, ev, evL, getVar, permArgs, wp_bind, wp_ok, ok_bind]
  refine number_ok h1 ?_
  simp [lift, truthy, cmp_le, cmp_lt, cb_len_tup, wp_bind, wp_ok, ok_bind, h0, hi, seqF]
  exact gc_same0 rfl q
theorem look_ok {P : Prog} (h1 : P.fn 1 = some Pk70.d1) (h20 : P.fn 20 = some Pk70.d20) (h21 : P.fn 21 = some Pk70.d21) {k : Nat} {S : Store} {l : List PV} {i : Int} (h0 : 0 ≤ i) (hi : i < l.length) {Q : PV → Store → Prop} (q : Q .non S) : wp (callN P (k + 3) 21 [.tup l, .int i] S) Q := by
  refine wp_call h21 rfl ?_
  simp only [Pk70.d21, List.map_cons, List.map_nil, Nat.reduceSub, List.replicate_succ, List.replicate_zero, List.cons_append, List.nil_append]
  refine wp_cons ?_
  simp [Pk70.s21_0, exS, ev, evL, getVar, permArgs, wp_bind, wp_ok, ok_bind, wp_evB]
  refine there_ok h1 h20 h0 hi ?_
  simp [lift, truthy, wp_ok]
  refine wp_nil ?_
  simp only [seqF]
  refine wp_nil ?_
  exact gc_same0 rfl q
end LC

namespace LC
open G
/-- the words that bird i holds against bird j -/
def held (r : Room) (i j : Nat) : List (List Nat) := (r[i]?.getD []).flatMap fun p => if p.1 = j then [p.2] else []
def encW (l : List (List Nat)) : PV := .tup (l.map .str)
theorem plainW {k : Nat} {l : List (List Nat)} : plain (k + 2) (encW l) = true := by simp [plain, encW]
theorem comp_held {h : Heap} {j : Int} (hj : 0 ≤ j) : (h.map encP).flatMap (fun x => match x with | .tup [.int a, w] => if a == j then [w] else [] | _ => []) = (h.flatMap fun p => if p.1 = j.toNat then [p.2] else []).map PV.str := by
  induction h with
  | nil => rfl
  | cons p h ih =>
    rw [List.map_cons, List.flatMap_cons, List.flatMap_cons, List.map_append, ih]
    congr 1
    by_cases e : p.1 = j.toNat
    · have e2 : ((p.1 : Int) == j) = true := by simp; omega
      have e3 : ((p.1 : Int) = j) := by omega
      simp [encP, e, e3]
      omega
    · have e2 : ((p.1 : Int) == j) = false := by simp; omega
      simp [encP, e2, e]
theorem fm_len {h : Heap} {j : Nat} : (h.flatMap fun p => if p.1 = j then [p.2] else []).length ≤ h.length := by
  induction h with
  | nil => exact Nat.le_refl _
  | cons p h ih =>
    rw [List.flatMap_cons, List.length_append, List.length_cons]
    have : (if p.1 = j then [p.2] else []).length ≤ 1 := by split <;> simp
    omega
theorem lheld_ok {P : Prog} (h25 : P.fn 25 = some Pk70.d25) {k : Nat} {S : Store} {r : Room} {i j : Int} (hs : size r < 10000) (h0 : 0 ≤ i) (hi : i < r.length) (hj : 0 ≤ j) {Q : PV → Store → Prop} (q : Q (encW (held r i.toNat j.toNat)) S) : wp (callN P (k + 1) 25 [encR r, .int i, .int j] S) Q := by
  obtain ⟨h, hh⟩ : ∃ h, r[i.toNat]? = some h := ⟨r[i.toNat]'(by omega), by rw [List.getElem?_eq_some_iff]; exact ⟨by omega, rfl⟩⟩
  have gi : ∀ S : Store, getIx (encR r) (.int i) S = .ok (encH h) S := fun S => by
    have e : (r.map encH)[i.toNat]? = some (encH h) := by rw [List.getElem?_map, hh]; rfl
    simp only [encR, getIx, atI_int h0 e, lift]
  have hle := len_le hh
  refine wp_call h25 rfl ?_
  simp only [Pk70.d25, List.map_cons, List.map_nil, Nat.reduceSub, List.replicate_succ, List.replicate_zero, List.cons_append, List.nil_append]
  refine wp_cons ?_
  simp [Pk70.s25_0, exS, ev, evL, evI, getVar, wp_bind, wp_ok, ok_bind, gi]
  rw [show encH h = PV.tup (h.map encP) from rfl]
  simp only [itemsOf, wp_ok]
  refine wp_compP (fun x => match x with | .tup [.int a, w] => if a == j then [w] else [] | _ => []) rfl (fun x hx => ?_) ?_
  · obtain ⟨p, _, rfl⟩ := List.mem_map.mp hx
    refine wp_noEx ?_
    rw [encP]
    generalize (p.1 : Int) = a
    simp [asgT, asgTs, seqOf_tup, seqOf_fl, evAnd, ev, evL, getVar, wipeE, wp_bind, wp_ok, ok_bind, wp_evB, cmp_eq, tr_bl]
    by_cases e : a = j
    · subst e; simp [wp_ok, wp_bind, lift, truthy]
    · simp [e, wp_ok, lift, truthy]
  · rw [comp_held hj]
    have e : (h.flatMap fun p => if p.1 = j.toNat then [p.2] else []) = held r i.toNat j.toNat := by unfold held; rw [hh]; rfl
    rw [e]
    have hln : (held r i.toNat j.toNat).length ≤ h.length := by
      rw [← e]
      exact fm_len
    refine wp_fl (by rw [List.length_map]; unfold sizeL; omega) ?_
    simp only [cb_tuple_fl, wp_ok, seqF]
    exact gc_same0 plainW q
theorem held_ok {P : Prog} (h1 : P.fn 1 = some Pk70.d1) (h20 : P.fn 20 = some Pk70.d20) (h21 : P.fn 21 = some Pk70.d21) (h23 : P.fn 23 = some Pk70.d23) {k : Nat} {S : Store} {r : Room} {i j : Int} (hs : size r < 10000) (h0 : 0 ≤ i) (hi : i < r.length) (hj : 0 ≤ j) (hj2 : j < r.length) {Q : PV → Store → Prop} (q : Q (encW (held r i.toNat j.toNat)) S) : wp (callN P (k + 4) 23 [encR r, .int i, .int j] S) Q := by
  obtain ⟨h, hh⟩ : ∃ h, r[i.toNat]? = some h := ⟨r[i.toNat]'(by omega), by rw [List.getElem?_eq_some_iff]; exact ⟨by omega, rfl⟩⟩
  have gi : ∀ S : Store, getIx (encR r) (.int i) S = .ok (encH h) S := fun S => by
    have e : (r.map encH)[i.toNat]? = some (encH h) := by rw [List.getElem?_map, hh]; rfl
    simp only [encR, getIx, atI_int h0 e, lift]
  have hle := len_le hh
  refine wp_call h23 rfl ?_
  simp only [Pk70.d23, List.map_cons, List.map_nil, Nat.reduceSub, List.replicate_succ, List.replicate_zero, List.cons_append, List.nil_append]
  refine wp_cons ?_
  simp [Pk70.s23_0, exS, ev, evL, getVar, permArgs, wp_bind, wp_ok, ok_bind]
  refine look_ok h1 h20 h21 h0 (by rw [List.length_map]; exact hi) ?_
  simp only [seqF]
  refine wp_cons ?_
  simp [Pk70.s23_1, exS, ev, evL, getVar, permArgs, wp_bind, wp_ok, ok_bind]
  refine look_ok h1 h20 h21 hj (by rw [List.length_map]; exact hj2) ?_
  simp only [seqF]
  refine wp_cons ?_
  simp [Pk70.s23_2, exS, ev, evL, evI, getVar, wp_bind, wp_ok, ok_bind, gi]
  rw [show encH h = PV.tup (h.map encP) from rfl]
  simp only [itemsOf, wp_ok]
  refine wp_compP (fun x => match x with | .tup [.int a, w] => if a == j then [w] else [] | _ => []) rfl (fun x hx => ?_) ?_
  · obtain ⟨p, _, rfl⟩ := List.mem_map.mp hx
    refine wp_noEx ?_
    rw [encP]
    generalize (p.1 : Int) = a
    simp [asgT, asgTs, seqOf_tup, seqOf_fl, evAnd, ev, evL, getVar, wipeE, wp_bind, wp_ok, ok_bind, wp_evB, cmp_eq, tr_bl]
    by_cases e : a = j
    · subst e; simp [wp_ok, wp_bind, lift, truthy]
    · simp [e, wp_ok, lift, truthy]
  · rw [comp_held hj]
    have e : (h.flatMap fun p => if p.1 = j.toNat then [p.2] else []) = held r i.toNat j.toNat := by unfold held; rw [hh]; rfl
    rw [e]
    have hln : (held r i.toNat j.toNat).length ≤ h.length := by
      rw [← e]
      exact fm_len
    refine wp_fl (by rw [List.length_map]; unfold sizeL; omega) ?_
    simp only [cb_tuple_fl, wp_ok, seqF]
    exact gc_same0 plainW q
/-- the line of two birds -/
def line (r : Room) (i j : Nat) : List (List Nat) := held r i j ++ (held r j i).reverse
theorem held_len {r : Room} {i j : Nat} : (held r i j).length ≤ size r := by
  unfold held
  cases e : r[i]? with
  | none => simp
  | some h => exact Nat.le_trans fm_len (len_le e)
theorem line_ok {P : Prog} (h1 : P.fn 1 = some Pk70.d1) (h20 : P.fn 20 = some Pk70.d20) (h21 : P.fn 21 = some Pk70.d21) (h23 : P.fn 23 = some Pk70.d23) (h50 : P.fn 50 = some Pk70.d50) {k : Nat} {S : Store} {r : Room} {i j : Int} (hs : size r < 10000) (h0 : 0 ≤ i) (hi : i < r.length) (hj : 0 ≤ j) (hj2 : j < r.length) {Q : PV → Store → Prop} (q : Q (encW (line r i.toNat j.toNat)) S) : wp (callN P (k + 5) 50 [encR r, .int i, .int j] S) Q := by
  refine wp_call h50 rfl ?_
  simp only [Pk70.d50, List.map_cons, List.map_nil, Nat.reduceSub, List.replicate_succ, List.replicate_zero, List.cons_append, List.nil_append]
  refine wp_cons ?_
  simp [Pk70.s50_0, exS, ev, evL, getVar, permArgs, wp_bind, wp_ok, ok_bind]
  refine held_ok h1 h20 h21 h23 hs h0 hi hj hj2 ?_
  refine held_ok h1 h20 h21 h23 hs hj hj2 h0 hi ?_
  have l1 := held_len (r := r) (i := i.toNat) (j := j.toNat)
  have l2 := held_len (r := r) (i := j.toNat) (j := i.toNat)
  simp only [encW, revOf, wp_ok, bi_tup]
  rw [newTup_ok (by simp [sizeL]; omega)]
  simp only [wp_ok, seqF]
  have e : PV.tup ((held r i.toNat j.toNat).map PV.str ++ ((held r j.toNat i.toNat).map PV.str).reverse) = encW (line r i.toNat j.toNat) := by
    simp [encW, line]
  rw [e]
  exact gc_same0 plainW q
theorem lline_ok {P : Prog} (h25 : P.fn 25 = some Pk70.d25) (h54 : P.fn 54 = some Pk70.d54) {k : Nat} {S : Store} {r : Room} {i j : Int} (hs : size r < 10000) (h0 : 0 ≤ i) (hi : i < r.length) (hj : 0 ≤ j) (hj2 : j < r.length) {Q : PV → Store → Prop} (q : Q (encW (line r i.toNat j.toNat)) S) : wp (callN P (k + 2) 54 [encR r, .int i, .int j] S) Q := by
  refine wp_call h54 rfl ?_
  simp only [Pk70.d54, List.map_cons, List.map_nil, Nat.reduceSub, List.replicate_succ, List.replicate_zero, List.cons_append, List.nil_append]
  refine wp_cons ?_
  simp [Pk70.s54_0, exS, ev, evL, getVar, permArgs, wp_bind, wp_ok, ok_bind]
  refine lheld_ok h25 hs h0 hi hj ?_
  refine lheld_ok h25 hs hj hj2 h0 ?_
  have l1 := held_len (r := r) (i := i.toNat) (j := j.toNat)
  have l2 := held_len (r := r) (i := j.toNat) (j := i.toNat)
  simp only [encW, revOf, wp_ok, bi_tup]
  rw [newTup_ok (by simp [sizeL]; omega)]
  simp only [wp_ok, seqF]
  have e : PV.tup ((held r i.toNat j.toNat).map PV.str ++ ((held r j.toNat i.toNat).map PV.str).reverse) = encW (line r i.toNat j.toNat) := by
    simp [encW, line]
  rw [e]
  exact gc_same0 plainW q
end LC

namespace LC
open G
theorem cut_ok {P : Prog} (h1 : P.fn 1 = some Pk70.d1) (h20 : P.fn 20 = some Pk70.d20) (h21 : P.fn 21 = some Pk70.d21) (h23 : P.fn 23 = some Pk70.d23) (h51 : P.fn 51 = some Pk70.d51) {k : Nat} {S : Store} {r : Room} {i j : Int} (hs : size r < 10000) (h0 : 0 ≤ i) (hi : i < r.length) (hj : 0 ≤ j) (hj2 : j < r.length) {Q : PV → Store → Prop} (q : Q (.int ((held r i.toNat j.toNat).length : Nat)) S) : wp (callN P (k + 5) 51 [encR r, .int i, .int j] S) Q := by
  refine wp_call h51 rfl ?_
  simp only [Pk70.d51, List.map_cons, List.map_nil, Nat.reduceSub, List.replicate_succ, List.replicate_zero, List.cons_append, List.nil_append]
  refine wp_cons ?_
  simp [Pk70.s51_0, exS, ev, evL, getVar, permArgs, wp_bind, wp_ok, ok_bind]
  refine held_ok h1 h20 h21 h23 hs h0 hi hj hj2 ?_
  simp only [encW, cb_len_tup, wp_ok, seqF, List.length_map]
  exact gc_same0 rfl q
theorem upper_ok {P : Prog} (h1 : P.fn 1 = some Pk70.d1) (h19 : P.fn 19 = some Pk70.d19) (h20 : P.fn 20 = some Pk70.d20) (h21 : P.fn 21 = some Pk70.d21) (h22 : P.fn 22 = some Pk70.d22) {k : Nat} {S : Store} {r : Room} {i : Int} {h : Heap} (hs : size r < 10000) (h0 : 0 ≤ i) (hh : r[i.toNat]? = some h) {Q : PV → Store → Prop} (q : Q (match h.getLast? with | some p => encP p | none => .non) S) : wp (callN P (k + 4) 22 [encR r, .int i] S) Q := by
  have hi : i.toNat < r.length := (List.getElem?_eq_some_iff.mp hh).1
  have gi : ∀ S : Store, getIx (encR r) (.int i) S = .ok (encH h) S := fun S => by
    have e : (r.map encH)[i.toNat]? = some (encH h) := by rw [List.getElem?_map, hh]; rfl
    simp only [encR, getIx, atI_int h0 e, lift]
  have hle := len_le hh
  refine wp_call h22 rfl ?_
  simp only [Pk70.d22, List.map_cons, List.map_nil, Nat.reduceSub, List.replicate_succ, List.replicate_zero, List.cons_append, List.nil_append]
  refine wp_cons ?_
  simp [Pk70.s22_0, exS, ev, evL, getVar, permArgs, wp_bind, wp_ok, ok_bind]
  refine look_ok h1 h20 h21 h0 (by rw [List.length_map]; omega) ?_
  simp only [seqF]
  refine wp_cons ?_
  simp [Pk70.s22_1, exS, ev, evL, asgT, getVar, permArgs, wp_bind, wp_ok, ok_bind, gi]
  refine heap_ok h19 (by omega) ?_
  simp only [seqF]
  refine wp_cons ?_
  have el : callB .len false [encH h] S = .ok (.int h.length) S := by simp [encH, cb_len_tup]
  simp only [Pk70.s22_2, exS, ev, evL, getVar, negV, wp_bind, wp_ok, ok_bind, el, cmp_gt, evB_wbl, List.getElem?_cons_succ, List.getElem?_cons_zero]
  cases hg : h.getLast? with
  | none =>
    have e : h = [] := List.getLast?_eq_none_iff.mp hg
    subst e
    rw [hg] at q
    simp [wp_ok, seqF]
    exact gc_same0 rfl q
  | some p =>
    have hp : 0 < h.length := by
      cases h with
      | nil => cases hg
      | cons a t => simp
    have e : (h.map encP).getLast? = some (encP p) := by rw [List.getLast?_map, hg]; rfl
    rw [hg] at q
    have gl : getIx (encH h) (.int (-1)) S = .ok (encP p) S := by simp only [encH, getIx, atI_last e, lift]
    simp [hp, gl, wp_ok, seqF]
    exact gc_same0 plainP q
theorem ints_of {l : List Int} : intsOf (l.map PV.int) = some l := by
  induction l with
  | nil => rfl
  | cons a l ih => simp [intsOf, ih]
theorem grudges_ok {P : Prog} (h24 : P.fn 24 = some Pk70.d24) {k : Nat} {S : Store} {r : Room} (hlen : r.length < 10000) {Q : PV → Store → Prop} (q : ∀ z : Int, z = size r → Q (.int z) S) : wp (callN P (k + 1) 24 [encR r] S) Q := by
  refine wp_call h24 rfl ?_
  simp only [Pk70.d24, List.map_cons, List.map_nil, Nat.reduceSub, List.replicate_succ, List.replicate_zero, List.cons_append, List.nil_append]
  refine wp_cons ?_
  simp [Pk70.s24_0, exS, ev, evL, evI, getVar, wp_bind, wp_ok, ok_bind, encR, itemsOf]
  refine wp_compP (fun x => match x with | .tup l => [.int l.length] | _ => []) rfl (fun x hx => ?_) ?_
  · obtain ⟨h, _, rfl⟩ := List.mem_map.mp hx
    refine wp_noEx ?_
    simp [asgT, evAnd, ev, evL, getVar, wipeE, encH, cb_len_tup, wp_bind, wp_ok, ok_bind, wp_evB, tr_bl]
  · have e : (r.map encH).flatMap (fun x => match x with | .tup l => [PV.int l.length] | _ => []) = (r.map fun h => (h.length : Int)).map PV.int := by
      clear q hlen
      induction r with
      | nil => rfl
      | cons h r ih =>
        rw [List.map_cons, List.flatMap_cons, ih]
        simp [encH]
    rw [e]
    refine wp_fl (by simp [sizeL]; omega) ?_
    have es : callB .sum false [.fl ((r.map fun h => (h.length : Int)).map PV.int)] S = .ok (.int (r.map fun h => (h.length : Int)).sum) S := by
      simp only [callB, lstOf, Option.bind_some, ints_of, lift, R.bind]
    simp only [es, wp_ok, seqF]
    refine gc_same0 rfl (q _ ?_)
    clear q hlen e es
    induction r with
    | nil => rfl
    | cons h r ih => simp [size] at ih ⊢; omega
end LC

namespace LC
open G
def canF (doz : List Int) : PV → List PV
  | .tup [.int i, .tup h] => if h ≠ [] ∧ i ∉ doz then [.int i] else []
  | _ => []
theorem in_ints {l : List Int} {i : Int} {S : Store} : cmpV .nin (.int i) (.fl (l.map PV.int)) S = .ok (!decide (i ∈ l)) S := by
  have e : inSeq S (.int i) (l.map PV.int) = some (decide (i ∈ l)) := by
    have d1 : dataOf S depthL (.int i) = some (.int i) := rfl
    have d2 : (l.map PV.int).mapM (dataOf S depthL) = some (l.map PV.int) := mapM_self fun x hx => by
      obtain ⟨j, _, rfl⟩ := List.mem_map.mp hx
      rfl
    simp only [inSeq, d1, d2]
    congr 1
    induction l with
    | nil => rfl
    | cons a l ih =>
      have d3 : (l.map PV.int).mapM (dataOf S depthL) = some (l.map PV.int) := mapM_self fun x hx => by
        obtain ⟨j, _, rfl⟩ := List.mem_map.mp hx
        rfl
      rw [List.map_cons, List.any_cons, ih d3]
      by_cases h : i = a
      · subst h; simp [peq]
      · simp [peq, h, Ne.symm h]
  simp only [cmpV, cmpop, inOp, e, Option.map_some, lift]
end LC

namespace G
/-- plain data as it stands -/
theorem data_plain {S : Store} : ∀ {k : Nat} {v : PV}, plain k v = true → dataOf S k v = some v
  | 0, v, h => by cases h
  | k + 1, v, h => by
    cases v with
    | tup l =>
      simp only [plain, List.all_eq_true] at h
      simp only [dataOf, mapM_self fun x hx => data_plain (h x hx)]
      rfl
    | fl l =>
      simp only [plain, List.all_eq_true] at h
      simp only [dataOf, mapM_self fun x hx => data_plain (h x hx)]
      rfl
    | loc i => cases h
    | scr l => cases h
    | exc c l => cases h
    | _ => rfl
mutual
/-- no truths in it -/
def clean : PV → Bool
  | .bl _ => false
  | .tup l => cleanL l
  | .fl l => cleanL l
  | .loc _ => false
  | .scr _ => false
  | .exc .. => false
  | _ => true
def cleanL : List PV → Bool
  | [] => true
  | x :: l => clean x && cleanL l
end
theorem cleanL_all {l : List PV} : cleanL l = l.all clean := by
  induction l with
  | nil => rfl
  | cons a l ih => simp [cleanL, ih]
mutual
theorem peq_eq : ∀ {a b : PV}, clean a = true → clean b = true → peq a b = decide (a = b)
  | .non, b, ha, hb => by cases b <;> simp [peq, clean] at *
  | .bl x, b, ha, hb => by simp [clean] at ha
  | .int x, b, ha, hb => by cases b <;> simp [peq, clean] at * <;> (rw [Bool.eq_iff_iff]; simp)
  | .str x, b, ha, hb => by cases b <;> simp [peq, clean] at * <;> (rw [Bool.eq_iff_iff]; simp)
  | .tup x, b, ha, hb => by
    cases b with
    | tup y => simp only [clean] at ha hb; simp only [peq, peqL_eq ha hb, PV.tup.injEq]
    | _ => simp [peq]
  | .fl x, b, ha, hb => by
    cases b with
    | fl y => simp only [clean] at ha hb; simp only [peq, peqL_eq ha hb, PV.fl.injEq]
    | _ => simp [peq]
  | .loc x, b, ha, hb => by simp [clean] at ha
  | .scr x, b, ha, hb => by simp [clean] at ha
  | .exc x y, b, ha, hb => by simp [clean] at ha
theorem peqL_eq : ∀ {a b : List PV}, cleanL a = true → cleanL b = true → peqL a b = decide (a = b)
  | [], [], _, _ => rfl
  | [], _ :: _, _, _ => rfl
  | _ :: _, [], _, _ => rfl
  | x :: a, y :: b, ha, hb => by
    simp only [cleanL, Bool.and_eq_true] at ha hb
    simp only [peqL, peq_eq ha.1 hb.1, peqL_eq ha.2 hb.2, List.cons.injEq, Bool.decide_and]
end
theorem cmp_eqP {S : Store} {a b : PV} (pa : plain depthL a = true) (pb : plain depthL b = true) (ca : clean a = true) (cb : clean b = true) : cmpV .eq a b S = .ok (decide (a = b)) S := by
  simp only [cmpV, cmpop, eqS, data_plain pa, data_plain pb, peq_eq ca cb, lift]
theorem cmp_neP {S : Store} {a b : PV} (pa : plain depthL a = true) (pb : plain depthL b = true) (ca : clean a = true) (cb : clean b = true) : cmpV .ne a b S = .ok (!decide (a = b)) S := by
  simp only [cmpV, cmpop, eqS, data_plain pa, data_plain pb, peq_eq ca cb, lift, Option.map_some]
theorem cmp_is_non {S : Store} {a : PV} : cmpV .is_ a .non S = .ok (match a with | .non => true | _ => false) S := by
  cases a <;> rfl
theorem cmp_isn_non {S : Store} {a : PV} : cmpV .isn a .non S = .ok (match a with | .non => false | _ => true) S := by
  cases a <;> rfl
theorem cmp_neI {i j : Int} {S : Store} : cmpV .ne (.int i) (.int j) S = .ok (i != j) S := rfl
theorem wp_rng2 {i j : Int} {S : Store} {Q : Its → Store → Prop} (hi : 0 ≤ i) (hi2 : i < 1073741824) (hj : 0 ≤ j) (hj2 : j < 1073741824) (h : Q ⟨rangeL i (j - i).toNat, []⟩ S) : wp (rangeIts [.int i, .int j] S) Q := by
  have hb : bnd62 i = true := by unfold bnd62; simp; omega
  have hc : bnd62 j = true := by unfold bnd62; simp; omega
  simp only [rangeIts, hb, hc, Bool.and_self, if_true]
  exact wp_val h
def rangeI (lo : Int) (n : Nat) : List Int := (List.range n).map fun k : Nat => lo + (k : Int)
theorem rangeL_I {lo : Int} {n : Nat} : rangeL lo n = (rangeI lo n).map PV.int := by simp [rangeL, rangeI]
theorem mem_rangeI {lo : Int} {n : Nat} {x : Int} : x ∈ rangeI lo n ↔ lo ≤ x ∧ x < lo + n := by
  simp only [rangeI, List.mem_map, List.mem_range]
  constructor
  · rintro ⟨k, hk, rfl⟩; omega
  · rintro ⟨h1, h2⟩; exact ⟨(x - lo).toNat, by omega, by omega⟩
/-- wp_for with a fact of each item -/
theorem wp_forM {w : Store → Bool} {body : PV → Env → Store → R Fl} {Q : Fl → Store → Prop} {xs : List PV} {env : Env} {S : Store} (I : List PV → Env → Store → Prop) (h0 : I [] env S)
    (hs : ∀ l x r env S, xs = l ++ x :: r → I l env S → w S = true ∧ wp (body x env S) (endsF (I (l ++ [x])) Q)) (hd : ∀ env S, I xs env S → w S = true ∧ Q (.nx env) S) : wp (forL w body xs env S) Q := by
  refine wp_for (fun i => I (xs.take i)) (by simpa using h0) (fun i x env S hx h => ?_) (fun env S h => hd env S (by simpa using h))
  have hl := (List.getElem?_eq_some_iff.mp hx).1
  have e : xs.take (i + 1) = xs.take i ++ [x] := by rw [List.take_add_one, hx]; rfl
  rw [e]
  refine hs _ x (xs.drop (i + 1)) env S ?_ h
  have e2 : xs[i] = x := (List.getElem?_eq_some_iff.mp hx).2
  rw [← e2, ← List.drop_eq_getElem_cons hl, List.take_append_drop]
end G

namespace LC
open G
theorem cleanP {p : Nat × List Nat} : clean (encP p) = true := rfl
theorem cleanH {h : Heap} : clean (encH h) = true := by
  simp only [encH, clean, cleanL_all, List.all_eq_true, List.mem_map]
  rintro x ⟨p, _, rfl⟩; rfl
theorem cleanR {r : Room} : clean (encR r) = true := by
  simp only [encR, clean, cleanL_all, List.all_eq_true, List.mem_map]
  rintro x ⟨p, _, rfl⟩; exact cleanH
theorem cleanW {l : List (List Nat)} : clean (encW l) = true := by
  simp only [encW, clean, cleanL_all, List.all_eq_true, List.mem_map]
  rintro x ⟨p, _, rfl⟩; rfl
theorem encP_inj {p q : Nat × List Nat} (h : encP p = encP q) : p = q := by
  simp [encP] at h
  exact Prod.ext (by omega) h.2
theorem map_inj {α β : Type} {f : α → β} (hf : ∀ a b, f a = f b → a = b) : ∀ {l m : List α}, l.map f = m.map f → l = m
  | [], [], _ => rfl
  | [], _ :: _, h => by cases h
  | _ :: _, [], h => by cases h
  | a :: l, b :: m, h => by
    simp only [List.map_cons, List.cons.injEq] at h
    rw [hf _ _ h.1, map_inj hf h.2]
theorem encH_inj {a b : Heap} (h : encH a = encH b) : a = b := map_inj (fun _ _ => encP_inj) (PV.tup.inj h)
theorem encR_inj {a b : Room} (h : encR a = encR b) : a = b := map_inj (fun _ _ => encH_inj) (PV.tup.inj h)
theorem encW_inj {a b : List (List Nat)} (h : encW a = encW b) : a = b := map_inj (fun _ _ h => PV.str.inj h) (PV.tup.inj h)
theorem enumL_at : ∀ {l : List PV} {k i : Nat} {p : PV}, (enumL k l)[i]? = some p → ∃ x, l[i]? = some x ∧ p = .tup [.int (k + i : Nat), x] := enum_at
def canI (r : Room) (doz : List Int) (S : Store) (i : Nat) (acc : List PV) (S' : Store) : Prop := ∃ l : List Int, acc = l.map .int ∧ (∀ b ∈ l, 0 ≤ b ∧ b ∉ doz ∧ ∃ h, r[b.toNat]? = some h ∧ h ≠ []) ∧ l.length ≤ i ∧ S' = S
theorem can_ok {P : Prog} (h39 : P.fn 39 = some Pk70.d39) {k : Nat} {S : Store} {r : Room} {doz : List Int} (hlen : r.length < 10000)
    {Q : PV → Store → Prop} (q : ∀ l : List Int, (∀ b ∈ l, 0 ≤ b ∧ b ∉ doz ∧ ∃ h, r[b.toNat]? = some h ∧ h ≠ []) → l.length ≤ r.length → Q (.fl (l.map .int)) S) : wp (callN P (k + 1) 39 [encR r, .fl (doz.map .int)] S) Q := by
  unfold Pk70.d39 at h39
  (refine wp_call h39 rfl ?_; simp only [List.map_cons, List.map_nil, Nat.reduceSub, List.replicate_succ, List.replicate_zero, List.cons_append, List.nil_append])
  (refine wp_cons ?_; generalize hQQ : seqF _ _ = QQ; simp -implicitDefEqProofs [exS, ev, evL, evI, evO, asgT, asgTs, seqOf_tup, seqOf_fl, getVar, permArgs, wipeE, evAnd, wp_bind, wp_ok, ok_bind, wp_evB, tr_bl, Pk70.s39_0]; subst hQQ)
  rw [show enuV (encR r) S = .ok ⟨enumL 0 (r.map encH), []⟩ S from rfl]
  simp only [wp_ok]
  refine wp_comp (canI r doz S) ⟨[], rfl, by simp, Nat.zero_le _, rfl⟩ ?_ ?_
  · rintro i x acc S' hx ⟨l, rfl, hl, hle, rfl⟩
    obtain ⟨y, hy, rfl⟩ := enumL_at hx
    rw [List.getElem?_map] at hy
    cases hh : r[i]? with
    | none => rw [hh] at hy; cases hy
    | some h =>
      rw [hh] at hy
      cases hy
      refine ⟨rfl, wp_noEx ?_⟩
      have stay : canI r doz S' (i + 1) (l.map .int ++ []) S' := ⟨l, by simp, hl, by omega, rfl⟩
      generalize hz : ((0 + i : Nat) : Int) = z
      have add : h ≠ [] → z ∉ doz → canI r doz S' (i + 1) (l.map .int ++ [.int z]) S' := fun h1 h2 => ⟨l ++ [z], by simp, fun b hb => by
        rcases List.mem_append.mp hb with hb | hb
        · exact hl b hb
        · rw [List.mem_singleton.mp hb]
          exact ⟨by omega, h2, h, by rw [show z.toNat = i by omega]; exact hh, h1⟩, by simp; omega, rfl⟩
      ((try generalize hQQ : endsF _ _ = QQ); simp -implicitDefEqProofs [exS, ev, evL, evI, evO, asgT, asgTs, seqOf_tup, seqOf_fl, getVar, permArgs, wipeE, evAnd, wp_bind, wp_ok, ok_bind, wp_evB, tr_bl]; (try subst hQQ))
      rw [newTup_ok (by simp [sizeL])]
      simp only [wp_ok]
      rw [cmp_neP plainH rfl cleanH rfl]
      have e : (encH h = .tup []) = (h = []) := by
        cases h <;> simp [encH]
      simp only [wp_ok, lift, truthy, e]
      by_cases h1 : h = []
      · subst h1
        simp [wp_ok, lift, truthy]
        simpa using stay
      · simp only [h1, decide_false, Bool.not_false, if_true, in_ints, wp_ok, lift, truthy, ok_bind]
        by_cases h2 : z ∈ doz
        · simp [h2, wp_ok]
          simpa using stay
        · simp [h2, wp_ok]
          simpa using add h1 h2
  · rintro acc S' ⟨l, rfl, hl, hle, rfl⟩
    rw [enum_len, List.length_map] at hle
    refine ⟨rfl, wp_fl (by rw [List.length_map]; unfold sizeL; omega) ?_⟩
    simp only [seqF]
    exact gc_same0 ints_all (q l hl hle)
end LC

namespace LC
open G
/-- all pairs, the lesser one first -/
def prs (n : Nat) : List (Int × Int) := (rangeI 0 n).flatMap fun i => (rangeI (i + 1) ((n : Int) - (i + 1)).toNat).map fun j => (i, j)
def encIJ (p : Int × Int) : PV := .tup [.int p.1, .int p.2]
theorem mem_prs {n : Nat} {p : Int × Int} : p ∈ prs n ↔ 0 ≤ p.1 ∧ p.1 < p.2 ∧ p.2 < n := by
  obtain ⟨i, j⟩ := p
  simp only [prs, List.mem_flatMap, List.mem_map, mem_rangeI, Prod.mk.injEq]
  constructor
  · rintro ⟨a, h1, b, h2, rfl, rfl⟩; omega
  · rintro h; exact ⟨i, by omega, j, by omega, rfl, rfl⟩
theorem fm_len_le {α β : Type} {f : α → List β} {c : Nat} : ∀ {l : List α}, (∀ x ∈ l, (f x).length ≤ c) → (l.flatMap f).length ≤ l.length * c
  | [], _ => by simp
  | a :: l, h => by
    have h1 := h a (List.mem_cons_self ..)
    have h2 := fm_len_le (l := l) fun x hx => h x (List.mem_cons_of_mem _ hx)
    rw [List.flatMap_cons, List.length_append, List.length_cons, Nat.add_mul, Nat.one_mul]
    omega
theorem prs_len {n : Nat} : (prs n).length ≤ n * n := by
  have h := fm_len_le (f := fun i => (rangeI (i + 1) ((n : Int) - (i + 1)).toNat).map fun j => (i, j)) (l := rangeI 0 n) (c := n) fun x hx => by
    have := mem_rangeI.mp hx
    simp [rangeI]; omega
  simpa [prs, rangeI] using h
theorem fm_fm {α β γ : Type} {f : α → List β} {g : β → γ} {l : List α} : (l.flatMap f).map g = l.flatMap fun x => (f x).map g := by
  induction l with
  | nil => rfl
  | cons a l ih => simp [ih]
theorem fm_congr {α β : Type} {f g : α → List β} : ∀ {l : List α}, (∀ x ∈ l, f x = g x) → l.flatMap f = l.flatMap g
  | [], _ => rfl
  | a :: l, h => by
    rw [List.flatMap_cons, List.flatMap_cons, h a (List.mem_cons_self ..), fm_congr fun x hx => h x (List.mem_cons_of_mem _ hx)]
theorem map_fm {α β γ : Type} {f : α → β} {g : β → List γ} {l : List α} : (l.map f).flatMap g = l.flatMap fun x => g (f x) := by
  induction l with
  | nil => rfl
  | cons a l ih => simp [ih]
theorem fm_one {α β : Type} {f : α → β} : ∀ {l : List α}, (l.flatMap fun x => [f x]) = l.map f
  | [] => rfl
  | a :: l => by rw [List.flatMap_cons, fm_one]; rfl
theorem ij_plain {l : List (Int × Int)} : plain depthL (.fl (l.map encIJ)) = true := by
  simp only [depthL, plain, List.all_eq_true, List.mem_map]
  rintro x ⟨p, _, rfl⟩; rfl
theorem mul_small {a b c d : Nat} (h1 : a ≤ c) (h2 : b ≤ d) : a * b ≤ c * d := Nat.mul_le_mul h1 h2
theorem range_len2 {lo : Int} {n : Nat} : (rangeI lo n).length = n := by simp [rangeI]
theorem prs_small {n : Nat} (h : n < 1000) : (prs n).length ≤ 1000000 := Nat.le_trans prs_len (mul_small (c := 1000) (d := 1000) (by omega) (by omega))
theorem pairs_ok {P : Prog} (h52 : P.fn 52 = some Pk70.d52) {k : Nat} {S : Store} {l : List PV} (hlen : l.length < 1000)
    {Q : PV → Store → Prop} (q : Q (.fl ((prs l.length).map encIJ)) S) : wp (callN P (k + 1) 52 [.tup l] S) Q := by
  unfold Pk70.d52 at h52
  (refine wp_call h52 rfl ?_; simp only [List.map_cons, List.map_nil, Nat.reduceSub, List.replicate_succ, List.replicate_zero, List.cons_append, List.nil_append])
  generalize hz : (l.length : Int) = z
  have el : ∀ S : Store, callB .len false [.tup l] S = .ok (.int z) S := fun S => by rw [← hz]; exact cb_len_tup
  (refine wp_cons ?_; generalize hQQ : seqF _ _ = QQ; simp -implicitDefEqProofs [exS, ev, evL, evI, evO, asgT, asgTs, seqOf_tup, seqOf_fl, getVar, permArgs, wipeE, evAnd, wp_bind, wp_ok, ok_bind, wp_evB, tr_bl, Pk70.s52_0, el]; subst hQQ)
  simp only [seqF]
  have hz0 : 0 ≤ z := by omega
  have hzt : z.toNat = l.length := by omega
  (refine wp_cons ?_; generalize hQQ : seqF _ _ = QQ; simp -implicitDefEqProofs [exS, ev, evL, evI, evO, asgT, asgTs, seqOf_tup, seqOf_fl, getVar, permArgs, wipeE, evAnd, wp_bind, wp_ok, ok_bind, wp_evB, tr_bl, Pk70.s52_1]; subst hQQ)
  refine wp_rngZ hz0 (by omega) ?_
  rw [rangeL_I]
  refine wp_compP (fun x => match x with | .int i => (rangeI (i + 1) (z - (i + 1)).toNat).map fun j => encIJ (i, j) | _ => []) rfl (fun x hx => ?_) ?_
  · obtain ⟨i, hi, rfl⟩ := List.mem_map.mp hx
    have hi := mem_rangeI.mp hi
    refine wp_noEx ?_
    ((try generalize hQQ : endsF _ _ = QQ); simp -implicitDefEqProofs [exS, ev, evL, evI, evO, asgT, asgTs, seqOf_tup, seqOf_fl, getVar, permArgs, wipeE, evAnd, wp_bind, wp_ok, ok_bind, wp_evB, tr_bl, bi_add]; (try subst hQQ))
    refine wp_rng2 (by omega) (by omega) hz0 (by omega) ?_
    rw [rangeL_I]
    refine wp_compP (fun x => [PV.tup [.int i, x]]) rfl (fun y hy => ?_) ?_
    · obtain ⟨j, hj, rfl⟩ := List.mem_map.mp hy
      refine wp_noEx ?_
      ((try generalize hQQ : endsF _ _ = QQ); simp -implicitDefEqProofs [exS, ev, evL, evI, evO, asgT, asgTs, seqOf_tup, seqOf_fl, getVar, permArgs, wipeE, evAnd, wp_bind, wp_ok, ok_bind, wp_evB, tr_bl]; (try subst hQQ))
      rw [newTup_ok (by simp [sizeL])]
      simp [wp_ok]
    · refine ⟨?_, rfl⟩
      rw [map_fm]
      exact fm_one
  · have e : ((rangeI 0 z.toNat).map PV.int).flatMap (fun x => match x with | .int i => (rangeI (i + 1) (z - (i + 1)).toNat).map fun j => encIJ (i, j) | _ => []) = (prs l.length).map encIJ := by
      unfold prs
      rw [map_fm, fm_fm, hzt]
      refine fm_congr fun i _ => ?_
      rw [← hz, List.map_map]
      rfl
    rw [e]
    refine wp_fl (by rw [List.length_map]; have := prs_small hlen; unfold sizeL; omega) ?_
    simp only [seqF]
    exact gc_same0 ij_plain q
end LC

namespace LC
open G
theorem lpairs_ok {P : Prog} (h61 : P.fn 61 = some Pk70.d61) {k : Nat} {S : Store} {l : List PV} (hlen : l.length < 1000)
    {Q : PV → Store → Prop} (q : Q (.fl ((prs l.length).map encIJ)) S) : wp (callN P (k + 1) 61 [.tup l] S) Q := by
  unfold Pk70.d61 at h61
  (refine wp_call h61 rfl ?_; simp only [List.map_cons, List.map_nil, Nat.reduceSub, List.replicate_succ, List.replicate_zero, List.cons_append, List.nil_append])
  generalize hz : (l.length : Int) = z
  have el : ∀ S : Store, callB .len false [.tup l] S = .ok (.int z) S := fun S => by rw [← hz]; rfl
  have hz0 : 0 ≤ z := by omega
  have hzt : z.toNat = l.length := by omega
  (refine wp_cons ?_; generalize hQQ : seqF _ _ = QQ; simp -implicitDefEqProofs [exS, ev, evL, evI, evO, asgT, asgTs, seqOf_tup, seqOf_fl, getVar, permArgs, wipeE, evAnd, wp_bind, wp_ok, ok_bind, wp_evB, tr_bl, Pk70.s61_0]; subst hQQ)
  refine wp_fl (by simp [sizeL]) ?_
  simp only [seqF]
  (refine wp_cons ?_; generalize hQQ : seqF _ _ = QQ; simp -implicitDefEqProofs [exS, ev, evL, evI, evO, asgT, asgTs, seqOf_tup, seqOf_fl, getVar, permArgs, wipeE, evAnd, wp_bind, wp_ok, ok_bind, wp_evB, tr_bl, Pk70.s61_1, el]; subst hQQ)
  refine wp_rngZ hz0 (by omega) ?_
  have fin : Q (.fl ((rangeI 0 z.toNat).flatMap fun i => (rangeI (i + 1) (z - (i + 1)).toNat).map fun j => encIJ (i, j))) S := by
    have e : (rangeI 0 z.toNat).flatMap (fun i => (rangeI (i + 1) (z - (i + 1)).toNat).map fun j => encIJ (i, j)) = (prs l.length).map encIJ := by
      unfold prs
      rw [fm_fm, hzt]
      refine fm_congr fun i _ => ?_
      rw [← hz, List.map_map]
      rfl
    rw [e]
    exact q
  refine wp_forM (fun done env S' => S' = S ∧ ∃ (dl : List Int) (x2 x3 : Option PV), done = dl.map PV.int ∧ env = [some (.tup l), some (.fl (dl.flatMap fun i => (rangeI (i + 1) (z - (i + 1)).toNat).map fun j => encIJ (i, j))), x2, x3]) ⟨rfl, [], none, none, rfl, rfl⟩ ?_ ?_
  · rintro done x r env S' hx ⟨rfl, dl, x2, x3, rfl, rfl⟩
    refine ⟨rfl, ?_⟩
    rw [rangeL_I] at hx
    obtain ⟨l1, l2, e1, e2, e3⟩ := List.map_eq_append_iff.mp hx
    obtain ⟨i, l3, e4, rfl, e5⟩ := List.map_eq_cons_iff.mp e3
    have hi : i ∈ rangeI 0 z.toNat := by rw [e1, e4]; simp
    have hi := mem_rangeI.mp hi
    have hdl : dl.length ≤ 1000 := by
      have := congrArg List.length e1
      have h3 := congrArg List.length e2
      rw [range_len2, List.length_append] at this
      rw [List.length_map, List.length_map] at h3
      omega
    have hdm : ∀ a ∈ dl, 0 ≤ a := fun a ha => by
      have e : dl = l1 := (map_inj (fun _ _ h => PV.int.inj h) e2).symm
      have : a ∈ rangeI 0 z.toNat := by rw [e1, ← e]; exact List.mem_append_left _ ha
      exact (mem_rangeI.mp this).1
    ((try generalize hQQ : endsF _ _ = QQ); simp -implicitDefEqProofs [exS, ev, evL, evI, evO, asgT, asgTs, seqOf_tup, seqOf_fl, getVar, permArgs, wipeE, evAnd, wp_bind, wp_ok, ok_bind, wp_evB, tr_bl]; (try subst hQQ))
    refine wp_cons ?_
    ((try generalize hQQ : endsF _ _ = QQ); simp -implicitDefEqProofs [exS, ev, evL, evI, evO, asgT, asgTs, seqOf_tup, seqOf_fl, getVar, permArgs, wipeE, evAnd, wp_bind, wp_ok, ok_bind, wp_evB, tr_bl, Pk70.s61_1_0, el, bi_add]; (try subst hQQ))
    refine wp_rng2 (by omega) (by omega) hz0 (by omega) ?_
    rw [rangeL_I]
    refine wp_compP (fun x => [PV.tup [.int i, x]]) rfl (fun y hy => ?_) ?_
    · obtain ⟨j, hj, rfl⟩ := List.mem_map.mp hy
      refine wp_noEx ?_
      ((try generalize hQQ : endsF _ _ = QQ); simp -implicitDefEqProofs [exS, ev, evL, evI, evO, asgT, asgTs, seqOf_tup, seqOf_fl, getVar, permArgs, wipeE, evAnd, wp_bind, wp_ok, ok_bind, wp_evB, tr_bl]; (try subst hQQ))
      rw [newTup_ok (by simp [sizeL])]
      simp [wp_ok]
    · rw [map_fm, fm_one]
      refine wp_fl (by rw [List.length_map, range_len2]; unfold sizeL; omega) ?_
      have hb : ∀ (a b : List PV) (S : Store), a.length + b.length ≤ sizeL → binop false .add (.fl a) (.fl b) S = .ok (.fl (a ++ b)) S := fun a b S h => by
        show newList false (a ++ b) S = _
        unfold newList
        rw [if_pos (by rw [List.length_append]; exact h), if_neg Bool.false_ne_true]
      rw [hb _ _ _ ?_]
      · simp only [wp_ok, seqF]
        refine wp_nil ?_
        refine ⟨rfl, dl ++ [i], some (.int i), x3, by simp, ?_⟩
        rw [List.flatMap_append]
        simp [encIJ]
      · have h1 := fm_len_le (f := fun i => (rangeI (i + 1) (z - (i + 1)).toNat).map fun j => encIJ (i, j)) (l := dl) (c := 1000) fun x hx => by
          have := hdm x hx
          rw [List.length_map, range_len2]; omega
        have h2 : dl.length * 1000 ≤ 1000 * 1000 := Nat.mul_le_mul_right _ hdl
        rw [List.length_map, range_len2]
        unfold sizeL
        omega
  · rintro env S' ⟨rfl, dl, x2, x3, e, rfl⟩
    rw [rangeL_I] at e
    have e := map_inj (fun _ _ h => PV.int.inj h) e
    subst e
    refine ⟨rfl, ?_⟩
    simp only [seqF]
    (refine wp_cons ?_; generalize hQQ : seqF _ _ = QQ; simp -implicitDefEqProofs [exS, ev, evL, evI, evO, asgT, asgTs, seqOf_tup, seqOf_fl, getVar, permArgs, wipeE, evAnd, wp_bind, wp_ok, ok_bind, wp_evB, tr_bl, Pk70.s61_2]; subst hQQ)
    simp only [seqF]
    refine gc_same0 ?_ fin
    simp only [depthL, plain, List.all_eq_true, List.mem_flatMap, List.mem_map]
    rintro x ⟨i, hi, j, hj, rfl⟩
    rfl
end LC

namespace LC
open G
/-- the first place at which two rows are unlike -/
def apart : List (List Nat) → List (List Nat) → Option Nat
  | [], [] => none
  | [], _ :: _ => some 0
  | _ :: _, [] => some 0
  | a :: l, b :: m => if a = b then (apart l m).map (· + 1) else some 0
theorem apart_none : ∀ {a b : List (List Nat)}, apart a b = none ↔ a = b
  | [], [] => by simp [apart]
  | [], _ :: _ => by simp [apart]
  | _ :: _, [] => by simp [apart]
  | a :: l, b :: m => by
    by_cases h : a = b
    · simp [apart, h, apart_none (a := l) (b := m)]
    · simp [apart, h]
def encO : Option Nat → PV
  | none => .non
  | some n => .int n
theorem apart_app : ∀ {c a b : List (List Nat)}, apart (c ++ a) (c ++ b) = (apart a b).map (· + c.length)
  | [], a, b => by simp
  | x :: c, a, b => by
    simp only [List.cons_append, apart, if_true, apart_app (c := c), Option.map_map, List.length_cons]
    cases apart a b <;> simp; omega
theorem zip_at : ∀ {a b : List PV} {i : Nat} {p : PV}, (zipL2 a b)[i]? = some p → ∃ x y, a[i]? = some x ∧ b[i]? = some y ∧ p = .tup [x, y]
  | [], b, i, p, h => by simp [zipL2] at h
  | _ :: _, [], i, p, h => by simp [zipL2] at h
  | x :: a, y :: b, 0, p, h => by
    simp [zipL2] at h
    exact ⟨x, y, rfl, rfl, h.symm⟩
  | x :: a, y :: b, i + 1, p, h => by
    simp [zipL2] at h
    simpa using zip_at h
theorem zip_len : ∀ {a b : List PV}, (zipL2 a b).length = min a.length b.length
  | [], b => by simp [zipL2]
  | _ :: _, [] => by simp [zipL2]
  | x :: a, y :: b => by simp [zipL2, zip_len (a := a) (b := b)]
theorem strP {s : List Nat} : plain depthL (.str s) = true := rfl
theorem strC {s : List Nat} : clean (.str s) = true := rfl
theorem apart_ok {P : Prog} (h57 : P.fn 57 = some Pk70.d57) {k : Nat} {S : Store} {a b : List (List Nat)}
    {Q : PV → Store → Prop} (q : Q (encO (apart a b)) S) : wp (callN P (k + 1) 57 [encW a, encW b] S) Q := by
  unfold Pk70.d57 at h57
  (refine wp_call h57 rfl ?_; simp only [List.map_cons, List.map_nil, Nat.reduceSub, List.replicate_succ, List.replicate_zero, List.cons_append, List.nil_append])
  (refine wp_cons ?_; generalize hQQ : seqF _ _ = QQ; simp -implicitDefEqProofs [exS, ev, evL, evI, evO, asgT, asgTs, seqOf_tup, seqOf_fl, getVar, permArgs, wipeE, evAnd, wp_bind, wp_ok, ok_bind, wp_evB, tr_bl, Pk70.s57_0]; subst hQQ)
  rw [show enzV (encW a) (encW b) S = .ok ⟨enumL 0 (zipL2 (a.map .str) (b.map .str)), []⟩ S from rfl]
  simp only [wp_ok]
  refine wp_for (fun i env S' => S' = S ∧ (a.take i = b.take i) ∧ ∃ x2 x3 x4, env = [some (encW a), some (encW b), x2, x3, x4]) ⟨rfl, by simp, none, none, none, rfl⟩ ?_ ?_
  · rintro i x env S' hx ⟨rfl, ht, x2, x3, x4, rfl⟩
    refine ⟨rfl, ?_⟩
    obtain ⟨p, hp, rfl⟩ := enumL_at hx
    obtain ⟨u, v, hu, hv, rfl⟩ := zip_at hp
    rw [List.getElem?_map] at hu hv
    obtain ⟨w1, hw1, rfl⟩ := Option.map_eq_some_iff.mp hu
    obtain ⟨w2, hw2, rfl⟩ := Option.map_eq_some_iff.mp hv
    generalize hz : ((0 + i : Nat) : Int) = z
    ((try generalize hQQ : endsF _ _ = QQ); simp -implicitDefEqProofs [exS, ev, evL, evI, evO, asgT, asgTs, seqOf_tup, seqOf_fl, getVar, permArgs, wipeE, evAnd, wp_bind, wp_ok, ok_bind, wp_evB, tr_bl]; (try subst hQQ))
    refine wp_cons ?_
    have hn : cmpV .ne (.str w1) (.str w2) S' = .ok (!decide (w1 = w2)) S' := by
      rw [cmp_neP strP strP strC strC]; simp
    generalize hQQ : seqF _ _ = QQ
    simp only [Pk70.s57_0_0, exS, ev, getVar, wp_bind, wp_ok, wp_evB, List.getElem?_cons_succ, List.getElem?_cons_zero, hn, tr_bl]
    subst hQQ
    by_cases hw : w1 = w2
    · subst hw
      simp only [decide_true, Bool.not_true, Bool.false_eq_true, if_false]
      refine wp_nil ?_
      simp only [seqF]
      refine wp_nil ?_
      refine ⟨rfl, ?_, some (.int z), some (.str w1), some (.str w1), rfl⟩
      rw [List.take_add_one, List.take_add_one, hw1, hw2, ht]
    · simp only [hw, decide_false, Bool.not_false, if_true]
      (refine wp_cons ?_; generalize hQQ : seqF _ _ = QQ; simp -implicitDefEqProofs [exS, ev, evL, evI, evO, asgT, asgTs, seqOf_tup, seqOf_fl, getVar, permArgs, wipeE, evAnd, wp_bind, wp_ok, ok_bind, wp_evB, tr_bl, Pk70.s57_0_0_0]; subst hQQ)
      simp only [seqF, endsF]
      have e : apart a b = some i := by
        have l1 := (List.getElem?_eq_some_iff.mp hw1).1
        have l2 := (List.getElem?_eq_some_iff.mp hw2).1
        have e1 : a = a.take i ++ w1 :: a.drop (i + 1) := by
          rw [← (List.getElem?_eq_some_iff.mp hw1).2, ← List.drop_eq_getElem_cons l1, List.take_append_drop]
        have e2 : b = a.take i ++ w2 :: b.drop (i + 1) := by
          rw [ht, ← (List.getElem?_eq_some_iff.mp hw2).2, ← List.drop_eq_getElem_cons l2, List.take_append_drop]
        rw [e1, e2]
        rw [← e1]
        conv => lhs; arg 1; rw [e1]
        rw [apart_app]
        simp [apart, hw]
        omega
      rw [e] at q
      refine gc_same0 rfl ?_
      rw [← hz, Nat.zero_add]
      exact q
  · rintro env S' ⟨rfl, ht, x2, x3, x4, rfl⟩
    refine ⟨rfl, ?_⟩
    simp only [seqF]
    rw [enum_len, zip_len, List.length_map, List.length_map] at ht
    generalize hz1 : (a.length : Int) = z1
    generalize hz2 : (b.length : Int) = z2
    have c1 : ∀ S : Store, callB .len false [encW a] S = .ok (.int z1) S := fun S => by rw [← hz1]; simp [encW, cb_len_tup]
    have c2 : ∀ S : Store, callB .len false [encW b] S = .ok (.int z2) S := fun S => by rw [← hz2]; simp [encW, cb_len_tup]
    refine wp_cons ?_
    generalize hQQ : seqF _ _ = QQ
    simp -implicitDefEqProofs only [Pk70.s57_1, exS, ev, evL, getVar, wp_bind, wp_ok, ok_bind, wp_evB, List.getElem?_cons_succ, List.getElem?_cons_zero, c1, c2, cmp_eq, tr_bl]
    subst hQQ
    by_cases hz : z1 = z2
    · have hl : a.length = b.length := by omega
      rw [← hl, Nat.min_self, List.take_length] at ht
      have e : a = b := by rw [ht, hl, List.take_length]
      subst e
      have e1 : (z1 == z2) = true := by simp [hz]
      rw [apart_none.mpr rfl] at q
      simp only [e1, if_true, wp_ok, seqF]
      exact gc_same0 rfl q
    · have e1 : (z1 == z2) = false := by simp [hz]
      have em : callB .min2 false [.int z1, .int z2] S' = .ok (.int (if z2 < z1 then z2 else z1)) S' := rfl
      simp only [e1, Bool.false_eq_true, if_false, wp_bind, wp_ok, em, seqF]
      have e : apart a b = some (min a.length b.length) := by
        by_cases hl : a.length < b.length
        · rw [Nat.min_eq_left (by omega)] at ht ⊢
          rw [List.take_length] at ht
          conv => lhs; arg 1; rw [ht]
          conv => lhs; arg 2; rw [← List.take_append_drop a.length b]
          have := apart_app (c := b.take a.length) (a := []) (b := b.drop a.length)
          rw [List.append_nil] at this
          rw [this]
          have hd : b.drop a.length ≠ [] := by
            intro h
            have := congrArg List.length h
            simp at this
            omega
          obtain ⟨y, ys, hy⟩ := List.exists_cons_of_ne_nil hd
          rw [hy]
          simp [apart]
          omega
        · rw [Nat.min_eq_right (by omega)] at ht ⊢
          rw [List.take_length] at ht
          conv => lhs; arg 2; rw [← ht]
          conv => lhs; arg 1; rw [← List.take_append_drop b.length a]
          have := apart_app (c := a.take b.length) (b := []) (a := a.drop b.length)
          rw [List.append_nil] at this
          rw [this]
          have hd : a.drop b.length ≠ [] := by
            intro h
            have := congrArg List.length h
            simp at this
            omega
          obtain ⟨y, ys, hy⟩ := List.exists_cons_of_ne_nil hd
          rw [hy]
          simp [apart]
          omega
      rw [e] at q
      refine gc_same0 rfl ?_
      have ez : (if z2 < z1 then z2 else z1) = ((min a.length b.length : Nat) : Int) := by
        split <;> omega
      rw [ez]
      exact q
end LC

namespace LC
open G
def encL (t : Int × Int × List (List Nat)) : PV := .tup [.int t.1, .int t.2.1, encW t.2.2]
/-- all lines that aren't bare -/
def lns (r : Room) : List (Int × Int × List (List Nat)) := (prs r.length).flatMap fun p => if line r p.1.toNat p.2.toNat = [] then [] else [(p.1, p.2, line r p.1.toNat p.2.toNat)]
theorem plainL {k : Nat} {t : Int × Int × List (List Nat)} : plain (k + 3) (encL t) = true := by simp [plain, encL, encW]
theorem lns_plain {l : List (Int × Int × List (List Nat))} : plain depthL (.fl (l.map encL)) = true := by
  simp only [depthL, plain, List.all_eq_true, List.mem_map]
  rintro x ⟨p, _, rfl⟩; exact plainL
theorem lns_clean {l : List (Int × Int × List (List Nat))} : clean (.fl (l.map encL)) = true := by
  simp only [clean, cleanL_all, List.all_eq_true, List.mem_map]
  rintro x ⟨p, _, rfl⟩
  simp [encL, clean, cleanL, cleanW]
structure FLine (P : Prog) : Prop where
  h1 : P.fn 1 = some Pk70.d1
  h20 : P.fn 20 = some Pk70.d20
  h21 : P.fn 21 = some Pk70.d21
  h23 : P.fn 23 = some Pk70.d23
  h50 : P.fn 50 = some Pk70.d50
theorem fm_single {α β : Type} {f : α → β} {p : α → Bool} {l : List α} : (l.map f).flatMap (fun x => [x]) = l.map f := by simp [List.flatMap_singleton']
theorem fm_le {α β : Type} {f : α → List β} {l : List α} (h : ∀ x ∈ l, (f x).length ≤ 1) : (l.flatMap f).length ≤ l.length := by
  have := fm_len_le h; omega
theorem line_len {r : Room} {i j : Nat} : (line r i j).length ≤ size r + size r := by
  simp only [line, List.length_append, List.length_reverse]
  have := held_len (r := r) (i := i) (j := j); have := held_len (r := r) (i := j) (j := i); omega
theorem linesof_ok {P : Prog} (F : FLine P) (h52 : P.fn 52 = some Pk70.d52) (h53 : P.fn 53 = some Pk70.d53) {k : Nat} {S : Store} {r : Room} (hs : size r < 10000) (hlen : r.length < 1000)
    {Q : PV → Store → Prop} (q : Q (.fl ((lns r).map encL)) S) : wp (callN P (k + 6) 53 [encR r] S) Q := by
  unfold Pk70.d53 at h53
  (refine wp_call h53 rfl ?_; simp only [List.map_cons, List.map_nil, Nat.reduceSub, List.replicate_succ, List.replicate_zero, List.cons_append, List.nil_append])
  (refine wp_cons ?_; generalize hQQ : seqF _ _ = QQ; simp -implicitDefEqProofs [exS, ev, evL, evI, evO, asgT, asgTs, seqOf_tup, seqOf_fl, getVar, permArgs, wipeE, evAnd, wp_bind, wp_ok, ok_bind, wp_evB, tr_bl, Pk70.s53_0]; subst hQQ)
  rw [show encR r = PV.tup (r.map encH) from rfl]
  refine pairs_ok h52 (by rw [List.length_map]; exact hlen) ?_
  rw [List.length_map, ← show encR r = PV.tup (r.map encH) from rfl]
  simp only [itemsOf, wp_ok]
  refine wp_compP (fun x => match x with | .tup [.int i, .int j] => [encL (i, j, line r i.toNat j.toNat)] | _ => []) rfl (fun x hx => ?_) ?_
  · obtain ⟨p, hp, rfl⟩ := List.mem_map.mp hx
    obtain ⟨i, j⟩ := p
    have hm := mem_prs.mp hp
    simp at hm
    refine wp_noEx ?_
    ((try generalize hQQ : endsF _ _ = QQ); simp -implicitDefEqProofs [exS, ev, evL, evI, evO, asgT, asgTs, seqOf_tup, seqOf_fl, getVar, permArgs, wipeE, evAnd, wp_bind, wp_ok, ok_bind, wp_evB, tr_bl, encIJ]; (try subst hQQ))
    refine line_ok F.h1 F.h20 F.h21 F.h23 F.h50 hs (by omega) (by omega) (by omega) (by omega) ?_
    rw [newTup_ok (by simp [sizeL])]
    simp [wp_ok, encL]
  · rw [map_fm]
    have e : ((prs r.length).flatMap fun x => match encIJ x with | .tup [.int i, .int j] => [encL (i, j, line r i.toNat j.toNat)] | _ => []) = (prs r.length).map fun p => encL (p.1, p.2, line r p.1.toNat p.2.toNat) := fm_one
    rw [e]
    have hl := prs_small hlen
    refine wp_fl (by rw [List.length_map]; unfold sizeL; omega) ?_
    simp only [seqF]
    (refine wp_cons ?_; generalize hQQ : seqF _ _ = QQ; simp -implicitDefEqProofs [exS, ev, evL, evI, evO, asgT, asgTs, seqOf_tup, seqOf_fl, getVar, permArgs, wipeE, evAnd, wp_bind, wp_ok, ok_bind, wp_evB, tr_bl, Pk70.s53_1]; subst hQQ)
    simp only [itemsOf, wp_ok]
    refine wp_compP (fun x => match x with | .tup [a, b, .tup l] => if l = [] then [] else [.tup [a, b, .tup l]] | _ => []) rfl (fun x hx => ?_) ?_
    · obtain ⟨p, hp, rfl⟩ := List.mem_map.mp hx
      obtain ⟨i, j⟩ := p
      refine wp_noEx ?_
      generalize hll : line r i.toNat j.toNat = ll
      have hg : ∀ S : Store, getIx (encL (i, j, ll)) (.int 2) S = .ok (encW ll) S := fun S => rfl
      generalize hz : (ll.length : Int) = z
      have hc : ∀ S : Store, callB .len false [encW ll] S = .ok (.int z) S := fun S => by rw [← hz]; simp [encW, cb_len_tup]
      generalize hv : encL (i, j, ll) = v at hg
      ((try generalize hQQ : endsF _ _ = QQ); simp -implicitDefEqProofs [exS, ev, evL, evI, evO, asgT, asgTs, seqOf_tup, seqOf_fl, getVar, permArgs, wipeE, evAnd, wp_bind, wp_ok, ok_bind, wp_evB, tr_bl, hg, hc, cmp_gt]; (try subst hQQ))
      by_cases h : ll = []
      · subst h
        have : z = 0 := by simpa using hz.symm
        subst this
        subst hv
        simp [lift, truthy, wp_ok, encL, encW]
      · have : 0 < z := by
          have := List.length_pos_iff.mpr h; omega
        subst hv
        simp [lift, truthy, wp_ok, encL, encW, this, h]
    · have e : ((prs r.length).map fun p => encL (p.1, p.2, line r p.1.toNat p.2.toNat)).flatMap (fun x => match x with | .tup [a, b, .tup l] => if l = [] then [] else [.tup [a, b, .tup l]] | _ => []) = (lns r).map encL := by
        unfold lns
        rw [map_fm, fm_fm]
        refine fm_congr fun p _ => ?_
        simp only [encL, encW]
        by_cases h : line r p.1.toNat p.2.toNat = []
        · simp [h]
        · simp [h, encL, encW]
      rw [e]
      have hle : (lns r).length ≤ (prs r.length).length := fm_le fun p _ => by split <;> simp
      refine wp_fl (by rw [List.length_map]; unfold sizeL; omega) ?_
      simp only [seqF]
      exact gc_same0 lns_plain q
theorem same58_ok {P : Prog} (h58 : P.fn 58 = some Pk70.d58) {k : Nat} {S : Store} {a b : List PV} (hl : a.length = b.length)
    {Q : PV → Store → Prop} (q : Q .non S) : wp (callN P (k + 1) 58 [.tup a, .tup b] S) Q := by
  unfold Pk70.d58 at h58
  (refine wp_call h58 rfl ?_; simp only [List.map_cons, List.map_nil, Nat.reduceSub, List.replicate_succ, List.replicate_zero, List.cons_append, List.nil_append])
  generalize hz : (a.length : Int) = z
  have c1 : ∀ S : Store, callB .len false [.tup a] S = .ok (.int z) S := fun S => by rw [← hz]; rfl
  have c2 : ∀ S : Store, callB .len false [.tup b] S = .ok (.int z) S := fun S => by rw [← hz, hl]; rfl
  (refine wp_cons ?_; generalize hQQ : seqF _ _ = QQ; simp -implicitDefEqProofs [exS, ev, evL, evI, evO, asgT, asgTs, seqOf_tup, seqOf_fl, getVar, permArgs, wipeE, evAnd, wp_bind, wp_ok, ok_bind, wp_evB, tr_bl, Pk70.s58_0, c1, c2, cmp_neI]; subst hQQ)
  refine wp_nil ?_
  simp only [seqF]
  refine wp_nil ?_
  exact gc_same0 rfl q
/-- the first two birds whose lines are unlike, and where -/
def unl (r s : Room) : List (Int × Int) → Option (Int × Int × Nat)
  | [] => none
  | p :: l => match apart (line r p.1.toNat p.2.toNat) (line s p.1.toNat p.2.toNat) with
    | some n => some (p.1, p.2, n)
    | none => unl r s l
def encU : Option (Int × Int × Nat) → PV
  | none => .non
  | some (i, j, n) => .tup [.int i, .int j, .int n]
theorem unl_app {r s : Room} : ∀ {l m : List (Int × Int)}, unl r s l = none → unl r s (l ++ m) = unl r s m
  | [], m, _ => rfl
  | p :: l, m, h => by
    simp only [unl] at h
    simp only [List.cons_append, unl]
    cases e : apart (line r p.1.toNat p.2.toNat) (line s p.1.toNat p.2.toNat) with
    | some n => rw [e] at h; cases h
    | none => rw [e] at h; exact unl_app h
theorem unlike_ok {P : Prog} (F : FLine P) (h52 : P.fn 52 = some Pk70.d52) (h57 : P.fn 57 = some Pk70.d57) (h58 : P.fn 58 = some Pk70.d58) (h59 : P.fn 59 = some Pk70.d59) {k : Nat} {S : Store} {r s : Room} (hs : size r < 10000) (hs2 : size s < 10000) (hlen : r.length < 1000) (hrs : r.length = s.length)
    {Q : PV → Store → Prop} (q : Q (encU (unl r s (prs r.length))) S) : wp (callN P (k + 6) 59 [encR r, encR s] S) Q := by
  unfold Pk70.d59 at h59
  (refine wp_call h59 rfl ?_; simp only [List.map_cons, List.map_nil, Nat.reduceSub, List.replicate_succ, List.replicate_zero, List.cons_append, List.nil_append])
  (refine wp_cons ?_; generalize hQQ : seqF _ _ = QQ; simp -implicitDefEqProofs [exS, ev, evL, evI, evO, asgT, asgTs, seqOf_tup, seqOf_fl, getVar, permArgs, wipeE, evAnd, wp_bind, wp_ok, ok_bind, wp_evB, tr_bl, Pk70.s59_0]; subst hQQ)
  refine same58_ok h58 (by rw [List.length_map, List.length_map]; exact hrs) ?_
  simp only [seqF]
  (refine wp_cons ?_; generalize hQQ : seqF _ _ = QQ; simp -implicitDefEqProofs [exS, ev, evL, evI, evO, asgT, asgTs, seqOf_tup, seqOf_fl, getVar, permArgs, wipeE, evAnd, wp_bind, wp_ok, ok_bind, wp_evB, tr_bl, Pk70.s59_1]; subst hQQ)
  rw [show encR r = PV.tup (r.map encH) from rfl]
  refine pairs_ok h52 (by rw [List.length_map]; exact hlen) ?_
  rw [List.length_map, ← show encR r = PV.tup (r.map encH) from rfl]
  simp only [itemsOf, wp_ok]
  refine wp_forM (fun done env S' => S' = S ∧ ∃ dl x2 x3 x4, done = dl.map encIJ ∧ unl r s dl = none ∧ env = [some (encR r), some (encR s), x2, x3, x4]) ⟨rfl, [], none, none, none, rfl, rfl, rfl⟩ ?_ ?_
  · rintro done x rest env S' hx ⟨rfl, dl, x2, x3, x4, rfl, hu, rfl⟩
    refine ⟨rfl, ?_⟩
    obtain ⟨l1, l2, e1, e2, e3⟩ := List.map_eq_append_iff.mp hx
    obtain ⟨p, l3, e4, rfl, e5⟩ := List.map_eq_cons_iff.mp e3
    have hpm : p ∈ prs r.length := by rw [e1, e4]; simp
    have hm := mem_prs.mp hpm
    have el : l1 = dl := map_inj (fun a b h => by simp [encIJ] at h; exact Prod.ext h.1 h.2) e2
    subst el
    obtain ⟨i, j⟩ := p
    simp at hm
    ((try generalize hQQ : endsF _ _ = QQ); simp -implicitDefEqProofs [exS, ev, evL, evI, evO, asgT, asgTs, seqOf_tup, seqOf_fl, getVar, permArgs, wipeE, evAnd, wp_bind, wp_ok, ok_bind, wp_evB, tr_bl, encIJ]; (try subst hQQ))
    (refine wp_cons ?_; generalize hQQ : seqF _ _ = QQ; simp -implicitDefEqProofs [exS, ev, evL, evI, evO, asgT, asgTs, seqOf_tup, seqOf_fl, getVar, permArgs, wipeE, evAnd, wp_bind, wp_ok, ok_bind, wp_evB, tr_bl, Pk70.s59_1_0]; subst hQQ)
    refine line_ok F.h1 F.h20 F.h21 F.h23 F.h50 hs (by omega) (by omega) (by omega) (by omega) ?_
    refine line_ok F.h1 F.h20 F.h21 F.h23 F.h50 hs2 (by omega) (by omega) (by omega) (by omega) ?_
    refine apart_ok h57 ?_
    simp only [seqF]
    cases e : apart (line r i.toNat j.toNat) (line s i.toNat j.toNat) with
    | none =>
      (refine wp_cons ?_; generalize hQQ : seqF _ _ = QQ; simp -implicitDefEqProofs [exS, ev, evL, evI, evO, asgT, asgTs, seqOf_tup, seqOf_fl, getVar, permArgs, wipeE, evAnd, wp_bind, wp_ok, ok_bind, wp_evB, tr_bl, Pk70.s59_1_1, encO, cmp_isn_non]; subst hQQ)
      refine wp_nil ?_
      simp only [seqF]
      refine wp_nil ?_
      refine ⟨rfl, l1 ++ [(i, j)], some (.int i), some (.int j), some .non, by simp [encIJ], ?_, rfl⟩
      rw [unl_app hu]
      simp [unl, e]
    | some n =>
      simp only [encO]
      generalize hz : (n : Int) = z
      (refine wp_cons ?_; generalize hQQ : seqF _ _ = QQ; simp -implicitDefEqProofs [exS, ev, evL, evI, evO, asgT, asgTs, seqOf_tup, seqOf_fl, getVar, permArgs, wipeE, evAnd, wp_bind, wp_ok, ok_bind, wp_evB, tr_bl, Pk70.s59_1_1, cmp_isn_non]; subst hQQ)
      (refine wp_cons ?_; generalize hQQ : seqF _ _ = QQ; simp -implicitDefEqProofs [exS, ev, evL, evI, evO, asgT, asgTs, seqOf_tup, seqOf_fl, getVar, permArgs, wipeE, evAnd, wp_bind, wp_ok, ok_bind, wp_evB, tr_bl, Pk70.s59_1_1_0]; subst hQQ)
      rw [newTup_ok (by simp [sizeL])]
      simp only [wp_ok, seqF, endsF]
      have e6 : unl r s (prs r.length) = some (i, j, n) := by
        rw [e1, e4, unl_app hu]
        simp [unl, e]
      rw [e6] at q
      subst hz
      exact gc_same0 rfl q
  · rintro env S' ⟨rfl, dl, x2, x3, x4, e, hu, rfl⟩
    have el : prs r.length = dl := map_inj (fun a b h => by simp [encIJ] at h; exact Prod.ext h.1 h.2) e
    subst el
    rw [hu] at q
    refine ⟨rfl, ?_⟩
    simp only [seqF]
    (refine wp_cons ?_; generalize hQQ : seqF _ _ = QQ; simp -implicitDefEqProofs [exS, ev, evL, evI, evO, asgT, asgTs, seqOf_tup, seqOf_fl, getVar, permArgs, wipeE, evAnd, wp_bind, wp_ok, ok_bind, wp_evB, tr_bl, Pk70.s59_2]; subst hQQ)
    exact gc_same0 rfl q
end LC

namespace LC
open G
/-- what bird i holds against j, of a heap -/
def hw (h : Heap) (j : Nat) : List (List Nat) := h.flatMap fun p => if p.1 = j then [p.2] else []
theorem hw_app {a b : Heap} {j : Nat} : hw (a ++ b) j = hw a j ++ hw b j := by simp [hw]
theorem hw_one {p : Nat × List Nat} {j : Nat} : hw [p] j = if p.1 = j then [p.2] else [] := by simp [hw]
theorem held_hw {r : Room} {i j : Nat} : held r i j = hw (r[i]?.getD []) j := rfl
structure Pk (r : Room) (b : Nat) (h : Heap) (w : Nat) (t : List Nat) : Prop where
  hh : r[b]? = some h
  hl : h.getLast? = some (w, t)
  g : Good r
section
variable {r : Room} {b w : Nat} {h : Heap} {t : List Nat}
theorem Pk.wlt (X : Pk r b h w t) : w < r.length ∧ w ≠ b := X.g _ h X.hh _ (List.mem_of_getLast? X.hl)
theorem Pk.eq (X : Pk r b h w t) : h = h.dropLast ++ [(w, t)] := by
  have hne : h ≠ [] := by intro e; rw [e] at X; cases X.hl
  have := List.dropLast_concat_getLast hne
  have e := X.hl
  rw [List.getLast?_eq_some_getLast hne] at e
  rw [Option.some.inj e] at this
  exact this.symm
theorem Pk.peck (X : Pk r b h w t) : peck r b = (r.set b h.dropLast).set w ((r[w]?.getD []) ++ [(b, t)]) := by
  unfold LC.peck
  rw [X.hh]
  simp only [X.hl]
theorem Pk.len (X : Pk r b h w t) : (LC.peck r b).length = r.length := by rw [X.peck]; simp
theorem Pk.blt (X : Pk r b h w t) : b < r.length := (List.getElem?_eq_some_iff.mp X.hh).1
theorem Pk.at_b (X : Pk r b h w t) : (LC.peck r b)[b]? = some h.dropLast := by
  rw [X.peck, List.getElem?_set_ne X.wlt.2, List.getElem?_set_self X.blt]
theorem Pk.at_w (X : Pk r b h w t) : (LC.peck r b)[w]? = some ((r[w]?.getD []) ++ [(b, t)]) := by
  rw [X.peck, List.getElem?_set_self (by simpa using X.wlt.1)]
theorem Pk.at_o (X : Pk r b h w t) {i : Nat} (h1 : i ≠ b) (h2 : i ≠ w) : (LC.peck r b)[i]? = r[i]? := by
  rw [X.peck, List.getElem?_set_ne (Ne.symm h2), List.getElem?_set_ne (Ne.symm h1)]
theorem Pk.held_b (X : Pk r b h w t) {j : Nat} : held r b j = held (LC.peck r b) b j ++ if w = j then [t] else [] := by
  rw [held_hw, held_hw, X.at_b, X.hh]
  show hw h j = hw h.dropLast j ++ _
  conv => lhs; rw [X.eq]
  rw [hw_app, hw_one]
theorem Pk.held_w (X : Pk r b h w t) {j : Nat} : held (LC.peck r b) w j = held r w j ++ if b = j then [t] else [] := by
  rw [held_hw, held_hw, X.at_w]
  show hw (_ ++ [(b, t)]) j = _
  rw [hw_app, hw_one]
theorem Pk.held_o (X : Pk r b h w t) {i j : Nat} (h1 : i ≠ b) (h2 : i ≠ w) : held (LC.peck r b) i j = held r i j := by
  rw [held_hw, held_hw, X.at_o h1 h2]
theorem Pk.good (X : Pk r b h w t) : Good (LC.peck r b) := by
  intro i h' hi p hp
  rw [X.len]
  by_cases h1 : i = b
  · subst h1
    rw [X.at_b] at hi
    cases hi
    exact X.g i h X.hh p ((List.dropLast_sublist h).subset hp)
  · by_cases h2 : i = w
    · subst h2
      rw [X.at_w] at hi
      cases hi
      rcases List.mem_append.mp hp with hp | hp
      · cases e : r[i]? with
        | none => rw [e] at hp; cases hp
        | some h2 => rw [e] at hp; exact X.g i h2 e p hp
      · rw [List.mem_singleton.mp hp]
        exact ⟨X.blt, Ne.symm h1⟩
    · rw [X.at_o h1 h2] at hi
      exact X.g i h' hi p hp
theorem Pk.size (X : Pk r b h w t) : size (LC.peck r b) = size r := by
  have w1 := X.wlt
  obtain ⟨h2, e2⟩ : ∃ h2, r[w]? = some h2 := ⟨r[w]'w1.1, by simp [w1.1]⟩
  have s1 := size_add (h' := h.dropLast) X.hh
  have e3 : (r.set b h.dropLast)[w]? = some h2 := by rw [List.getElem?_set_ne (Ne.symm w1.2)]; exact e2
  have s2 := size_add (h' := h2 ++ [(b, t)]) e3
  rw [X.peck, e2]
  have hp : 0 < h.length := by rw [X.eq]; simp
  simp at s1 s2 ⊢
  omega
theorem Pk.line (X : Pk r b h w t) {i j : Nat} (hij : i ≠ j) : line (LC.peck r b) i j = line r i j := by
  have wb := X.wlt.2
  unfold LC.line
  have key : ∀ i j, i ≠ j → (i = b ∧ j = w ∧ held r i j = held (LC.peck r b) i j ++ [t]) ∨ (i = w ∧ j = b ∧ held (LC.peck r b) i j = held r i j ++ [t]) ∨ (¬ (i = b ∧ j = w) ∧ ¬ (i = w ∧ j = b) ∧ held (LC.peck r b) i j = held r i j) := by
    intro i j hij
    by_cases h1 : i = b
    · subst h1
      have q := X.held_b (j := j)
      by_cases h2 : w = j
      · rw [if_pos h2] at q; exact .inl ⟨rfl, h2.symm, q⟩
      · rw [if_neg h2, List.append_nil] at q; exact .inr (.inr ⟨fun h => h2 h.2.symm, fun h => wb h.1.symm, q.symm⟩)
    · by_cases h2 : i = w
      · subst h2
        have q := X.held_w (j := j)
        by_cases h3 : b = j
        · rw [if_pos h3] at q; exact .inr (.inl ⟨rfl, h3.symm, q⟩)
        · rw [if_neg h3, List.append_nil] at q; exact .inr (.inr ⟨fun h => h1 h.1, fun h => h3 h.2.symm, q⟩)
      · exact .inr (.inr ⟨fun h => h1 h.1, fun h => h2 h.1, X.held_o h1 h2⟩)
  rcases key i j hij with ⟨rfl, rfl, e1⟩ | ⟨rfl, rfl, e1⟩ | ⟨n1, n2, e1⟩
  · rcases key j i (Ne.symm hij) with ⟨a, _, _⟩ | ⟨_, _, e2⟩ | ⟨_, n, _⟩
    · exact absurd a.symm hij
    · rw [e1, e2]; simp
    · exact absurd ⟨rfl, rfl⟩ n
  · rcases key j i (Ne.symm hij) with ⟨_, _, e2⟩ | ⟨_, a, _⟩ | ⟨n, _, _⟩
    · rw [e1, e2]; simp
    · exact absurd a hij
    · exact absurd ⟨rfl, rfl⟩ n
  · rcases key j i (Ne.symm hij) with ⟨a, b, _⟩ | ⟨a, b, _⟩ | ⟨_, _, e2⟩
    · exact absurd ⟨b, a⟩ n2
    · exact absurd ⟨b, a⟩ n1
    · rw [e1, e2]
theorem unl_none {r s : Room} : ∀ {l : List (Int × Int)}, (∀ p ∈ l, line r p.1.toNat p.2.toNat = line s p.1.toNat p.2.toNat) → unl r s l = none
  | [], _ => rfl
  | p :: l, h => by
    simp only [unl, apart_none.mpr (h p (List.mem_cons_self ..))]
    exact unl_none fun x hx => h x (List.mem_cons_of_mem _ hx)
/-- all lines alike -/
def Same (r s : Room) : Prop := r.length = s.length ∧ ∀ i j, i ≠ j → line r i j = line s i j
theorem Same.unl {r s : Room} (h : Same r s) : unl r s (prs r.length) = none := unl_none fun p hp => by
  have := mem_prs.mp hp
  exact h.2 _ _ (by omega)
theorem Same.lns {r s : Room} (h : Same r s) : lns r = lns s := by
  unfold LC.lns
  rw [← h.1]
  refine fm_congr fun p hp => ?_
  have := mem_prs.mp hp
  rw [h.2 _ _ (show p.1.toNat ≠ p.2.toNat by omega)]
theorem Same.refl {r : Room} : Same r r := ⟨rfl, fun _ _ _ => rfl⟩
theorem Same.trans {r s u : Room} (h : Same r s) (k : Same s u) : Same r u := ⟨h.1.trans k.1, fun i j e => (h.2 i j e).trans (k.2 i j e)⟩
theorem Same.symm {r s : Room} (h : Same r s) : Same s r := ⟨h.1.symm, fun i j e => (h.2 i j e).symm⟩
theorem Pk.same (X : Pk r b h w t) : Same r (LC.peck r b) := ⟨X.len.symm, fun i j e => (X.line e).symm⟩
end
end LC

namespace LC
open G
theorem in_ints2 {l : List Int} {i : Int} {S : Store} : cmpV .in_ (.int i) (.fl (l.map PV.int)) S = .ok (decide (i ∈ l)) S := by
  have h := in_ints (l := l) (i := i) (S := S)
  simp only [cmpV, cmpop] at h ⊢
  cases e : inOp (.int i) (.fl (l.map PV.int)) S with
  | none => rw [e] at h; cases h
  | some b =>
    rw [e] at h
    simp [lift] at h ⊢
    rw [h]
structure FPeck (P : Prog) : Prop where
  h1 : P.fn 1 = some Pk70.d1
  h19 : P.fn 19 = some Pk70.d19
  h20 : P.fn 20 = some Pk70.d20
  h21 : P.fn 21 = some Pk70.d21
  h28 : P.fn 28 = some Pk70.d28
  h33 : P.fn 33 = some Pk70.d33
  h34 : P.fn 34 = some Pk70.d34
  h35 : P.fn 35 = some Pk70.d35
theorem lookpeck_ok {P : Prog} (F : FPeck P) {k : Nat} {S : Store} {r : Room} {b : Int} {doz : List Int} {h : Heap} (h0 : 0 ≤ b) (hh : r[b.toNat]? = some h) (hne : h ≠ []) (hd : b ∉ doz)
    {Q : PV → Store → Prop} (q : Q .non S) : wp (callN P (k + 4) 33 [encR r, .int b, .fl (doz.map .int)] S) Q := by
  have h33 := F.h33
  unfold Pk70.d33 at h33
  have hi : b.toNat < r.length := (List.getElem?_eq_some_iff.mp hh).1
  have gi : ∀ S : Store, getIx (encR r) (.int b) S = .ok (encH h) S := fun S => by
    have e : (r.map encH)[b.toNat]? = some (encH h) := by rw [List.getElem?_map, hh]; rfl
    simp only [encR, getIx, atI_int h0 e, lift]
  (refine wp_call h33 rfl ?_; simp only [List.map_cons, List.map_nil, Nat.reduceSub, List.replicate_succ, List.replicate_zero, List.cons_append, List.nil_append])
  (refine wp_cons ?_; generalize hQQ : seqF _ _ = QQ; simp -implicitDefEqProofs [exS, ev, evL, evI, evO, asgT, asgTs, seqOf_tup, seqOf_fl, getVar, permArgs, wipeE, evAnd, wp_bind, wp_ok, ok_bind, wp_evB, tr_bl, Pk70.s33_0]; subst hQQ)
  refine look_ok F.h1 F.h20 F.h21 h0 (by rw [List.length_map]; omega) ?_
  simp only [seqF]
  (refine wp_cons ?_; generalize hQQ : seqF _ _ = QQ; simp -implicitDefEqProofs [exS, ev, evL, evI, evO, asgT, asgTs, seqOf_tup, seqOf_fl, getVar, permArgs, wipeE, evAnd, wp_bind, wp_ok, ok_bind, wp_evB, tr_bl, Pk70.s33_1, in_ints2, hd]; subst hQQ)
  refine wp_nil ?_
  simp only [seqF]
  generalize hz : (h.length : Int) = z
  have c1 : ∀ S : Store, callB .len false [encH h] S = .ok (.int z) S := fun S => by rw [← hz]; simp [encH, cb_len_tup]
  have hp := List.length_pos_iff.mpr hne
  have hz1 : (z == 0) = false := by simp; omega
  have hz2 : z ≠ 0 := by omega
  (refine wp_cons ?_; generalize hQQ : seqF _ _ = QQ; simp -implicitDefEqProofs [exS, ev, evL, evI, evO, asgT, asgTs, seqOf_tup, seqOf_fl, getVar, permArgs, wipeE, evAnd, wp_bind, wp_ok, ok_bind, wp_evB, tr_bl, Pk70.s33_2, gi, c1, cmp_eq, hz1, hz2]; subst hQQ)
  refine wp_nil ?_
  simp only [seqF]
  refine wp_nil ?_
  exact gc_same0 rfl q
theorem pecked_ok {P : Prog} (F : FPeck P) {k : Nat} {S : Store} {r : Room} {b : Int} {doz : List Int} {h : Heap} {w : Nat} {t : List Nat} (h0 : 0 ≤ b) (X : Pk r b.toNat h w t) (hd : b ∉ doz) (hsz : size r < 10000) (hlen : r.length < 10000)
    {Q : PV → Store → Prop} (q : Q (encR (peck r b.toNat)) S) : wp (callN P (k + 5) 35 [encR r, .int b, .fl (doz.map .int)] S) Q := by
  have h35 := F.h35
  unfold Pk70.d35 at h35
  (refine wp_call h35 rfl ?_; simp only [List.map_cons, List.map_nil, Nat.reduceSub, List.replicate_succ, List.replicate_zero, List.cons_append, List.nil_append])
  (refine wp_cons ?_; generalize hQQ : seqF _ _ = QQ; simp -implicitDefEqProofs [exS, ev, evL, evI, evO, asgT, asgTs, seqOf_tup, seqOf_fl, getVar, permArgs, wipeE, evAnd, wp_bind, wp_ok, ok_bind, wp_evB, tr_bl, Pk70.s35_0]; subst hQQ)
  refine lookpeck_ok F h0 X.hh (fun e => by have := X.hl; rw [e] at this; cases this) hd ?_
  simp only [seqF]
  (refine wp_cons ?_; generalize hQQ : seqF _ _ = QQ; simp -implicitDefEqProofs [exS, ev, evL, evI, evO, asgT, asgTs, seqOf_tup, seqOf_fl, getVar, permArgs, wipeE, evAnd, wp_bind, wp_ok, ok_bind, wp_evB, tr_bl, Pk70.s35_1]; subst hQQ)
  refine standing_ok F.h19 F.h28 hsz hlen ?_
  refine gone_ok F.h34 X.g h0 X.hh X.hl hsz hlen ?_
  simp only [seqF]
  exact gc_same0 plainR q
end LC

namespace LC
open G
structure FStep (P : Prog) : Prop where
  L : FLine P
  K : FPeck P
  h22 : P.fn 22 = some Pk70.d22
  h24 : P.fn 24 = some Pk70.d24
  h25 : P.fn 25 = some Pk70.d25
  h51 : P.fn 51 = some Pk70.d51
  h52 : P.fn 52 = some Pk70.d52
  h53 : P.fn 53 = some Pk70.d53
  h54 : P.fn 54 = some Pk70.d54
  h57 : P.fn 57 = some Pk70.d57
  h58 : P.fn 58 = some Pk70.d58
  h59 : P.fn 59 = some Pk70.d59
  h61 : P.fn 61 = some Pk70.d61
theorem sort2 {a b : Int} {S : Store} : callB .sorted false [.fl [.int a, .int b]] S = .ok (.fl (if a ≤ b then [.int a, .int b] else [.int b, .int a])) S := by
  have e : pairsOf [PV.int a, PV.int b] = none := rfl
  by_cases h : a ≤ b <;> simp [callB, lstOf, intsOf, e, lift, R.bind, isort, isIns, newList, sizeL, h]
theorem moved {r : Room} {b w : Nat} {h : Heap} {t : List Nat} (X : Pk r b h w t) {i j : Nat} (hij : i ≠ j) : ((held (peck r b) i j).length : Int) - (held r i j).length = if i = b ∧ j = w then -1 else if i = w ∧ j = b then 1 else 0 := by
  by_cases h1 : i = b
  · subst h1
    have q := congrArg List.length (X.held_b (j := j))
    by_cases h2 : w = j
    · subst h2; simp at q; simp; omega
    · rw [if_neg h2] at q
      have e1 : ¬ (j = w) := fun e => h2 e.symm
      have e2 : ¬ (j = i) := Ne.symm hij
      simp [e1, e2]
      simp at q
      omega
  · by_cases h2 : i = w
    · subst h2
      have q := congrArg List.length (X.held_w (j := j))
      by_cases h3 : b = j
      · subst h3; simp at q; simp [h1]; omega
      · have e1 : ¬ (j = b) := fun e => h3 e.symm
        rw [if_neg h3] at q
        simp [h1, e1]; simp at q; omega
    · rw [X.held_o h1 h2]
      simp [h1, h2]
theorem ij_inj {a b : Int × Int} (h : encIJ a = encIJ b) : a = b := by simp [encIJ] at h; exact Prod.ext h.1 h.2
theorem newList_ok {l : List PV} {S : Store} (h : l.length ≤ sizeL) : newList false l S = .ok (.fl l) S := by
  unfold newList
  rw [if_pos h, if_neg Bool.false_ne_true]
theorem step_ok {P : Prog} (F : FStep P) (h407 : P.fn 407 = some Pk70.d407) {k : Nat} {S : Store} {r : Room} {b : Int} {h : Heap} {w : Nat} {t : List Nat} (h0 : 0 ≤ b) (X : Pk r b.toNat h w t) (hsz : size r < 10000) (hlen : r.length < 1000)
    {Q : PV → Store → Prop} (q : Q (.bl true) S) : wp (callN P (k + 7) 407 [encR r, encR (peck r b.toNat), .int b, .fl ((lns r).map encL)] S) Q := by
  unfold Pk70.d407 at h407
  have hw := X.wlt
  have hb := X.blt
  have hsz2 : size (peck r b.toNat) < 10000 := by rw [X.size]; exact hsz
  have hlen2 := X.len
  have hsame := X.same
  (refine wp_call h407 rfl ?_; simp only [List.map_cons, List.map_nil, Nat.reduceSub, List.replicate_succ, List.replicate_zero, List.cons_append, List.nil_append])
  (refine wp_cons ?_; generalize hQQ : seqF _ _ = QQ; simp -implicitDefEqProofs [exS, ev, evL, evI, evO, asgT, asgTs, seqOf_tup, seqOf_fl, getVar, permArgs, wipeE, evAnd, wp_bind, wp_ok, ok_bind, wp_evB, tr_bl, Pk70.s407_0]; subst hQQ)
  refine upper_ok F.L.h1 F.K.h19 F.L.h20 F.L.h21 F.h22 hsz h0 X.hh ?_
  rw [X.hl]
  simp only [encP]
  generalize hwi : (w : Int) = wi
  have hwn : wi.toNat = w := by omega
  ((try generalize hQQ : endsF _ _ = QQ); simp -implicitDefEqProofs [exS, ev, evL, evI, evO, asgT, asgTs, seqOf_tup, seqOf_fl, getVar, permArgs, wipeE, evAnd, wp_bind, wp_ok, ok_bind, wp_evB, tr_bl]; (try subst hQQ))
  simp only [seqF]
  (refine wp_cons ?_; generalize hQQ : seqF _ _ = QQ; simp -implicitDefEqProofs [exS, ev, evL, evI, evO, asgT, asgTs, seqOf_tup, seqOf_fl, getVar, permArgs, wipeE, evAnd, wp_bind, wp_ok, ok_bind, wp_evB, tr_bl, Pk70.s407_1]; subst hQQ)
  refine upper_ok F.L.h1 F.K.h19 F.L.h20 F.L.h21 F.h22 hsz2 (show 0 ≤ wi by omega) (by rw [hwn]; exact X.at_w) ?_
  rw [List.getLast?_append, List.getLast?_singleton, Option.some_or]
  simp only [encP, Int.toNat_of_nonneg h0]
  rw [newTup_ok (by simp [sizeL])]
  simp only [wp_ok]
  rw [cmp_neP rfl rfl rfl rfl]
  simp only [wp_ok, decide_true, Bool.not_true, lift, truthy, Bool.false_eq_true, if_false, wp_bind]
  refine grudges_ok F.h24 (by omega) fun z1 hz1 => ?_
  refine grudges_ok F.h24 (by omega) fun z2 hz2 => ?_
  have ez : z1 = z2 := by rw [hz1, hz2, X.size]
  subst ez
  simp only [cmp_neI, wp_ok, bne_self_eq_false, truthy, Bool.false_eq_true, if_false]
  refine wp_nil ?_
  simp only [seqF]
  (refine wp_cons ?_; generalize hQQ : seqF _ _ = QQ; simp -implicitDefEqProofs [exS, ev, evL, evI, evO, asgT, asgTs, seqOf_tup, seqOf_fl, getVar, permArgs, wipeE, evAnd, wp_bind, wp_ok, ok_bind, wp_evB, tr_bl, Pk70.s407_2]; subst hQQ)
  rw [show encR r = PV.tup (r.map encH) from rfl]
  refine lpairs_ok F.h61 (by rw [List.length_map]; exact hlen) ?_
  rw [List.length_map, ← show encR r = PV.tup (r.map encH) from rfl]
  simp only [itemsOf, wp_ok]
  refine wp_forM (fun done env S' => S' = S ∧ ∃ x6 x7 x8 x9, env = [some (encR r), some (encR (peck r b.toNat)), some (.int b), some (.fl ((lns r).map encL)), some (.int wi), some (.str t), x6, x7, x8, x9]) ⟨rfl, none, none, none, none, rfl⟩ ?_ ?_
  · rintro done x rest env S' hx ⟨rfl, x6, x7, x8, x9, rfl⟩
    refine ⟨rfl, ?_⟩
    obtain ⟨l1, l2, e1, e2, e3⟩ := List.map_eq_append_iff.mp hx
    obtain ⟨p, l3, e4, rfl, e5⟩ := List.map_eq_cons_iff.mp e3
    have hpm : p ∈ prs r.length := by rw [e1, e4]; simp
    have hm := mem_prs.mp hpm
    obtain ⟨i, j⟩ := p
    simp at hm
    ((try generalize hQQ : endsF _ _ = QQ); simp -implicitDefEqProofs [exS, ev, evL, evI, evO, asgT, asgTs, seqOf_tup, seqOf_fl, getVar, permArgs, wipeE, evAnd, wp_bind, wp_ok, ok_bind, wp_evB, tr_bl, encIJ]; (try subst hQQ))
    (refine wp_cons ?_; generalize hQQ : seqF _ _ = QQ; simp -implicitDefEqProofs [exS, ev, evL, evI, evO, asgT, asgTs, seqOf_tup, seqOf_fl, getVar, permArgs, wipeE, evAnd, wp_bind, wp_ok, ok_bind, wp_evB, tr_bl, Pk70.s407_2_0]; subst hQQ)
    refine line_ok F.L.h1 F.L.h20 F.L.h21 F.L.h23 F.L.h50 hsz2 (by omega) (by omega) (by omega) (by omega) ?_
    refine lline_ok F.h25 F.h54 hsz (by omega) (by omega) (by omega) (by omega) ?_
    rw [cmp_neP plainW plainW cleanW cleanW]
    have el : (encW (line (peck r b.toNat) i.toNat j.toNat) = encW (line r i.toNat j.toNat)) = True := by
      rw [X.line (show i.toNat ≠ j.toNat by omega)]
      simp
    simp only [wp_ok, el, decide_true, Bool.not_true, lift, truthy, Bool.false_eq_true, if_false]
    refine wp_nil ?_
    simp only [seqF]
    have hmv := moved X (i := i.toNat) (j := j.toNat) (by omega)
    (refine wp_cons ?_; generalize hQQ : seqF _ _ = QQ; simp -implicitDefEqProofs [exS, ev, evL, evI, evO, asgT, asgTs, seqOf_tup, seqOf_fl, getVar, permArgs, wipeE, evAnd, wp_bind, wp_ok, ok_bind, wp_evB, tr_bl, Pk70.s407_2_1]; subst hQQ)
    refine cut_ok F.L.h1 F.L.h20 F.L.h21 F.L.h23 F.h51 hsz2 (by omega) (by omega) (by omega) (by omega) ?_
    refine cut_ok F.L.h1 F.L.h20 F.L.h21 F.L.h23 F.h51 hsz (by omega) (by omega) (by omega) (by omega) ?_
    rw [bi_sub, hmv]
    simp only [wp_ok, seqF]
    generalize hd : (if i.toNat = b.toNat ∧ j.toNat = w then (-1 : Int) else if i.toNat = w ∧ j.toNat = b.toNat then 1 else 0) = d
    have l2 : ∀ x y : PV, ∀ S : Store, newList false [x, y] S = .ok (.fl [x, y]) S := fun x y S => newList_ok (by simp [sizeL])
    have due : ∀ QQ : Fl → Store → Prop, QQ (.nx [some (encR r), some (encR (peck r b.toNat)), some (.int b), some (.fl ((lns r).map encL)), some (.int wi), some (.str t), some (.int i), some (.int j), some (.int d), some (.int d)]) S' → wp (exS P (callN P (k + 6)) Pk70.s407_2_2 [some (encR r), some (encR (peck r b.toNat)), some (.int b), some (.fl ((lns r).map encL)), some (.int wi), some (.str t), some (.int i), some (.int j), some (.int d), x9] S') QQ := by
      intro QQ hq
      simp -implicitDefEqProofs only [Pk70.s407_2_2, exS, ev, evL, getVar, negV, asgT, wp_bind, wp_ok, ok_bind, wp_evB, List.getElem?_cons_succ, List.getElem?_cons_zero, l2, sort2]
      have hp : ∀ x y : Int, plain depthL (.fl [.int x, .int y]) = true := fun x y => rfl
      have hc : ∀ x y : Int, clean (.fl [.int x, .int y]) = true := fun x y => rfl
      have hs : (PV.fl (if b ≤ wi then [.int b, .int wi] else [.int wi, .int b])) = .fl [.int (if b ≤ wi then b else wi), .int (if b ≤ wi then wi else b)] := by split <;> rfl
      rw [hs, cmp_neP (hp _ _) (hp _ _) (hc _ _) (hc _ _)]
      simp only [wp_ok, tr_bl]
      have ei : ∀ S : Store, callB .int false [.bl (b == i)] S = .ok (.int (if b = i then 1 else 0)) S := fun S => by
        show R.ok (PV.int (if (b == i) = true then 1 else 0)) S = _
        by_cases h : b = i <;> simp [h]
      by_cases hc : (if b ≤ wi then b else wi) = i ∧ (if b ≤ wi then wi else b) = j
      · have e1 : decide (PV.fl [.int (if b ≤ wi then b else wi), .int (if b ≤ wi then wi else b)] = .fl [.int i, .int j]) = true := by simp [hc]
        simp only [e1, Bool.not_true, Bool.false_eq_true, if_false, wp_bind, wp_ok, cmp_eq, ei]
        by_cases hbi : b = i
        · have : d = -1 := by
            rw [← hd, if_pos ?_]
            by_cases hle : b ≤ wi
            · simp only [hle, if_true] at hc; omega
            · simp only [hle, if_false] at hc; omega
          subst this
          rw [if_pos hbi]
          exact wp_val hq
        · have : d = 1 := by
            rw [← hd, if_neg (by omega), if_pos ?_]
            by_cases hle : b ≤ wi
            · simp only [hle, if_true] at hc; omega
            · simp only [hle, if_false] at hc; omega
          subst this
          rw [if_neg hbi]
          exact wp_val hq
      · have e1 : decide (PV.fl [.int (if b ≤ wi then b else wi), .int (if b ≤ wi then wi else b)] = .fl [.int i, .int j]) = false := by
          simp only [decide_eq_false_iff_not]
          intro h
          simp only [PV.fl.injEq, List.cons.injEq, PV.int.injEq, and_true] at h
          exact hc h
        simp only [e1, Bool.not_false, if_true, wp_ok]
        have : d = 0 := by
          rw [← hd]
          by_cases hle : b ≤ wi
          · simp only [hle, if_true] at hc
            rw [if_neg (by omega), if_neg (by omega)]
          · simp only [hle, if_false] at hc
            rw [if_neg (by omega), if_neg (by omega)]
        subst this
        exact hq
    refine wp_cons ?_
    refine due _ ?_
    simp only [seqF]
    (refine wp_cons ?_; generalize hQQ : seqF _ _ = QQ; simp -implicitDefEqProofs [exS, ev, evL, evI, evO, asgT, asgTs, seqOf_tup, seqOf_fl, getVar, permArgs, wipeE, evAnd, wp_bind, wp_ok, ok_bind, wp_evB, tr_bl, Pk70.s407_2_3, cmp_neI]; subst hQQ)
    refine wp_nil ?_
    simp only [seqF]
    refine wp_nil ?_
    exact ⟨rfl, some (.int i), some (.int j), some (.int d), some (.int d), rfl⟩
  · rintro env S' ⟨rfl, x6, x7, x8, x9, rfl⟩
    refine ⟨rfl, ?_⟩
    simp only [seqF]
    (refine wp_cons ?_; generalize hQQ : seqF _ _ = QQ; simp -implicitDefEqProofs [exS, ev, evL, evI, evO, asgT, asgTs, seqOf_tup, seqOf_fl, getVar, permArgs, wipeE, evAnd, wp_bind, wp_ok, ok_bind, wp_evB, tr_bl, Pk70.s407_3]; subst hQQ)
    refine linesof_ok F.L F.h52 F.h53 hsz2 (by omega) ?_
    rw [← hsame.lns, cmp_eqP lns_plain lns_plain lns_clean lns_clean]
    simp only [wp_ok, decide_true, lift, truthy, if_true, wp_bind]
    refine unlike_ok F.L F.h52 F.h57 F.h58 F.h59 hsz hsz2 hlen (by omega) ?_
    rw [hsame.unl]
    simp only [encU, cmp_is_non, wp_ok, seqF]
    exact gc_same0 rfl q
end LC

namespace LC
open G
structure FDraw (P : Prog) : Prop where
  h6 : P.fn 6 = some Pk70.d6
  h7 : P.fn 7 = some Pk70.d7
  h8 : P.fn 8 = some Pk70.d8
  h10 : P.fn 10 = some Pk70.d10
  h12 : P.fn 12 = some Pk70.d12
  h13 : P.fn 13 = some Pk70.d13
  h37 : P.fn 37 = some Pk70.d37
  h38 : P.fn 38 = some Pk70.d38
  h39 : P.fn 39 = some Pk70.d39
theorem set_set {S : Store} {n : Nat} {x y : Cell} : (S.set n x).set n y = S.set n y := List.set_set ..
theorem right70 {P : Prog} (F : FStep P) (D : FDraw P) (h407 : P.fn 407 = some Pk70.d407) (h408 : P.fn 408 = some Pk70.d408) {k n : Nat} {S : Store} {a b c : Int} (hS : S[n]? = some (box a b c))
    {Q : PV → Store → Prop} (q : ∀ a' b' c', Q (.bl true) (S.set n (box a' b' c'))) : wp (callN P (k + 8) 408 [.loc n] S) Q := by
  unfold Pk70.d408 at h408
  have hn : n < S.length := (List.getElem?_eq_some_iff.mp hS).1
  (refine wp_call h408 rfl ?_; simp only [List.map_cons, List.map_nil, Nat.reduceSub, List.replicate_succ, List.replicate_zero, List.cons_append, List.nil_append])
  (refine wp_cons ?_; generalize hQQ : seqF _ _ = QQ; simp -implicitDefEqProofs [exS, ev, evL, evI, evO, asgT, asgTs, seqOf_tup, seqOf_fl, getVar, permArgs, wipeE, evAnd, wp_bind, wp_ok, ok_bind, wp_evB, tr_bl, Pk70.s408_0]; subst hQQ)
  refine room_ok D.h7 D.h12 D.h13 hS (by decide) (by decide) (by decide) (by decide) fun room a1 b1 c1 g hr0 hr8 hsz => ?_
  simp only [seqF]
  generalize hz : (room.length : Int) = z
  have c1' : ∀ S : Store, callB .len false [encR room] S = .ok (.int z) S := fun S => by rw [← hz]; simp [encR, cb_len_tup]
  (refine wp_cons ?_; generalize hQQ : seqF _ _ = QQ; simp -implicitDefEqProofs [exS, ev, evL, evI, evO, asgT, asgTs, seqOf_tup, seqOf_fl, getVar, permArgs, wipeE, evAnd, wp_bind, wp_ok, ok_bind, wp_evB, tr_bl, Pk70.s408_1, c1']; subst hQQ)
  refine doz_ok D.h7 D.h37 (set_self hn) (by omega) (by omega) fun doz a2 b2 c2 hd hdl => ?_
  rw [set_set]
  refine linesof_ok F.L F.h52 F.h53 (by omega) (by omega) ?_
  rw [newTup_ok (by simp [sizeL])]
  simp only [wp_ok, asgTs, seqOf_tup, seqOf_fl, asgT, ok_bind, List.set_cons_succ, List.set_cons_zero, List.length_cons, List.length_nil, if_true, Nat.zero_add]
  simp only [seqF]
  (refine wp_cons ?_; generalize hQQ : seqF _ _ = QQ; simp -implicitDefEqProofs [exS, ev, evL, evI, evO, asgT, asgTs, seqOf_tup, seqOf_fl, getVar, permArgs, wipeE, evAnd, wp_bind, wp_ok, ok_bind, wp_evB, tr_bl, Pk70.s408_2]; subst hQQ)
  refine take_ok (m := 41) D.h7 (set_self hn) (by decide) (by decide) fun turns a3 b3 c3 t0 t1 => ?_
  rw [set_set]
  refine wp_rngZ t0 (by omega) ?_
  refine wp_for (fun i env S' => ∃ (here : Room) (a b c : Int) (x5 x6 x7 x8 : Option PV), env = [some (.loc n), some (encR room), some (.fl (doz.map .int)), some (.fl ((lns room).map encL)), some (encR here), x5, x6, x7, x8] ∧ S' = S.set n (box a b c) ∧ Good here ∧ Same room here ∧ size here = size room) ⟨room, a3, b3, c3, none, none, none, none, rfl, rfl, g, Same.refl, rfl⟩ ?_ ?_
  · rintro i x env S' hx ⟨here, a4, b4, c4, x5, x6, x7, x8, rfl, rfl, gh, sh, szh⟩
    obtain ⟨hlt, rfl⟩ := range_at hx
    refine ⟨rfl, ?_⟩
    generalize (0 + (i : Int)) = xi
    have hl := sh.1
    ((try generalize hQQ : endsF _ _ = QQ); simp -implicitDefEqProofs [exS, ev, evL, evI, evO, asgT, asgTs, seqOf_tup, seqOf_fl, getVar, permArgs, wipeE, evAnd, wp_bind, wp_ok, ok_bind, wp_evB, tr_bl]; (try subst hQQ))
    (refine wp_cons ?_; generalize hQQ : seqF _ _ = QQ; simp -implicitDefEqProofs [exS, ev, evL, evI, evO, asgT, asgTs, seqOf_tup, seqOf_fl, getVar, permArgs, wipeE, evAnd, wp_bind, wp_ok, ok_bind, wp_evB, tr_bl, Pk70.s408_2_0]; subst hQQ)
    refine can_ok D.h39 (by omega) fun some_ hsome hsl => ?_
    simp only [seqF]
    (refine wp_cons ?_; generalize hQQ : seqF _ _ = QQ; simp -implicitDefEqProofs [exS, ev, evL, evI, evO, asgT, asgTs, seqOf_tup, seqOf_fl, getVar, permArgs, wipeE, evAnd, wp_bind, wp_ok, ok_bind, wp_evB, tr_bl, Pk70.s408_2_1]; subst hQQ)
    rw [newList_ok (by simp [sizeL])]
    simp only [wp_ok]
    rw [cmp_eqP ints_all rfl (by simp only [clean, cleanL_all, List.all_eq_true, List.mem_map]; rintro x ⟨p, _, rfl⟩; rfl) rfl]
    simp only [wp_ok, lift, truthy]
    by_cases he : some_ = []
    · subst he
      simp only [List.map_nil, decide_true, if_true]
      (refine wp_cons ?_; generalize hQQ : seqF _ _ = QQ; simp -implicitDefEqProofs [exS, ev, evL, evI, evO, asgT, asgTs, seqOf_tup, seqOf_fl, getVar, permArgs, wipeE, evAnd, wp_bind, wp_ok, ok_bind, wp_evB, tr_bl, Pk70.s408_2_1_0]; subst hQQ)
      simp only [seqF, endsF]
      exact gc_set0 box_plain rfl (q _ _ _)
    · have e1 : decide (PV.fl (some_.map PV.int) = .fl []) = false := by simp [he]
      simp only [e1, Bool.false_eq_true, if_false]
      refine wp_nil ?_
      simp only [seqF]
      (refine wp_cons ?_; generalize hQQ : seqF _ _ = QQ; simp -implicitDefEqProofs [exS, ev, evL, evI, evO, asgT, asgTs, seqOf_tup, seqOf_fl, getVar, permArgs, wipeE, evAnd, wp_bind, wp_ok, ok_bind, wp_evB, tr_bl, Pk70.s408_2_2]; subst hQQ)
      refine of_ok D.h7 D.h10 (set_self hn) (by rw [List.length_map]; exact List.length_pos_iff.mpr he) (by rw [List.length_map]; omega) (by
        intro x hx
        obtain ⟨p, _, rfl⟩ := List.mem_map.mp hx
        rfl) fun v a5 b5 c5 hv => ?_
      rw [set_set]
      obtain ⟨bird, hb, rfl⟩ := List.mem_map.mp hv
      obtain ⟨b0, bd, h, hh, hne⟩ := hsome bird hb
      obtain ⟨p, hlast⟩ : ∃ p, h.getLast? = some p := by
        cases e : h.getLast? with
        | none => exact absurd (List.getLast?_eq_none_iff.mp e) hne
        | some p => exact ⟨p, rfl⟩
      obtain ⟨w, t⟩ := p
      have X : Pk here bird.toNat h w t := ⟨hh, hlast, gh⟩
      simp only [seqF]
      (refine wp_cons ?_; generalize hQQ : seqF _ _ = QQ; simp -implicitDefEqProofs [exS, ev, evL, evI, evO, asgT, asgTs, seqOf_tup, seqOf_fl, getVar, permArgs, wipeE, evAnd, wp_bind, wp_ok, ok_bind, wp_evB, tr_bl, Pk70.s408_2_3]; subst hQQ)
      refine pecked_ok F.K b0 X bd (by omega) (by omega) ?_
      simp only [seqF]
      (refine wp_cons ?_; generalize hQQ : seqF _ _ = QQ; simp -implicitDefEqProofs [exS, ev, evL, evI, evO, asgT, asgTs, seqOf_tup, seqOf_fl, getVar, permArgs, wipeE, evAnd, wp_bind, wp_ok, ok_bind, wp_evB, tr_bl, Pk70.s408_2_4]; subst hQQ)
      refine peck_ok D.h38 gh b0 hh hlast (by omega) (by omega) ?_
      rw [cmp_neP plainR plainR cleanR cleanR]
      simp only [wp_ok, decide_true, Bool.not_true, lift, truthy, Bool.false_eq_true, if_false, wp_bind]
      rw [sh.lns]
      rw [wp_evB]
      refine step_ok F h407 b0 X (by omega) (by omega) ?_
      simp only [wp_ok, lift, truthy, Bool.not_true, Bool.false_eq_true, if_false]
      refine wp_nil ?_
      simp only [seqF]
      (refine wp_cons ?_; generalize hQQ : seqF _ _ = QQ; simp -implicitDefEqProofs [exS, ev, evL, evI, evO, asgT, asgTs, seqOf_tup, seqOf_fl, getVar, permArgs, wipeE, evAnd, wp_bind, wp_ok, ok_bind, wp_evB, tr_bl, Pk70.s408_2_5]; subst hQQ)
      simp only [seqF]
      refine wp_nil ?_
      exact ⟨peck here bird.toNat, a5, b5, c5, some (.int xi), some (.fl (some_.map .int)), some (.int bird), some (encR (peck here bird.toNat)), rfl, rfl, X.good, sh.trans X.same, by rw [X.size]; exact szh⟩
  · rintro env S' ⟨here, a4, b4, c4, x5, x6, x7, x8, rfl, rfl, gh, sh, szh⟩
    refine ⟨rfl, ?_⟩
    simp only [seqF]
    (refine wp_cons ?_; generalize hQQ : seqF _ _ = QQ; simp -implicitDefEqProofs [exS, ev, evL, evI, evO, asgT, asgTs, seqOf_tup, seqOf_fl, getVar, permArgs, wipeE, evAnd, wp_bind, wp_ok, ok_bind, wp_evB, tr_bl, Pk70.s408_3]; subst hQQ)
    refine unlike_ok F.L F.h52 F.h57 F.h58 F.h59 (by omega) (by omega) (by omega) sh.1 ?_
    rw [sh.unl]
    simp only [encU, cmp_is_non, wp_ok, seqF]
    exact gc_set0 box_plain rfl (q _ _ _)
theorem bools_tt {l : List PV} (h : ∀ x ∈ l, x = .bl true) : bools l = some (l.map fun _ => true) := by
  induction l with
  | nil => rfl
  | cons a l ih =>
    rw [h a (List.mem_cons_self ..)]
    simp [bools, ih fun x hx => h x (List.mem_cons_of_mem _ hx)]
theorem all_tt {l : List PV} {S : Store} (h : ∀ x ∈ l, x = .bl true) : callB .all false [.fl l] S = .ok (.bl true) S := by
  have e : (l.map fun _ => true).all id = true := by simp
  simp only [callB, lstOf, Option.bind_some, bools_tt h, lift, R.bind, e]
/-- a comprehension all of whose members are True -/
theorem wp_comp_tt {w : Store → Bool} {body : PV → Store → R (List PV)} {S : Store} {Q : List PV → Store → Prop} {xs : List PV} (J : Store → Prop) (h0 : J S) (hw : ∀ S, J S → w S = true)
    (hf : ∀ x ∈ xs, ∀ S, J S → wp (body x S) fun a S' => a = [.bl true] ∧ J S') (q : ∀ l S, l.length = xs.length → (∀ x ∈ l, x = .bl true) → J S → Q l S) : wp (compL w body xs S) Q := by
  refine wp_comp (fun i acc S' => acc.length = i ∧ (∀ x ∈ acc, x = .bl true) ∧ J S') ⟨rfl, by simp, h0⟩ ?_ ?_
  · rintro i x acc S' hx ⟨e1, e2, e3⟩
    refine ⟨hw _ e3, wp_mono (hf x (List.mem_of_getElem? hx) S' e3) fun a S' h => ?_⟩
    obtain ⟨rfl, h⟩ := h
    exact ⟨by simp [e1], fun x hx => by
      rcases List.mem_append.mp hx with hx | hx
      · exact e2 x hx
      · exact List.mem_singleton.mp hx, h⟩
  · rintro acc S' ⟨e1, e2, e3⟩
    exact ⟨hw _ e3, q acc S' e1 e2 e3⟩
theorem law70 {P : Prog} (F : FStep P) (D : FDraw P) (h407 : P.fn 407 = some Pk70.d407) (h408 : P.fn 408 = some Pk70.d408) (h409 : P.fn 409 = some Pk70.d409) {k : Nat} {ns : List Int} (hn : ns.length ≤ 63) : wp (callN P (k + 9) 409 [.scr (ns.map .int)] []) fun v _ => v = .bl true := by
  unfold Pk70.d409 at h409
  (refine wp_call h409 rfl ?_; simp only [List.map_cons, List.map_nil, Nat.reduceSub, List.replicate_succ, List.replicate_zero, List.cons_append, List.nil_append])
  (refine wp_cons ?_; generalize hQQ : seqF _ _ = QQ; simp -implicitDefEqProofs [exS, ev, evL, evI, evO, asgT, asgTs, seqOf_tup, seqOf_fl, getVar, permArgs, wipeE, evAnd, wp_bind, wp_ok, ok_bind, wp_evB, tr_bl, Pk70.s409_0]; subst hQQ)
  refine cells_ok D.h8 hn (by decide) (by decide) fun l l0 l63 => ?_
  simp only [seqF]
  generalize hz : (l.length : Int) = z
  have c1 : ∀ S : Store, callB .len false [.fl (l.map .int)] S = .ok (.int z) S := fun S => by rw [← hz]; simp [cb_len_fl]
  (refine wp_cons ?_; generalize hQQ : seqF _ _ = QQ; simp -implicitDefEqProofs [exS, ev, evL, evI, evO, asgT, asgTs, seqOf_tup, seqOf_fl, getVar, permArgs, wipeE, evAnd, wp_bind, wp_ok, ok_bind, wp_evB, tr_bl, Pk70.s409_1, c1]; subst hQQ)
  refine wp_rngZ (by omega) (by omega) ?_
  refine wp_for (fun i env S' => ∃ x2 x3 x4, env = [some (.scr (ns.map .int)), some (.fl (l.map .int)), x2, x3, x4]) ⟨none, none, none, rfl⟩ ?_ ?_
  · rintro i x env S' hx ⟨x2, x3, x4, rfl⟩
    obtain ⟨hlt, rfl⟩ := range_at hx
    refine ⟨rfl, ?_⟩
    generalize hxi : (0 + (i : Int)) = xi
    ((try generalize hQQ : endsF _ _ = QQ); simp -implicitDefEqProofs [exS, ev, evL, evI, evO, asgT, asgTs, seqOf_tup, seqOf_fl, getVar, permArgs, wipeE, evAnd, wp_bind, wp_ok, ok_bind, wp_evB, tr_bl]; (try subst hQQ))
    (refine wp_cons ?_; generalize hQQ : seqF _ _ = QQ; simp -implicitDefEqProofs [exS, ev, evL, evI, evO, asgT, asgTs, seqOf_tup, seqOf_fl, getVar, permArgs, wipeE, evAnd, wp_bind, wp_ok, ok_bind, wp_evB, tr_bl, Pk70.s409_1_0]; subst hQQ)
    refine box_ok D.h6 (by omega) (by omega) l63 fun a b c => ?_
    simp only [seqF]
    have hS : (S' ++ [box a b c])[S'.length]? = some (box a b c) := get_last
    (refine wp_cons ?_; generalize hQQ : seqF _ _ = QQ; simp -implicitDefEqProofs [exS, ev, evL, evI, evO, asgT, asgTs, seqOf_tup, seqOf_fl, getVar, permArgs, wipeE, evAnd, wp_bind, wp_ok, ok_bind, wp_evB, tr_bl, Pk70.s409_1_1]; subst hQQ)
    refine wp_rng1 (j := 2) (by decide) ?_
    refine wp_comp_tt (fun T => ∃ a b c, T = S' ++ [box a b c]) ⟨a, b, c, rfl⟩ (fun _ _ => rfl) (fun x hx T hT => ?_) fun l T hl hl2 hT => ?_
    · obtain ⟨a, b, c, rfl⟩ := hT
      refine wp_noEx ?_
      ((try generalize hQQ : endsF _ _ = QQ); simp -implicitDefEqProofs [exS, ev, evL, evI, evO, asgT, asgTs, seqOf_tup, seqOf_fl, getVar, permArgs, wipeE, evAnd, wp_bind, wp_ok, ok_bind, wp_evB, tr_bl]; (try subst hQQ))
      refine right70 F D h407 h408 get_last fun a' b' c' => ?_
      rw [set_last]
      exact ⟨rfl, a', b', c', rfl⟩
    · obtain ⟨a, b, c, rfl⟩ := hT
      refine wp_fl (by rw [hl, range_len]; decide) ?_
      rw [all_tt hl2]
      simp only [wp_ok, lift, truthy, Bool.not_true, Bool.false_eq_true, if_false]
      rw [if_neg (by decide)]
      refine wp_nil ?_
      simp only [seqF]
      refine wp_nil ?_
      exact ⟨some (.int xi), some (.loc S'.length), x4, rfl⟩
  · rintro env S' ⟨x2, x3, x4, rfl⟩
    refine ⟨rfl, ?_⟩
    simp only [seqF]
    (refine wp_cons ?_; generalize hQQ : seqF _ _ = QQ; simp -implicitDefEqProofs [exS, ev, evL, evI, evO, asgT, asgTs, seqOf_tup, seqOf_fl, getVar, permArgs, wipeE, evAnd, wp_bind, wp_ok, ok_bind, wp_evB, tr_bl, Pk70.s409_2]; subst hQQ)
    simp only [seqF]
    have e : ([] : Store) ++ S' = S' := rfl
    rw [← e]
    exact gc_same rfl rfl
end LC

namespace LC
open G
/-! ### what can't move: plain law -/
/-- the places, from n on, of grudges about sleepers -/
def slp (z : List Int) : Nat → Heap → List Nat
  | _, [] => []
  | n, p :: h => if (p.1 : Int) ∈ z then n :: slp z (n + 1) h else slp z (n + 1) h
def cnt (z : List Int) (h : Heap) : Nat := (slp z 0 h).length
/-- how far the lowest k of them reach -/
def lowOf (z : List Int) (h : Heap) (k : Nat) : Nat := match ((slp z 0 h).take k).getLast? with
  | some p => p + 1
  | none => 0
theorem slp_shift (z : List Int) : ∀ (h : Heap) (n : Nat), slp z n h = (slp z 0 h).map (· + n)
  | [], n => rfl
  | p :: h, n => by
    simp only [slp]
    rw [slp_shift z h (n + 1), slp_shift z h (0 + 1)]
    split
    · simp [Nat.add_comm, Nat.add_left_comm, Nat.add_assoc]
    · simp [Nat.add_comm, Nat.add_left_comm, Nat.add_assoc]
theorem slp_app (z : List Int) (a b : Heap) : ∀ n, slp z n (a ++ b) = slp z n a ++ slp z (n + a.length) b := by
  induction a with
  | nil => intro n; simp [slp]
  | cons p a ih =>
    intro n
    simp only [List.cons_append, slp, List.length_cons, ih (n + 1)]
    rw [show n + 1 + a.length = n + (a.length + 1) by omega]
    split <;> rfl
theorem slp_lt (z : List Int) : ∀ (h : Heap) (n : Nat), ∀ p ∈ slp z n h, n ≤ p ∧ p < n + h.length
  | [], n => by simp [slp]
  | q :: h, n => by
    intro p hp
    simp only [slp] at hp
    have ih := slp_lt z h (n + 1)
    split at hp
    · rcases List.mem_cons.mp hp with rfl | hp
      · simp
      · have := ih p hp; simp; omega
    · have := ih p hp; simp; omega
theorem slp_sorted (z : List Int) : ∀ (h : Heap) (n : Nat), (slp z n h).Pairwise (· < ·)
  | [], n => .nil
  | q :: h, n => by
    simp only [slp]
    split
    · rw [List.pairwise_cons]
      exact ⟨fun p hp => by have := slp_lt z h (n + 1) p hp; omega, slp_sorted z h (n + 1)⟩
    · exact slp_sorted z h (n + 1)
/-- without sleepers -/
def Free (z : List Int) (u : Heap) : Prop := ∀ p ∈ u, (p.1 : Int) ∉ z
theorem slp_free {z : List Int} : ∀ {u : Heap} {n : Nat}, Free z u → slp z n u = []
  | [], _, _ => rfl
  | p :: u, n, h => by
    simp only [slp, if_neg (h p (List.mem_cons_self ..))]
    exact slp_free fun q hq => h q (List.mem_cons_of_mem _ hq)
theorem cnt_app {z : List Int} {a b : Heap} : cnt z (a ++ b) = cnt z a + cnt z b := by
  unfold cnt
  rw [slp_app, List.length_append, slp_shift z b, List.length_map]
theorem cnt_free {z : List Int} {u : Heap} (h : Free z u) : cnt z u = 0 := by unfold cnt; rw [slp_free h]; rfl
theorem low_le {z : List Int} {h : Heap} {k : Nat} : lowOf z h k ≤ h.length := by
  unfold lowOf
  cases e : ((slp z 0 h).take k).getLast? with
  | none => exact Nat.zero_le _
  | some p =>
    have := slp_lt z h 0 p (List.mem_of_mem_take (List.mem_of_getLast? e))
    simp at this ⊢
    omega
/-- a heap of which a beginning is kept: then what's above is of awake ones -/
theorem low_cnt {z : List Int} {h : Heap} {k : Nat} (hk : k ≤ cnt z h) : cnt z (h.take (lowOf z h k)) = k := by
  have key : ∀ (h : Heap) (n k : Nat), k ≤ (slp z n h).length → ∀ m, (match ((slp z n h).take k).getLast? with | some p => p + 1 | none => n) = n + m → cnt z (h.take m) = k := by
    intro h
    induction h with
    | nil =>
      intro n k hk m hm
      simp [slp] at hk
      subst hk
      rw [List.take_nil]
      rfl
    | cons p h ih =>
      intro n k hk m hm
      by_cases hp : (p.1 : Int) ∈ z
      · simp only [slp, if_pos hp] at hk hm
        cases k with
        | zero =>
          simp at hm
          subst hm
          rfl
        | succ k =>
          rw [List.take_succ_cons] at hm
          have e : (match (n :: (slp z (n + 1) h).take k).getLast? with | some p => p + 1 | none => n) = (match ((slp z (n + 1) h).take k).getLast? with | some p => p + 1 | none => n + 1) := by
            rw [List.getLast?_cons]
            cases ((slp z (n + 1) h).take k).getLast? <;> rfl
          rw [e] at hm
          have hm1 : 0 < m := by
            cases e2 : ((slp z (n + 1) h).take k).getLast? with
            | none => rw [e2] at hm; simp at hm; omega
            | some q =>
              rw [e2] at hm
              have := slp_lt z h (n + 1) q (List.mem_of_mem_take (List.mem_of_getLast? e2))
              simp at hm; omega
          obtain ⟨m, rfl⟩ : ∃ m', m = m' + 1 := ⟨m - 1, by omega⟩
          have q := ih (n + 1) k (by simpa using hk) m (by rw [hm]; omega)
          rw [List.take_succ_cons, show p :: h.take m = [p] ++ h.take m from rfl, cnt_app, q]
          simp [cnt, slp, hp]
          omega
      · simp only [slp, if_neg hp] at hk hm
        cases k with
        | zero => simp at hm; subst hm; rfl
        | succ k =>
          cases e2 : ((slp z (n + 1) h).take (k + 1)).getLast? with
          | none =>
            rw [List.getLast?_eq_none_iff, List.take_eq_nil_iff] at e2
            rcases e2 with e2 | e2
            · omega
            · rw [e2] at hk; simp at hk
          | some q =>
            rw [e2] at hm
            have := slp_lt z h (n + 1) q (List.mem_of_mem_take (List.mem_of_getLast? e2))
            simp at hm
            obtain ⟨m, rfl⟩ : ∃ m', m = m' + 1 := ⟨m - 1, by omega⟩
            have q2 := ih (n + 1) (k + 1) hk m (by rw [e2]; simp; omega)
            rw [List.take_succ_cons, show p :: h.take m = [p] ++ h.take m from rfl, cnt_app, q2]
            simp [cnt, slp, hp]
  have := key h 0 k hk (lowOf z h k) (by unfold lowOf; rw [Nat.zero_add])
  exact this
/-- what's from one bird's heap to its later one, awake -/
def Mid (z : List Int) (a b : Heap) : Prop := ∃ k u, k ≤ cnt z a ∧ b = a.take (lowOf z a k) ++ u ∧ Free z u
theorem Mid.form {z : List Int} {a b : Heap} (h : Mid z a b) : ∃ u, cnt z b ≤ cnt z a ∧ b = a.take (lowOf z a (cnt z b)) ++ u ∧ Free z u := by
  obtain ⟨k, u, hk, rfl, hf⟩ := h
  have e : cnt z (a.take (lowOf z a k) ++ u) = k := by rw [cnt_app, low_cnt hk, cnt_free hf]; rfl
  rw [e]
  exact ⟨u, hk, rfl, hf⟩
theorem low_all {z : List Int} {a : Heap} : ∃ u, a = a.take (lowOf z a (cnt z a)) ++ u ∧ Free z u := by
  refine ⟨a.drop (lowOf z a (cnt z a)), (List.take_append_drop _ _).symm, fun p hp hz => ?_⟩
  have h1 := low_cnt (z := z) (h := a) (Nat.le_refl _)
  have h2 : cnt z a = cnt z (a.take (lowOf z a (cnt z a))) + cnt z (a.drop (lowOf z a (cnt z a))) := by
    rw [← cnt_app, List.take_append_drop]
  have h3 : cnt z (a.drop (lowOf z a (cnt z a))) = 0 := by omega
  have : ∀ {u : Heap} {n}, (p ∈ u) → slp z n u ≠ [] := by
    intro u
    induction u with
    | nil => intro n h; cases h
    | cons q u ih =>
      intro n h
      rcases List.mem_cons.mp h with rfl | h
      · simp [slp, hz]
      · simp only [slp]
        split
        · simp
        · exact ih h
  exact this (n := 0) hp (List.length_eq_zero_iff.mp h3)
theorem Mid.refl {z : List Int} {a : Heap} : Mid z a a := by
  obtain ⟨u, e, f⟩ := low_all (z := z) (a := a)
  exact ⟨cnt z a, u, Nat.le_refl _, e, f⟩
theorem Mid.push {z : List Int} {a b : Heap} {p : Nat × List Nat} (h : Mid z a b) (hp : (p.1 : Int) ∉ z) : Mid z a (b ++ [p]) := by
  obtain ⟨k, u, hk, rfl, hf⟩ := h
  refine ⟨k, u ++ [p], hk, by rw [List.append_assoc], fun q hq => ?_⟩
  rcases List.mem_append.mp hq with hq | hq
  · exact hf q hq
  · rw [List.mem_singleton.mp hq]; exact hp
/-- one lower -/
theorem free_of_cnt {z : List Int} {u : Heap} (h : cnt z u = 0) : Free z u := by
  intro p hp hz
  have : ∀ {u : Heap} {n}, (p ∈ u) → slp z n u ≠ [] := by
    intro u
    induction u with
    | nil => intro n h; cases h
    | cons q u ih =>
      intro n h
      rcases List.mem_cons.mp h with rfl | h
      · simp [slp, hz]
      · simp only [slp]
        split
        · simp
        · exact ih h
  exact this (n := 0) hp (List.length_eq_zero_iff.mp h)
theorem low_step {z : List Int} {a : Heap} {k : Nat} (hk : k + 1 ≤ cnt z a) : ∃ u p, a.take (lowOf z a (k + 1)) = a.take (lowOf z a k) ++ u ++ [p] ∧ Free z u := by
  obtain ⟨q, hqk⟩ : ∃ q, (slp z 0 a)[k]? = some q := ⟨(slp z 0 a)[k]'hk, List.getElem?_eq_getElem hk⟩
  have h1 : (slp z 0 a).take (k + 1) = (slp z 0 a).take k ++ [q] := by
    rw [List.take_add_one, hqk]
    rfl
  have h2 : lowOf z a (k + 1) = q + 1 := by
    unfold lowOf
    rw [h1, List.getLast?_append]
    rfl
  have hq := slp_lt z a 0 q (List.mem_of_getElem? hqk)
  simp at hq
  have h3 : lowOf z a k ≤ q := by
    unfold lowOf
    cases e : ((slp z 0 a).take k).getLast? with
    | none => exact Nat.zero_le _
    | some q2 =>
      have hs := slp_sorted z a 0
      rw [List.getLast?_eq_getElem?] at e
      obtain ⟨hj, ej⟩ := List.getElem?_eq_some_iff.mp e
      rw [List.getElem_take] at ej
      have := List.pairwise_iff_getElem.mp hs (((slp z 0 a).take k).length - 1) k (by simp at hj ⊢; omega) hk (by simp at hj ⊢; omega)
      rw [List.getElem?_eq_getElem hk] at hqk
      have := Option.some.inj hqk
      simp only
      omega
  obtain ⟨c1, c2⟩ : cnt z (a.take (lowOf z a k)) = k ∧ cnt z (a.take (lowOf z a (k + 1))) = k + 1 := ⟨low_cnt (by omega), low_cnt hk⟩
  have e1 : a.take (lowOf z a (k + 1)) = a.take q ++ [a[q]'hq] := by
    rw [h2, List.take_add_one, List.getElem?_eq_getElem hq]
    rfl
  have e2 : a.take q = a.take (lowOf z a k) ++ (a.take q).drop (lowOf z a k) := by
    conv => lhs; rw [← List.take_append_drop (lowOf z a k) (a.take q)]
    rw [List.take_take, Nat.min_eq_left h3]
  refine ⟨(a.take q).drop (lowOf z a k), _, by rw [e1, ← e2], ?_⟩
  have e3 : cnt z (a.take q) ≤ k := by
    have h6 : slp z 0 a = slp z 0 (a.take q) ++ slp z (0 + (a.take q).length) (a.drop q) := by
      rw [← slp_app, List.take_append_drop]
    apply Classical.byContradiction
    intro hn
    have h7 : k < (slp z 0 (a.take q)).length := by unfold cnt at hn; omega
    have h8 := hqk
    rw [h6, List.getElem?_append_left h7, List.getElem?_eq_getElem h7] at h8
    have h9 := slp_lt z (a.take q) 0 _ (List.getElem_mem h7)
    rw [List.length_take] at h9
    have := Option.some.inj h8
    omega
  have e4 : cnt z ((a.take q).drop (lowOf z a k)) = 0 := by
    have := congrArg (cnt z) e2
    rw [cnt_app, c1] at this
    omega
  exact free_of_cnt e4
theorem Mid.pop {z : List Int} {a b : Heap} (h : Mid z a b) : Mid z a b.dropLast := by
  obtain ⟨k, u, hk, rfl, hf⟩ := h
  by_cases hu : u = []
  · subst hu
    rw [List.append_nil]
    cases k with
    | zero => exact ⟨0, [], by omega, by simp [lowOf], by intro p hp; cases hp⟩
    | succ k =>
      obtain ⟨v, p, e, hv⟩ := low_step hk
      refine ⟨k, v, by omega, ?_, hv⟩
      rw [e, List.dropLast_concat]
  · refine ⟨k, u.dropLast, hk, List.dropLast_append_of_ne_nil hu, fun p hp => hf p ((List.dropLast_sublist u).subset hp)⟩
end LC

namespace LC
open G
def encN (n : Nat) : PV := .int n
theorem slp_enum {z : List Int} : ∀ {h : Heap} {k : Nat}, (enumL k (h.map encP)).flatMap (fun x => match x with | .tup [n, .tup [.int a, w]] => if a ∈ z then [n] else [] | _ => []) = (slp z k h).map encN
  | [], k => rfl
  | p :: h, k => by
    simp only [List.map_cons, enumL, List.flatMap_cons, encP, slp, slp_enum (h := h) (k := k + 1)]
    by_cases e : (p.1 : Int) ∈ z
    · simp [e, encN]
    · simp [e]
theorem slp_len {z : List Int} {h : Heap} {k : Nat} : (slp z k h).length ≤ h.length := by
  induction h generalizing k with
  | nil => simp [slp]
  | cons p h ih =>
    simp only [slp]
    have := ih (k := k + 1)
    split <;> simp <;> omega
theorem natsP {l : List Nat} : plain depthL (.fl (l.map encN)) = true := by
  simp only [depthL, plain, List.all_eq_true, List.mem_map]
  rintro x ⟨p, _, rfl⟩; rfl
theorem sleepers_ok {P : Prog} (h67 : P.fn 67 = some Pk71.d67) {k : Nat} {S : Store} {h : Heap} {z : List Int} (hl : h.length < 10000)
    {Q : PV → Store → Prop} (q : Q (.fl ((slp z 0 h).map encN)) S) : wp (callN P (k + 1) 67 [encH h, .fl (z.map .int)] S) Q := by
  unfold Pk71.d67 at h67
  (refine wp_call h67 rfl ?_; simp only [List.map_cons, List.map_nil, Nat.reduceSub, List.replicate_succ, List.replicate_zero, List.cons_append, List.nil_append])
  (refine wp_cons ?_; generalize hQQ : seqF _ _ = QQ; simp -implicitDefEqProofs [exS, ev, evL, evI, evO, asgT, asgTs, seqOf_tup, seqOf_fl, getVar, permArgs, wipeE, evAnd, wp_bind, wp_ok, ok_bind, wp_evB, tr_bl, Pk71.s67_0]; subst hQQ)
  rw [show enuV (encH h) S = .ok ⟨enumL 0 (h.map encP), []⟩ S from rfl]
  simp only [wp_ok]
  refine wp_compP (fun x => match x with | .tup [n, .tup [.int a, w]] => if a ∈ z then [n] else [] | _ => []) rfl (fun x hx => ?_) ?_
  · obtain ⟨i, hi⟩ := List.mem_iff_getElem?.mp hx
    obtain ⟨y, hy, rfl⟩ := enumL_at hi
    rw [List.getElem?_map] at hy
    obtain ⟨p, hp, rfl⟩ := Option.map_eq_some_iff.mp hy
    refine wp_noEx ?_
    rw [encP]
    generalize (p.1 : Int) = a
    generalize ((0 + i : Nat) : Int) = ii
    ((try generalize hQQ : endsF _ _ = QQ); simp -implicitDefEqProofs [exS, ev, evL, evI, evO, asgT, asgTs, seqOf_tup, seqOf_fl, getVar, permArgs, wipeE, evAnd, wp_bind, wp_ok, ok_bind, wp_evB, tr_bl, in_ints2]; (try subst hQQ))
    by_cases e : a ∈ z
    · simp [e, wp_ok, wp_bind, lift, truthy]
    · simp [e, wp_ok, lift, truthy]
  · rw [slp_enum]
    have := slp_len (z := z) (h := h) (k := 0)
    refine wp_fl (by rw [List.length_map]; unfold sizeL; omega) ?_
    simp only [seqF]
    exact gc_same0 natsP q
/-- how far up what a bird has can't move -/
def lowR (z : List Int) (r s : Room) (d : Nat) : Nat := if (d : Int) ∈ z then (r[d]?.getD []).length else lowOf z (r[d]?.getD []) (cnt z (s[d]?.getD []))
theorem lowR_le {z : List Int} {r s : Room} {d : Nat} {h : Heap} (e : r[d]? = some h) : lowR z r s d ≤ h.length := by
  unfold lowR
  rw [e]
  split
  · exact Nat.le_refl _
  · exact low_le
theorem getR {r : Room} {i : Int} {h : Heap} (h0 : 0 ≤ i) (hh : r[i.toNat]? = some h) : ∀ S : Store, getIx (encR r) (.int i) S = .ok (encH h) S := fun S => by
  have e : (r.map encH)[i.toNat]? = some (encH h) := by rw [List.getElem?_map, hh]; rfl
  simp only [encR, getIx, atI_int h0 e, lift]
theorem cut_take {α : Type} {l : List α} {z : Int} (h : 0 ≤ z) : cutL l none (some z) = l.take z.toNat := by
  unfold cutL sIx
  simp [show ¬ z < 0 by omega]
theorem room_at {r : Room} {d : Int} (h0 : 0 ≤ d) (hd : d < r.length) : ∃ h, r[d.toNat]? = some h := ⟨r[d.toNat]'(by omega), by rw [List.getElem?_eq_some_iff]; exact ⟨by omega, rfl⟩⟩
theorem stillof_ok {P : Prog} (h67 : P.fn 67 = some Pk71.d67) (h68 : P.fn 68 = some Pk71.d68) {k : Nat} {S : Store} {r s : Room} {d : Int} {z : List Int} (h0 : 0 ≤ d) (hd : d < r.length) (hrs : r.length = s.length) (s1 : size r < 10000) (s2 : size s < 10000)
    {Q : PV → Store → Prop} (q : Q (.int (lowR z r s d.toNat : Nat)) S) : wp (callN P (k + 2) 68 [encR r, encR s, .int d, .fl (z.map .int)] S) Q := by
  unfold Pk71.d68 at h68
  obtain ⟨a, ha⟩ := room_at h0 hd
  obtain ⟨b, hb⟩ := room_at (r := s) h0 (by omega)
  have ga := getR h0 ha
  have gb := getR h0 hb
  have la := len_le ha
  have lb := len_le hb
  (refine wp_call h68 rfl ?_; simp only [List.map_cons, List.map_nil, Nat.reduceSub, List.replicate_succ, List.replicate_zero, List.cons_append, List.nil_append])
  have hz2 : ((d.toNat : Nat) : Int) = d := Int.toNat_of_nonneg h0
  unfold lowR at q
  rw [hz2, ha, hb] at q
  simp only [Option.getD_some] at q
  generalize hzl : (a.length : Int) = zl at q
  have ca : ∀ S : Store, callB .len false [encH a] S = .ok (.int zl) S := fun S => by rw [← hzl]; simp [encH, cb_len_tup]
  by_cases hdz : d ∈ z
  · rw [if_pos hdz] at q
    (refine wp_cons ?_; generalize hQQ : seqF _ _ = QQ; simp -implicitDefEqProofs [exS, ev, evL, evI, evO, asgT, asgTs, seqOf_tup, seqOf_fl, getVar, permArgs, wipeE, evAnd, wp_bind, wp_ok, ok_bind, wp_evB, tr_bl, Pk71.s68_0, in_ints2, hdz]; subst hQQ)
    (refine wp_cons ?_; generalize hQQ : seqF _ _ = QQ; simp -implicitDefEqProofs [exS, ev, evL, evI, evO, asgT, asgTs, seqOf_tup, seqOf_fl, getVar, permArgs, wipeE, evAnd, wp_bind, wp_ok, ok_bind, wp_evB, tr_bl, Pk71.s68_0_0, ga, ca]; subst hQQ)
    simp only [seqF]
    rw [hzl] at q
    exact gc_same0 rfl q
  · rw [if_neg hdz] at q
    (refine wp_cons ?_; generalize hQQ : seqF _ _ = QQ; simp -implicitDefEqProofs [exS, ev, evL, evI, evO, asgT, asgTs, seqOf_tup, seqOf_fl, getVar, permArgs, wipeE, evAnd, wp_bind, wp_ok, ok_bind, wp_evB, tr_bl, Pk71.s68_0, in_ints2, hdz]; subst hQQ)
    refine wp_nil ?_
    simp only [seqF]
    (refine wp_cons ?_; generalize hQQ : seqF _ _ = QQ; simp -implicitDefEqProofs [exS, ev, evL, evI, evO, asgT, asgTs, seqOf_tup, seqOf_fl, getVar, permArgs, wipeE, evAnd, wp_bind, wp_ok, ok_bind, wp_evB, tr_bl, Pk71.s68_1, gb]; subst hQQ)
    refine sleepers_ok h67 (by omega) ?_
    have cn : ((slp z 0 b).map encN).length = cnt z b := by rw [List.length_map]; rfl
    simp only [cb_len_fl, cn, wp_ok, seqF]
    generalize hk : cnt z b = kk at q
    generalize hki : (kk : Int) = ki
    (refine wp_cons ?_; generalize hQQ : seqF _ _ = QQ; simp -implicitDefEqProofs [exS, ev, evL, evI, evO, asgT, asgTs, seqOf_tup, seqOf_fl, getVar, permArgs, wipeE, evAnd, wp_bind, wp_ok, ok_bind, wp_evB, tr_bl, Pk71.s68_2, ga]; subst hQQ)
    refine sleepers_ok h67 (by omega) ?_
    simp only [optI, wp_ok]
    rw [show slice false (.fl ((slp z 0 a).map encN)) none (some ki) S = newList false (cutL ((slp z 0 a).map encN) none (some ki)) S from rfl, cut_take (by omega), show ki.toNat = kk by omega, ← List.map_take]
    have l1 := slp_len (z := z) (h := a) (k := 0)
    refine wp_fl (by rw [List.length_map, List.length_take]; unfold sizeL; omega) ?_
    simp only [seqF]
    generalize hl : (slp z 0 a).take kk = l at q
    have el : lowOf z a kk = match l.getLast? with | some p => p + 1 | none => 0 := by unfold lowOf; rw [hl] <;> cases l.getLast? <;> rfl
    rw [el] at q
    generalize hll : (l.length : Int) = ll
    have cl : ∀ S : Store, callB .len false [.fl (l.map encN)] S = .ok (.int ll) S := fun S => by rw [← hll]; simp [cb_len_fl]
    cases hg : l.getLast? with
    | none =>
      rw [hg] at q
      have : ll = 0 := by rw [← hll, List.getLast?_eq_none_iff.mp hg]; rfl
      subst this
      (refine wp_cons ?_; generalize hQQ : seqF _ _ = QQ; simp -implicitDefEqProofs [exS, ev, evL, evI, evO, asgT, asgTs, seqOf_tup, seqOf_fl, getVar, permArgs, wipeE, evAnd, wp_bind, wp_ok, ok_bind, wp_evB, tr_bl, Pk71.s68_3, cl, cmp_gt]; subst hQQ)
      simp only [seqF]
      exact gc_same0 rfl q
    | some p =>
      rw [hg] at q
      have hp : 0 < ll := by
        cases l with
        | nil => cases hg
        | cons x l => simp at hll; omega
      have e3 : (l.map encN).getLast? = some (encN p) := by rw [List.getLast?_map, hg]; rfl
      have gl : ∀ S : Store, getIx (.fl (l.map encN)) (.int (-1)) S = .ok (encN p) S := fun S => by simp only [getIx, atI_last e3, lift]
      (refine wp_cons ?_; generalize hQQ : seqF _ _ = QQ; simp -implicitDefEqProofs [exS, ev, evL, evI, evO, asgT, asgTs, seqOf_tup, seqOf_fl, getVar, permArgs, wipeE, evAnd, wp_bind, wp_ok, ok_bind, wp_evB, tr_bl, Pk71.s68_3, cl, cmp_gt, hp, gl, negV, encN, bi_add]; subst hQQ)
      simp only [seqF]
      exact gc_same0 rfl (by simpa using q)
def lows (z : List Int) (r s : Room) : List Nat := (List.range r.length).map (lowR z r s)
theorem range_fm {n : Nat} {f : Nat → PV} {g : PV → List PV} (h : ∀ i < n, g (.int (i : Nat)) = [f i]) : (rangeL 0 n).flatMap g = (List.range n).map f := by
  unfold rangeL
  rw [map_fm]
  rw [← fm_one]
  refine fm_congr fun i hi => ?_
  rw [Int.zero_add]
  exact h i (List.mem_range.mp hi)
theorem tup_natsP {l : List Nat} : plain depthL (.tup (l.map encN)) = true := by
  simp only [depthL, plain, List.all_eq_true, List.mem_map]
  rintro x ⟨p, _, rfl⟩; rfl
theorem still_ok {P : Prog} (h58 : P.fn 58 = some Pk70.d58) (h67 : P.fn 67 = some Pk71.d67) (h68 : P.fn 68 = some Pk71.d68) (h69 : P.fn 69 = some Pk71.d69) {k : Nat} {S : Store} {r s : Room} {z : List Int} (hrs : r.length = s.length) (hlen : r.length < 1000) (s1 : size r < 10000) (s2 : size s < 10000)
    {Q : PV → Store → Prop} (q : Q (.tup ((lows z r s).map encN)) S) : wp (callN P (k + 3) 69 [encR r, encR s, .fl (z.map .int)] S) Q := by
  unfold Pk71.d69 at h69
  (refine wp_call h69 rfl ?_; simp only [List.map_cons, List.map_nil, Nat.reduceSub, List.replicate_succ, List.replicate_zero, List.cons_append, List.nil_append])
  (refine wp_cons ?_; generalize hQQ : seqF _ _ = QQ; simp -implicitDefEqProofs [exS, ev, evL, evI, evO, asgT, asgTs, seqOf_tup, seqOf_fl, getVar, permArgs, wipeE, evAnd, wp_bind, wp_ok, ok_bind, wp_evB, tr_bl, Pk71.s69_0]; subst hQQ)
  refine same58_ok h58 (by rw [List.length_map, List.length_map]; exact hrs) ?_
  simp only [seqF]
  generalize hz : (r.length : Int) = n
  have cn : ∀ S : Store, callB .len false [encR r] S = .ok (.int n) S := fun S => by rw [← hz]; simp [encR, cb_len_tup]
  (refine wp_cons ?_; generalize hQQ : seqF _ _ = QQ; simp -implicitDefEqProofs [exS, ev, evL, evI, evO, asgT, asgTs, seqOf_tup, seqOf_fl, getVar, permArgs, wipeE, evAnd, wp_bind, wp_ok, ok_bind, wp_evB, tr_bl, Pk71.s69_1, cn]; subst hQQ)
  refine wp_rngZ (by omega) (by omega) ?_
  refine wp_compP (fun x => match x with | .int i => [encN (lowR z r s i.toNat)] | _ => []) rfl (fun x hx => ?_) ?_
  · obtain ⟨i, hi⟩ := List.mem_iff_getElem?.mp hx
    obtain ⟨hlt, rfl⟩ := range_at hi
    generalize hxi : (0 + (i : Int)) = xi
    refine wp_noEx ?_
    ((try generalize hQQ : endsF _ _ = QQ); simp -implicitDefEqProofs [exS, ev, evL, evI, evO, asgT, asgTs, seqOf_tup, seqOf_fl, getVar, permArgs, wipeE, evAnd, wp_bind, wp_ok, ok_bind, wp_evB, tr_bl]; (try subst hQQ))
    refine stillof_ok h67 h68 (by omega) (by omega) hrs s1 s2 ?_
    exact ⟨rfl, rfl⟩
  · rw [show n.toNat = r.length by omega, range_fm (f := fun i => encN (lowR z r s i)) (fun i _ => by simp)]
    refine wp_fl (by rw [List.length_map, List.length_range]; unfold sizeL; omega) ?_
    simp only [cb_tuple_fl, wp_ok, seqF]
    have e : PV.tup ((List.range r.length).map fun i => encN (lowR z r s i)) = .tup ((lows z r s).map encN) := by unfold lows; rw [List.map_map]; rfl
    rw [e]
    exact gc_same0 tup_natsP q
end LC

namespace LC
open G
/-- s is led to from r by pecks of awake birds -/
structure Led (z : List Int) (r s : Room) : Prop where
  good : Good s
  same : Same r s
  sz : size s = size r
  mid : ∀ (i : Nat) (a b : Heap), r[i]? = some a → s[i]? = some b → if (i : Int) ∈ z then a <+: b else Mid z a b
theorem Led.refl {z : List Int} {r : Room} (g : Good r) : Led z r r := ⟨g, Same.refl, rfl, fun i a b h1 h2 => by
  rw [h1] at h2; cases h2
  split
  · exact List.prefix_refl _
  · exact Mid.refl⟩
theorem Led.step {z : List Int} {r s : Room} {b w : Nat} {h : Heap} {t : List Nat} (L : Led z r s) (X : Pk s b h w t) (hb : (b : Int) ∉ z) : Led z r (peck s b) := by
  refine ⟨X.good, L.same.trans X.same, X.size.trans L.sz, fun i x y h1 h2 => ?_⟩
  by_cases e1 : i = b
  · subst e1
    rw [X.at_b] at h2
    cases h2
    rw [if_neg hb]
    have q := L.mid i x h h1 X.hh
    rw [if_neg hb] at q
    exact q.pop
  · by_cases e2 : i = w
    · subst e2
      rw [X.at_w] at h2
      cases h2
      obtain ⟨h3, e3⟩ : ∃ h3, s[i]? = some h3 := ⟨s[i]'X.wlt.1, List.getElem?_eq_getElem X.wlt.1⟩
      have q := L.mid i x h3 h1 e3
      rw [e3]
      simp only [Option.getD_some]
      split
      · rename_i hz
        rw [if_pos hz] at q
        exact q.trans (List.prefix_append _ _)
      · rename_i hz
        rw [if_neg hz] at q
        exact q.push hb
    · rw [X.at_o e1 e2] at h2
      exact L.mid i x y h1 h2
theorem Led.keep {z : List Int} {r s : Room} (L : Led z r s) {i : Nat} {a b : Heap} (h1 : r[i]? = some a) (h2 : s[i]? = some b) : b.take (lowR z r s i) = a.take (lowR z r s i) := by
  have q := L.mid i a b h1 h2
  unfold lowR
  rw [h1, h2]
  simp only [Option.getD_some]
  split
  · rename_i hz
    rw [if_pos hz] at q
    obtain ⟨u, rfl⟩ := q
    rw [List.take_left, List.take_length]
  · rename_i hz
    rw [if_neg hz] at q
    obtain ⟨u, hk, e, hf⟩ := q.form
    generalize hm : lowOf z a (cnt z b) = m at e
    have hl : (a.take m).length = m := by rw [List.length_take, ← hm]; exact Nat.min_eq_left low_le
    rw [e, List.take_append_of_le_length (by omega), List.take_of_length_le (by omega)]
theorem low_mono {z : List Int} {a : Heap} {k : Nat} : ∀ j, lowOf z a k ≤ lowOf z a (k + j)
  | 0 => Nat.le_refl _
  | j + 1 => by
    refine Nat.le_trans (low_mono j) ?_
    by_cases h : k + j + 1 ≤ cnt z a
    · obtain ⟨u, p, e, _⟩ := low_step h
      have := congrArg List.length e
      simp only [List.length_append, List.length_take, List.length_singleton] at this
      have l1 := low_le (z := z) (h := a) (k := k + j)
      have l2 := low_le (z := z) (h := a) (k := k + j + 1)
      rw [show k + (j + 1) = k + j + 1 by omega]
      omega
    · unfold lowOf
      unfold cnt at h
      rw [List.take_of_length_le (show (slp z 0 a).length ≤ k + j by omega), List.take_of_length_le (show (slp z 0 a).length ≤ k + (j + 1) by omega)]
      exact Nat.le_refl _
theorem Led.cnt_le {z : List Int} {r s : Room} (L : Led z r s) {i : Nat} {a b : Heap} (h1 : r[i]? = some a) (h2 : s[i]? = some b) (hz : (i : Int) ∉ z) : cnt z b ≤ cnt z a := by
  have q := L.mid i a b h1 h2
  rw [if_neg hz] at q
  obtain ⟨u, hk, _⟩ := q.form
  exact hk
theorem low_later {z : List Int} {r s t : Room} (L2 : Led z s t) {i : Nat} (h1 : i < r.length) (h2 : i < s.length) (h3 : i < t.length) : lowR z r t i ≤ lowR z r s i := by
  unfold lowR
  rw [List.getElem?_eq_getElem h1, List.getElem?_eq_getElem h2, List.getElem?_eq_getElem h3]
  simp only [Option.getD_some]
  split
  · exact Nat.le_refl _
  · rename_i hz
    have := L2.cnt_le (List.getElem?_eq_getElem h2) (List.getElem?_eq_getElem h3) hz
    have q := low_mono (z := z) (a := r[i]) (k := cnt z t[i]) (cnt z s[i] - cnt z t[i])
    rwa [show cnt z t[i] + (cnt z s[i] - cnt z t[i]) = cnt z s[i] by omega] at q
/-- how many grudges about sleepers awake birds have -/
def awk (z : List Int) (r : Room) (d : Nat) : Nat := if (d : Int) ∈ z then 0 else cnt z (r[d]?.getD [])
def awkAll (z : List Int) (r : Room) : Nat := ((List.range r.length).map (awk z r)).sum
/-- the givings of one bird -/
def gvs (z : List Int) (r s : Room) (d : Nat) : List Nat := if (d : Int) ∈ z then [] else (slp z 0 (r[d]?.getD [])).reverse.filter (fun p => lowR z r s d ≤ p)
theorem slp_filter {z : List Int} {a : Heap} {m : Nat} (hm : m ≤ a.length) : ((slp z 0 a).filter (fun p => m ≤ p)).length = cnt z a - cnt z (a.take m) := by
  have e : slp z 0 a = slp z 0 (a.take m) ++ slp z (0 + (a.take m).length) (a.drop m) := by rw [← slp_app, List.take_append_drop]
  have hl : (a.take m).length = m := by rw [List.length_take]; omega
  have f1 : (slp z 0 (a.take m)).filter (fun p => decide (m ≤ p)) = [] := by
    rw [List.filter_eq_nil_iff]
    intro p hp
    have := slp_lt z _ 0 p hp
    simp; omega
  have f2 : (slp z (0 + (a.take m).length) (a.drop m)).filter (fun p => decide (m ≤ p)) = slp z (0 + (a.take m).length) (a.drop m) := by
    rw [List.filter_eq_self]
    intro p hp
    have := slp_lt z _ _ p hp
    simp; omega
  have e2 : cnt z a = cnt z (a.take m) + (slp z (0 + (a.take m).length) (a.drop m)).length := by
    unfold cnt
    conv => lhs; rw [e]
    rw [List.length_append]
  rw [e, List.filter_append, f1, f2, e2]
  simp
theorem Led.gvs {z : List Int} {r s : Room} (L : Led z r s) {i : Nat} (hi : i < r.length) : (LC.gvs z r s i).length + awk z s i = awk z r i := by
  have hs : i < s.length := by rw [← L.same.1]; exact hi
  unfold LC.gvs awk
  split
  · rfl
  · rename_i hz
    rw [List.getElem?_eq_getElem hi, List.getElem?_eq_getElem hs]
    simp only [Option.getD_some]
    have hc := L.cnt_le (List.getElem?_eq_getElem hi) (List.getElem?_eq_getElem hs) hz
    rw [List.filter_reverse, List.length_reverse, slp_filter (lowR_le (List.getElem?_eq_getElem hi))]
    have e : lowR z r s i = lowOf z r[i] (cnt z s[i]) := by
      unfold lowR
      rw [if_neg hz, List.getElem?_eq_getElem hi, List.getElem?_eq_getElem hs]
      rfl
    rw [e, low_cnt hc]
    omega
theorem sum_add {f g h : Nat → Nat} : ∀ {l : List Nat}, (∀ i ∈ l, f i + g i = h i) → (l.map f).sum + (l.map g).sum = (l.map h).sum
  | [], _ => rfl
  | a :: l, k => by
    have h1 := k a (List.mem_cons_self ..)
    have h2 := sum_add (l := l) fun i hi => k i (List.mem_cons_of_mem _ hi)
    simp only [List.map_cons, List.sum_cons]
    omega
theorem Led.total {z : List Int} {r s : Room} (L : Led z r s) : ((List.range r.length).map fun d => (LC.gvs z r s d).length).sum + awkAll z s = awkAll z r := by
  unfold awkAll
  rw [← L.same.1]
  exact sum_add fun i hi => L.gvs (List.mem_range.mp hi)
theorem cnt_len {z : List Int} {h : Heap} : cnt z h ≤ h.length := slp_len
end LC

namespace LC
open G
/-- two rows that are the same aren't apart -/
theorem apartS_ok {P : Prog} (h57 : P.fn 57 = some Pk70.d57) {k : Nat} {S : Store} {l : List PV} (hp : ∀ x ∈ l, plain depthL x = true ∧ clean x = true)
    {Q : PV → Store → Prop} (q : Q .non S) : wp (callN P (k + 1) 57 [.tup l, .tup l] S) Q := by
  unfold Pk70.d57 at h57
  (refine wp_call h57 rfl ?_; simp only [List.map_cons, List.map_nil, Nat.reduceSub, List.replicate_succ, List.replicate_zero, List.cons_append, List.nil_append])
  (refine wp_cons ?_; generalize hQQ : seqF _ _ = QQ; simp -implicitDefEqProofs [exS, ev, evL, evI, evO, asgT, asgTs, seqOf_tup, seqOf_fl, getVar, permArgs, wipeE, evAnd, wp_bind, wp_ok, ok_bind, wp_evB, tr_bl, Pk70.s57_0]; subst hQQ)
  rw [show enzV (.tup l) (.tup l) S = .ok ⟨enumL 0 (zipL2 l l), []⟩ S from rfl]
  simp only [wp_ok]
  refine wp_for (fun i env S' => S' = S ∧ ∃ x2 x3 x4, env = [some (.tup l), some (.tup l), x2, x3, x4]) ⟨rfl, none, none, none, rfl⟩ ?_ ?_
  · rintro i x env S' hx ⟨rfl, x2, x3, x4, rfl⟩
    refine ⟨rfl, ?_⟩
    obtain ⟨p, hpp, rfl⟩ := enumL_at hx
    obtain ⟨u, v, hu, hv, rfl⟩ := zip_at hpp
    rw [hu] at hv
    cases hv
    obtain ⟨p1, p2⟩ := hp u (List.mem_of_getElem? hu)
    have hn : cmpV .ne u u S' = .ok false S' := by
      rw [cmp_neP p1 p1 p2 p2]; simp
    generalize ((0 + i : Nat) : Int) = z
    ((try generalize hQQ : endsF _ _ = QQ); simp -implicitDefEqProofs [exS, ev, evL, evI, evO, asgT, asgTs, seqOf_tup, seqOf_fl, getVar, permArgs, wipeE, evAnd, wp_bind, wp_ok, ok_bind, wp_evB, tr_bl]; (try subst hQQ))
    (refine wp_cons ?_; generalize hQQ : seqF _ _ = QQ; simp -implicitDefEqProofs [exS, ev, evL, evI, evO, asgT, asgTs, seqOf_tup, seqOf_fl, getVar, permArgs, wipeE, evAnd, wp_bind, wp_ok, ok_bind, wp_evB, tr_bl, Pk70.s57_0_0, hn]; subst hQQ)
    refine wp_nil ?_
    simp only [seqF]
    refine wp_nil ?_
    exact ⟨rfl, some (.int z), some u, some u, rfl⟩
  · rintro env S' ⟨rfl, x2, x3, x4, rfl⟩
    refine ⟨rfl, ?_⟩
    simp only [seqF]
    generalize hz1 : (l.length : Int) = z1
    have c1 : ∀ S : Store, callB .len false [.tup l] S = .ok (.int z1) S := fun S => by rw [← hz1]; rfl
    (refine wp_cons ?_; generalize hQQ : seqF _ _ = QQ; simp -implicitDefEqProofs [exS, ev, evL, evI, evO, asgT, asgTs, seqOf_tup, seqOf_fl, getVar, permArgs, wipeE, evAnd, wp_bind, wp_ok, ok_bind, wp_evB, tr_bl, Pk70.s57_1, c1, cmp_eq]; subst hQQ)
    simp only [seqF]
    exact gc_same0 rfl q
theorem enc_pc {h : Heap} : ∀ x ∈ h.map encP, plain depthL x = true ∧ clean x = true := by
  intro x hx
  obtain ⟨p, _, rfl⟩ := List.mem_map.mp hx
  exact ⟨plainP, cleanP⟩
structure FStill (P : Prog) : Prop where
  h19 : P.fn 19 = some Pk70.d19
  h57 : P.fn 57 = some Pk70.d57
  h58 : P.fn 58 = some Pk70.d58
  h67 : P.fn 67 = some Pk71.d67
  h68 : P.fn 68 = some Pk71.d68
  h69 : P.fn 69 = some Pk71.d69
  h70 : P.fn 70 = some Pk71.d70
theorem lows_len {z : List Int} {r s : Room} : (lows z r s).length = r.length := by simp [lows]
theorem lows_at {z : List Int} {r s : Room} {i : Nat} {p : Nat} (h : (lows z r s)[i]? = some p) : i < r.length ∧ p = lowR z r s i := by
  unfold lows at h
  rw [List.getElem?_map] at h
  obtain ⟨j, hj, rfl⟩ := Option.map_eq_some_iff.mp h
  have hi := (List.getElem?_eq_some_iff.mp hj).1
  rw [List.length_range] at hi
  rw [List.getElem?_range hi] at hj
  cases hj
  exact ⟨hi, rfl⟩
theorem moved_ok {P : Prog} (F : FStill P) {k : Nat} {S : Store} {r s : Room} {z : List Int} (L : Led z r s) (hlen : r.length < 1000) (s1 : size r < 10000)
    {Q : PV → Store → Prop} (q : Q .non S) : wp (callN P (k + 4) 70 [encR r, encR s, .fl (z.map .int)] S) Q := by
  have h70 := F.h70
  unfold Pk71.d70 at h70
  have hrs := L.same.1
  have s2 : size s < 10000 := by rw [L.sz]; exact s1
  (refine wp_call h70 rfl ?_; simp only [List.map_cons, List.map_nil, Nat.reduceSub, List.replicate_succ, List.replicate_zero, List.cons_append, List.nil_append])
  (refine wp_cons ?_; generalize hQQ : seqF _ _ = QQ; simp -implicitDefEqProofs [exS, ev, evL, evI, evO, asgT, asgTs, seqOf_tup, seqOf_fl, getVar, permArgs, wipeE, evAnd, wp_bind, wp_ok, ok_bind, wp_evB, tr_bl, Pk71.s70_0]; subst hQQ)
  refine still_ok F.h58 F.h67 F.h68 F.h69 hrs hlen s1 s2 ?_
  rw [show enuV (.tup ((lows z r s).map encN)) S = .ok ⟨enumL 0 ((lows z r s).map encN), []⟩ S from rfl]
  simp only [wp_ok]
  refine wp_for (fun i env S' => S' = S ∧ ∃ x3 x4 x5, env = [some (encR r), some (encR s), some (.fl (z.map .int)), x3, x4, x5]) ⟨rfl, none, none, none, rfl⟩ ?_ ?_
  · rintro i x env S' hx ⟨rfl, x3, x4, x5, rfl⟩
    refine ⟨rfl, ?_⟩
    obtain ⟨y, hy, rfl⟩ := enumL_at hx
    rw [List.getElem?_map] at hy
    obtain ⟨m, hm, rfl⟩ := Option.map_eq_some_iff.mp hy
    obtain ⟨hi, rfl⟩ := lows_at hm
    obtain ⟨a, ha⟩ : ∃ a, r[i]? = some a := ⟨r[i], List.getElem?_eq_getElem hi⟩
    obtain ⟨b, hb⟩ : ∃ b, s[i]? = some b := ⟨s[i]'(by omega), List.getElem?_eq_getElem (by omega)⟩
    have keep := L.keep ha hb
    have la := len_le ha
    have lb := len_le hb
    generalize hd : ((0 + i : Nat) : Int) = d
    have hdi : d.toNat = i := by omega
    rw [← hdi] at ha hb
    have ga := getR (show 0 ≤ d by omega) ha
    have gb := getR (show 0 ≤ d by omega) hb
    unfold encN
    generalize hl : ((lowR z r s i : Nat) : Int) = li
    have hli : li.toNat = lowR z r s i := by omega
    ((try generalize hQQ : endsF _ _ = QQ); simp -implicitDefEqProofs [exS, ev, evL, evI, evO, asgT, asgTs, seqOf_tup, seqOf_fl, getVar, permArgs, wipeE, evAnd, wp_bind, wp_ok, ok_bind, wp_evB, tr_bl]; (try subst hQQ))
    (refine wp_cons ?_; generalize hQQ : seqF _ _ = QQ; simp -implicitDefEqProofs [exS, ev, evL, evI, evO, asgT, asgTs, seqOf_tup, seqOf_fl, getVar, permArgs, wipeE, evAnd, wp_bind, wp_ok, ok_bind, wp_evB, tr_bl, Pk71.s70_0_0, ga]; subst hQQ)
    refine heap_ok F.h19 (by omega) ?_
    simp only [optI, wp_ok, encH, slice, cut_take (show 0 ≤ li by omega), gb]
    rw [← show encH b = PV.tup (b.map encP) from rfl]
    refine heap_ok F.h19 (by omega) ?_
    simp only [optI, wp_ok, encH, slice, cut_take (show 0 ≤ li by omega), ← List.map_take, hli, keep]
    refine apartS_ok F.h57 enc_pc ?_
    simp only [seqF]
    (refine wp_cons ?_; generalize hQQ : seqF _ _ = QQ; simp -implicitDefEqProofs [exS, ev, evL, evI, evO, asgT, asgTs, seqOf_tup, seqOf_fl, getVar, permArgs, wipeE, evAnd, wp_bind, wp_ok, ok_bind, wp_evB, tr_bl, Pk71.s70_0_1, cmp_isn_non]; subst hQQ)
    refine wp_nil ?_
    simp only [seqF]
    refine wp_nil ?_
    exact ⟨rfl, some (.int d), some (.int li), some .non, rfl⟩
  · rintro env S' ⟨rfl, x3, x4, x5, rfl⟩
    refine ⟨rfl, ?_⟩
    simp only [seqF]
    (refine wp_cons ?_; generalize hQQ : seqF _ _ = QQ; simp -implicitDefEqProofs [exS, ev, evL, evI, evO, asgT, asgTs, seqOf_tup, seqOf_fl, getVar, permArgs, wipeE, evAnd, wp_bind, wp_ok, ok_bind, wp_evB, tr_bl, Pk71.s70_1]; subst hQQ)
    simp only [seqF]
    exact gc_same0 rfl q
structure FGive (P : Prog) : Prop where
  L : FLine P
  T : FStill P
  h52 : P.fn 52 = some Pk70.d52
  h59 : P.fn 59 = some Pk70.d59
  h75 : P.fn 75 = some Pk71.d75
  h76 : P.fn 76 = some Pk71.d76
  h78 : P.fn 78 = some Pk71.d78
  h81 : P.fn 81 = some Pk71.d81
theorem lookstill_ok {P : Prog} (F : FGive P) {k : Nat} {S : Store} {r s : Room} {z : List Int} (L : Led z r s) (hlen : r.length < 1000) (s1 : size r < 10000)
    {Q : PV → Store → Prop} (q : Q .non S) : wp (callN P (k + 8) 76 [encR r, encR s, .fl (z.map .int)] S) Q := by
  have h76 := F.h76
  have h75 := F.h75
  unfold Pk71.d76 at h76
  unfold Pk71.d75 at h75
  have hrs := L.same.1
  have s2 : size s < 10000 := by rw [L.sz]; exact s1
  (refine wp_call h76 rfl ?_; simp only [List.map_cons, List.map_nil, Nat.reduceSub, List.replicate_succ, List.replicate_zero, List.cons_append, List.nil_append])
  (refine wp_cons ?_; generalize hQQ : seqF _ _ = QQ; simp -implicitDefEqProofs [exS, ev, evL, evI, evO, asgT, asgTs, seqOf_tup, seqOf_fl, getVar, permArgs, wipeE, evAnd, wp_bind, wp_ok, ok_bind, wp_evB, tr_bl, Pk71.s76_0]; subst hQQ)
  (refine wp_call h75 rfl ?_; simp only [List.map_cons, List.map_nil, Nat.reduceSub, List.replicate_succ, List.replicate_zero, List.cons_append, List.nil_append])
  (refine wp_cons ?_; generalize hQQ : seqF _ _ = QQ; simp -implicitDefEqProofs [exS, ev, evL, evI, evO, asgT, asgTs, seqOf_tup, seqOf_fl, getVar, permArgs, wipeE, evAnd, wp_bind, wp_ok, ok_bind, wp_evB, tr_bl, Pk71.s75_0]; subst hQQ)
  refine unlike_ok F.L F.h52 F.T.h57 F.T.h58 F.h59 s1 s2 hlen hrs ?_
  rw [L.same.unl]
  simp only [encU, seqF]
  (refine wp_cons ?_; generalize hQQ : seqF _ _ = QQ; simp -implicitDefEqProofs [exS, ev, evL, evI, evO, asgT, asgTs, seqOf_tup, seqOf_fl, getVar, permArgs, wipeE, evAnd, wp_bind, wp_ok, ok_bind, wp_evB, tr_bl, Pk71.s75_1, cmp_isn_non]; subst hQQ)
  refine wp_nil ?_
  simp only [seqF]
  refine wp_nil ?_
  refine gc_same0 rfl ?_
  (refine wp_cons ?_; generalize hQQ : seqF _ _ = QQ; simp -implicitDefEqProofs [exS, ev, evL, evI, evO, asgT, asgTs, seqOf_tup, seqOf_fl, getVar, permArgs, wipeE, evAnd, wp_bind, wp_ok, ok_bind, wp_evB, tr_bl, Pk71.s76_1]; subst hQQ)
  refine moved_ok F.T L hlen s1 ?_
  simp only [seqF]
  (refine wp_cons ?_; generalize hQQ : seqF _ _ = QQ; simp -implicitDefEqProofs [exS, ev, evL, evI, evO, asgT, asgTs, seqOf_tup, seqOf_fl, getVar, permArgs, wipeE, evAnd, wp_bind, wp_ok, ok_bind, wp_evB, tr_bl, Pk71.s76_2, cmp_isn_non]; subst hQQ)
  refine wp_nil ?_
  simp only [seqF]
  refine wp_nil ?_
  exact gc_same0 rfl q
end LC

namespace LC
open G
/-- a new list that's told becomes a value -/
theorem gc_new {S : Store} {l : List PV} {Q : PV → Store → Prop} (hl : ∀ x ∈ l, plain 23 x = true) (h : Q (.fl l) S) : wp (gcR 1 S (S ++ [.lst l]) (.loc S.length)) Q := by
  have e : frz (S ++ [.lst l]) S.length depthL (.loc S.length) = some (.fl l) := by
    have e2 : l.mapM (frz (S ++ [.lst l]) S.length 23) = some l := mapM_self fun x hx => frz_plain (hl x hx)
    simp only [depthL, frz, Nat.lt_irrefl, if_false, get_last, e2]
    rfl
  simp only [gcR, frzOld_same, e]
  exact wp_val h
theorem bm_app {S : Store} {l : List PV} {v : PV} {b : Bool} (h : l.length < sizeL) : callM .append b (.loc S.length) [v] (S ++ [.lst l]) = .ok .non (S ++ [.lst (l ++ [v])]) := by
  simp only [callM, get_last]
  rw [if_pos h, set_last]
theorem pre_app {S : Store} {l : List PV} {f : Bm} : bmPre f (S ++ [.lst l]) (.loc S.length) = some () := by
  unfold bmPre
  split <;> simp [lstOf, get_last]
def rowOf (d : Nat) (l : List Nat) : List (Int × Int) := l.map fun (p : Nat) => ((d : Int), (p : Int))
def gvRows (z : List Int) (r s : Room) (n : Nat) : List (List (Int × Int)) := (List.range n).flatMap fun (d : Nat) => if (d : Int) ∈ z then [] else [rowOf d (gvs z r s d)]
theorem gvRows_succ {z : List Int} {r s : Room} {n : Nat} : gvRows z r s (n + 1) = gvRows z r s n ++ if (n : Int) ∈ z then [] else [rowOf n (gvs z r s n)] := by
  simp [gvRows, List.range_succ, List.flatMap_append]
def encRow (l : List (Int × Int)) : PV := .fl (l.map pairV)
theorem row_plain {l : List (Int × Int)} : plain 22 (encRow l) = true := by
  simp only [encRow, plain, List.all_eq_true, List.mem_map]
  rintro x ⟨p, _, rfl⟩; rfl
theorem gvs_len {z : List Int} {r s : Room} {d : Nat} {h : Heap} (e : r[d]? = some h) : (gvs z r s d).length ≤ h.length := by
  unfold gvs
  rw [e]
  split
  · exact Nat.zero_le _
  · refine Nat.le_trans (List.length_filter_le ..) ?_
    rw [List.length_reverse]
    exact slp_len
theorem gvRows_len {z : List Int} {r s : Room} {n : Nat} : (gvRows z r s n).length ≤ n := by
  induction n with
  | zero => simp [gvRows]
  | succ n ih =>
    rw [gvRows_succ, List.length_append]
    split <;> simp <;> omega
theorem filter_fm {m : Nat} {l : List Nat} {mi : Int} (e : (m : Int) = mi) : (l.map encN).flatMap (fun x => match x with | .int i => if mi ≤ i then [PV.int i] else [] | _ => []) = (l.filter (fun p => m ≤ p)).map encN := by
  induction l with
  | nil => rfl
  | cons a l ih =>
    rw [List.map_cons, List.flatMap_cons, ih, List.filter_cons]
    by_cases h : m ≤ a
    · have : mi ≤ (a : Int) := by omega
      simp [encN, this, h]
    · have : ¬ mi ≤ (a : Int) := by omega
      simp [encN, this, h]
theorem revOf_fl {l : List PV} {S : Store} : revOf false (.fl l) S = newList false l.reverse S := rfl
theorem rowsgiven_ok {P : Prog} (F : FGive P) {k : Nat} {S : Store} {r s : Room} {z : List Int} (hlen : r.length < 1000) (s1 : size r < 10000)
    {Q : PV → Store → Prop} (q : Q (.fl ((gvRows z r s r.length).map encRow)) S) : wp (callN P (k + 2) 78 [encR r, .tup ((lows z r s).map encN), .fl (z.map .int)] S) Q := by
  have h78 := F.h78
  unfold Pk71.d78 at h78
  (refine wp_call h78 rfl ?_; simp only [List.map_cons, List.map_nil, Nat.reduceSub, List.replicate_succ, List.replicate_zero, List.cons_append, List.nil_append])
  (refine wp_cons ?_; generalize hQQ : seqF _ _ = QQ; simp -implicitDefEqProofs [exS, ev, evL, evI, evO, asgT, asgTs, seqOf_tup, seqOf_fl, getVar, permArgs, wipeE, evAnd, wp_bind, wp_ok, ok_bind, wp_evB, tr_bl, Pk71.s78_0]; subst hQQ)
  refine wp_mk (by simp [sizeL]) ?_
  simp only [seqF]
  (refine wp_cons ?_; generalize hQQ : seqF _ _ = QQ; simp -implicitDefEqProofs [exS, ev, evL, evI, evO, asgT, asgTs, seqOf_tup, seqOf_fl, getVar, permArgs, wipeE, evAnd, wp_bind, wp_ok, ok_bind, wp_evB, tr_bl, Pk71.s78_1]; subst hQQ)
  rw [show ∀ S, enuV (.tup ((lows z r s).map encN)) S = .ok ⟨enumL 0 ((lows z r s).map encN), []⟩ S from fun _ => rfl]
  simp only [wp_ok]
  refine wp_for (fun i env S' => ∃ x4 x5 x6 x7, i ≤ r.length ∧ env = [some (encR r), some (.tup ((lows z r s).map encN)), some (.fl (z.map .int)), some (.loc S.length), x4, x5, x6, x7] ∧ S' = S ++ [.lst ((gvRows z r s i).map encRow)]) ⟨none, none, none, none, Nat.zero_le _, rfl, rfl⟩ ?_ ?_
  · rintro i x env S' hx ⟨x4, x5, x6, x7, hile, rfl, rfl⟩
    refine ⟨rfl, ?_⟩
    obtain ⟨y, hy, rfl⟩ := enumL_at hx
    rw [List.getElem?_map] at hy
    obtain ⟨m, hm, rfl⟩ := Option.map_eq_some_iff.mp hy
    obtain ⟨hi, rfl⟩ := lows_at hm
    obtain ⟨a, ha⟩ : ∃ a, r[i]? = some a := ⟨r[i], List.getElem?_eq_getElem hi⟩
    have la := len_le ha
    have ha' := ha
    generalize hd : ((0 + i : Nat) : Int) = d
    have hdi : d.toNat = i := by omega
    rw [← hdi] at ha
    have ga := getR (show 0 ≤ d by omega) ha
    unfold encN
    generalize hl : ((lowR z r s i : Nat) : Int) = li
    generalize hE : S ++ [Cell.lst ((gvRows z r s i).map encRow)] = E
    ((try generalize hQQ : endsF _ _ = QQ); simp -implicitDefEqProofs [exS, ev, evL, evI, evO, asgT, asgTs, seqOf_tup, seqOf_fl, getVar, permArgs, wipeE, evAnd, wp_bind, wp_ok, ok_bind, wp_evB, tr_bl]; (try subst hQQ))
    (refine wp_cons ?_; generalize hQQ : seqF _ _ = QQ; simp -implicitDefEqProofs [exS, ev, evL, evI, evO, asgT, asgTs, seqOf_tup, seqOf_fl, getVar, permArgs, wipeE, evAnd, wp_bind, wp_ok, ok_bind, wp_evB, tr_bl, Pk71.s78_1_0, ga]; subst hQQ)
    refine sleepers_ok F.T.h67 (by omega) ?_
    have l1 := slp_len (z := z) (h := a) (k := 0)
    rw [revOf_fl, ← List.map_reverse]
    refine wp_fl (by rw [List.length_map, List.length_reverse]; unfold sizeL; omega) ?_
    simp only [itemsOf, wp_ok]
    refine wp_compP (fun x => match x with | .int i => if li ≤ i then [PV.int i] else [] | _ => []) rfl (fun x hx => ?_) ?_
    · obtain ⟨p, hp, rfl⟩ := List.mem_map.mp hx
      refine wp_noEx ?_
      unfold encN
      generalize (p : Int) = pi
      ((try generalize hQQ : endsF _ _ = QQ); simp -implicitDefEqProofs [exS, ev, evL, evI, evO, asgT, asgTs, seqOf_tup, seqOf_fl, getVar, permArgs, wipeE, evAnd, wp_bind, wp_ok, ok_bind, wp_evB, tr_bl, cmp_ge]; (try subst hQQ))
      by_cases h : li ≤ pi
      · simp [h, wp_ok, wp_bind, lift, truthy]
      · simp [h, wp_ok, lift, truthy]
    · rw [filter_fm hl]
      refine wp_fl (by rw [List.length_map]; have := List.length_filter_le (fun p => decide (lowR z r s i ≤ p)) (slp z 0 a).reverse; rw [List.length_reverse] at this; unfold sizeL; omega) ?_
      simp only [seqF]
      generalize hp : (slp z 0 a).reverse.filter (fun p => decide (lowR z r s i ≤ p)) = pl
      have hpl : pl.length ≤ a.length := by rw [← hp]; have := List.length_filter_le (fun p => decide (lowR z r s i ≤ p)) (slp z 0 a).reverse; rw [List.length_reverse] at this; omega
      by_cases hdz : d ∈ z
      · (refine wp_cons ?_; generalize hQQ : seqF _ _ = QQ; simp -implicitDefEqProofs [exS, ev, evL, evI, evO, asgT, asgTs, seqOf_tup, seqOf_fl, getVar, permArgs, wipeE, evAnd, wp_bind, wp_ok, ok_bind, wp_evB, tr_bl, Pk71.s78_1_1, in_ints, hdz]; subst hQQ)
        refine wp_nil ?_
        simp only [seqF]
        refine wp_nil ?_
        refine ⟨some (.int d), some (.int li), some (.fl (pl.map encN)), x7, by omega, rfl, ?_⟩
        have hdz2 : (i : Int) ∈ z := by rw [show (i : Int) = d by omega]; exact hdz
        rw [gvRows_succ, if_pos hdz2, List.append_nil, ← hE]
      · (refine wp_cons ?_; generalize hQQ : seqF _ _ = QQ; simp -implicitDefEqProofs [exS, ev, evL, evI, evO, asgT, asgTs, seqOf_tup, seqOf_fl, getVar, permArgs, wipeE, evAnd, wp_bind, wp_ok, ok_bind, wp_evB, tr_bl, Pk71.s78_1_1, in_ints, hdz]; subst hQQ)
        have hdz2 : ¬ (i : Int) ∈ z := by rw [show (i : Int) = d by omega]; exact hdz
        (refine wp_cons ?_; generalize hQQ : seqF _ _ = QQ; simp -implicitDefEqProofs [exS, ev, evL, evI, evO, asgT, asgTs, seqOf_tup, seqOf_fl, getVar, permArgs, wipeE, evAnd, wp_bind, wp_ok, ok_bind, wp_evB, tr_bl, Pk71.s78_1_1_0]; subst hQQ)
        have ep : ∀ u, bmPre .append E (.loc S.length) = u → u = some () := fun u e => by rw [← e, ← hE]; exact pre_app
        rw [ep _ rfl]
        simp only [lift, wp_ok, itemsOf]
        refine wp_compP (fun x => [PV.tup [.int d, x]]) rfl (fun x hx => ?_) ?_
        · obtain ⟨p, hp, rfl⟩ := List.mem_map.mp hx
          refine wp_noEx ?_
          unfold encN
          generalize (p : Int) = pi
          ((try generalize hQQ : endsF _ _ = QQ); simp -implicitDefEqProofs [exS, ev, evL, evI, evO, asgT, asgTs, seqOf_tup, seqOf_fl, getVar, permArgs, wipeE, evAnd, wp_bind, wp_ok, ok_bind, wp_evB, tr_bl]; (try subst hQQ))
          rw [newTup_ok (by simp [sizeL])]
          simp [wp_ok]
        · rw [fm_one]
          refine wp_fl (by rw [List.length_map, List.length_map]; unfold sizeL; omega) ?_
          have hlen2 := gvRows_len (z := z) (r := r) (s := s) (n := i)
          rw [← hE, bm_app (by rw [List.length_map]; unfold sizeL; omega)]
          simp only [wp_ok, seqF]
          refine wp_nil ?_
          simp only [seqF]
          refine wp_nil ?_
          refine ⟨some (.int d), some (.int li), some (.fl (pl.map encN)), x7, by omega, rfl, ?_⟩
          rw [gvRows_succ, if_neg hdz2, List.map_append, List.map_cons, List.map_nil]
          have e : encRow (rowOf i (gvs z r s i)) = .fl ((pl.map encN).map fun x => PV.tup [.int d, x]) := by
            unfold encRow rowOf gvs
            rw [if_neg hdz2, ha', ← hp, List.map_map, List.map_map]
            simp only [Option.getD_some]
            congr 1
            refine List.map_congr_left fun p _ => ?_
            simp [pairV, encN]
            omega
          rw [e]
  · rintro env S' ⟨x4, x5, x6, x7, hile, rfl, rfl⟩
    refine ⟨rfl, ?_⟩
    rw [enum_len, List.length_map, lows_len]
    simp only [seqF]
    (refine wp_cons ?_; generalize hQQ : seqF _ _ = QQ; simp -implicitDefEqProofs [exS, ev, evL, evI, evO, asgT, asgTs, seqOf_tup, seqOf_fl, getVar, permArgs, wipeE, evAnd, wp_bind, wp_ok, ok_bind, wp_evB, tr_bl, Pk71.s78_2]; subst hQQ)
    simp only [seqF]
    refine gc_new (fun x hx => ?_) q
    obtain ⟨l, _, rfl⟩ := List.mem_map.mp hx
    simp only [encRow, plain, List.all_eq_true, List.mem_map]
    rintro y ⟨p, _, rfl⟩; rfl
end LC

namespace LC
open G
theorem gvRows_flat {z : List Int} {r s : Room} : ∀ {n : Nat}, (gvRows z r s n).flatten.length = ((List.range n).map fun d => (gvs z r s d).length).sum
  | 0 => by simp [gvRows]
  | n + 1 => by
    rw [gvRows_succ, List.flatten_append, List.length_append, gvRows_flat (n := n), List.range_succ, List.map_append, List.sum_append]
    congr 1
    by_cases h : (n : Int) ∈ z
    · rw [if_pos h]
      simp [gvs, h]
    · rw [if_neg h]
      simp [rowOf]
theorem gvRows_mem {z : List Int} {r s : Room} {n : Nat} (hn : n ≤ r.length) {l : List (Int × Int)} (hl : l ∈ gvRows z r s n) : ∀ p ∈ l, 0 ≤ p.1 ∧ p.1 < n ∧ 0 ≤ p.2 ∧ p.2 < size r := by
  unfold gvRows at hl
  obtain ⟨d, hd, hl⟩ := List.mem_flatMap.mp hl
  have hd := List.mem_range.mp hd
  split at hl
  · cases hl
  · rw [List.mem_singleton] at hl
    subst hl
    intro p hp
    unfold rowOf at hp
    obtain ⟨q, hq, rfl⟩ := List.mem_map.mp hp
    unfold gvs at hq
    rename_i hz
    rw [if_neg hz, List.getElem?_eq_getElem (show d < r.length by omega)] at hq
    have h1 := List.mem_reverse.mp (List.mem_filter.mp hq).1
    have h2 := slp_lt z _ 0 q h1
    have h3 := len_le (List.getElem?_eq_getElem (show d < r.length by omega))
    simp at h2 ⊢
    omega
theorem pairs_some : ∀ {l : List (Int × Int)}, (∀ p ∈ l, 0 ≤ p.1 ∧ p.1 < pairLim ∧ 0 ≤ p.2 ∧ p.2 < pairLim) → pairsOf (l.map pairV) = some l
  | [], _ => rfl
  | p :: l, h => by
    have h1 := h p (List.mem_cons_self ..)
    show (if 0 ≤ p.1 ∧ p.1 < pairLim ∧ 0 ≤ p.2 ∧ p.2 < pairLim then (pairsOf (l.map pairV)).map ((p.1, p.2) :: ·) else none) = _
    rw [if_pos h1, pairs_some fun q hq => h q (List.mem_cons_of_mem _ hq)]
    rfl
theorem isIns2_len {x : Int × Int} {l : List (Int × Int)} : (isIns2 x l).length = l.length + 1 := by
  induction l with
  | nil => rfl
  | cons y l ih => unfold isIns2; split <;> simp [ih]
theorem psort2_len {l : List (Int × Int)} : (psort2 l).length = l.length := by
  induction l with
  | nil => rfl
  | cons y l ih => simp [psort2, isIns2_len, ih]
theorem sorted_pairs {l : List (Int × Int)} {S : Store} (h : ∀ p ∈ l, 0 ≤ p.1 ∧ p.1 < pairLim ∧ 0 ≤ p.2 ∧ p.2 < pairLim) (h64 : l.length < 64) : callB .sorted false [.fl (l.map pairV)] S = .ok (.fl ((psort2 l).map pairV)) S := by
  have e := pairs_some h
  cases l with
  | nil => rfl
  | cons p l =>
    show (match pairsOf ((p :: l).map pairV) with
      | some (p :: l) => if (p :: l).length < 64 then newList false ((psort2 (p :: l)).map pairV) S else .bad
      | _ => _) = _
    rw [e]
    show (if (p :: l).length < 64 then newList false ((psort2 (p :: l)).map pairV) S else .bad) = _
    rw [if_pos h64, newList_ok (by rw [List.length_map, psort2_len]; unfold sizeL; omega)]
theorem fl_pairsP {l : List (Int × Int)} : plain depthL (.fl (l.map pairV)) = true := by
  simp only [depthL, plain, List.all_eq_true, List.mem_map]
  rintro y ⟨p, _, rfl⟩; rfl
theorem fm_rows {l : List (List (Int × Int))} : (l.map encRow).flatMap (fun x => match x with | .fl m => m | _ => []) = l.flatten.map pairV := by
  induction l with
  | nil => rfl
  | cons a l ih => rw [List.map_cons, List.flatMap_cons, ih, List.flatten_cons, List.map_append]; rfl
theorem awk_size {z : List Int} {r : Room} : awkAll z r ≤ size r := by
  unfold awkAll size
  have e : r.map List.length = (List.range r.length).map fun i => (r[i]?.getD []).length := by
    refine List.ext_getElem (by simp) fun i h1 h2 => ?_
    simp at h1
    simp [h1]
  rw [e]
  generalize List.range r.length = l
  induction l with
  | nil => simp
  | cons a l ih =>
    simp only [List.map_cons, List.sum_cons]
    have : awk z r a ≤ (r[a]?.getD []).length := by
      unfold awk
      split
      · exact Nat.zero_le _
      · exact cnt_len
    omega
theorem givings_ok {P : Prog} (F : FGive P) {k : Nat} {S : Store} {r s : Room} {z : List Int} (L : Led z r s) (hlen : r.length < 1000) (s1 : size r < 64)
    {Q : PV → Store → Prop} (q : ∀ gs : List (Int × Int), gs.length + awkAll z s = awkAll z r → Q (.fl (gs.map pairV)) S) : wp (callN P (k + 9) 81 [encR r, encR s, .fl (z.map .int)] S) Q := by
  have h81 := F.h81
  unfold Pk71.d81 at h81
  have hrs := L.same.1
  (refine wp_call h81 rfl ?_; simp only [List.map_cons, List.map_nil, Nat.reduceSub, List.replicate_succ, List.replicate_zero, List.cons_append, List.nil_append])
  (refine wp_cons ?_; generalize hQQ : seqF _ _ = QQ; simp -implicitDefEqProofs [exS, ev, evL, evI, evO, asgT, asgTs, seqOf_tup, seqOf_fl, getVar, permArgs, wipeE, evAnd, wp_bind, wp_ok, ok_bind, wp_evB, tr_bl, Pk71.s81_0]; subst hQQ)
  refine lookstill_ok F L hlen (by omega) ?_
  simp only [seqF]
  (refine wp_cons ?_; generalize hQQ : seqF _ _ = QQ; simp -implicitDefEqProofs [exS, ev, evL, evI, evO, asgT, asgTs, seqOf_tup, seqOf_fl, getVar, permArgs, wipeE, evAnd, wp_bind, wp_ok, ok_bind, wp_evB, tr_bl, Pk71.s81_1]; subst hQQ)
  refine still_ok F.T.h58 F.T.h67 F.T.h68 F.T.h69 hrs hlen (by omega) (by rw [L.sz]; omega) ?_
  refine rowsgiven_ok F hlen (by omega) ?_
  simp only [seqF]
  (refine wp_cons ?_; generalize hQQ : seqF _ _ = QQ; simp -implicitDefEqProofs [exS, ev, evL, evI, evO, asgT, asgTs, seqOf_tup, seqOf_fl, getVar, permArgs, wipeE, evAnd, wp_bind, wp_ok, ok_bind, wp_evB, tr_bl, Pk71.s81_2, itemsOf]; subst hQQ)
  generalize hg : gvRows z r s r.length = rows
  have tot := L.total
  rw [← gvRows_flat, hg] at tot
  have aw := awk_size (z := z) (r := r)
  refine wp_compP (fun x => match x with | .fl m => m | _ => []) rfl (fun x hx => ?_) ?_
  · obtain ⟨row, hrow, rfl⟩ := List.mem_map.mp hx
    refine wp_noEx ?_
    ((try generalize hQQ : endsF _ _ = QQ); simp -implicitDefEqProofs [exS, ev, evL, evI, evO, asgT, asgTs, seqOf_tup, seqOf_fl, getVar, permArgs, wipeE, evAnd, wp_bind, wp_ok, ok_bind, wp_evB, tr_bl, encRow, itemsOf]; (try subst hQQ))
    refine wp_compP (fun x => [x]) rfl (fun y hy => ?_) ?_
    · refine wp_noEx ?_
      ((try generalize hQQ : endsF _ _ = QQ); simp -implicitDefEqProofs [exS, ev, evL, evI, evO, asgT, asgTs, seqOf_tup, seqOf_fl, getVar, permArgs, wipeE, evAnd, wp_bind, wp_ok, ok_bind, wp_evB, tr_bl]; (try subst hQQ))
    · exact ⟨by simp [List.flatMap_singleton'], rfl⟩
  · rw [fm_rows]
    refine wp_fl (by rw [List.length_map]; unfold sizeL; omega) ?_
    rw [sorted_pairs (fun p hp => ?_) (by omega)]
    · simp only [wp_ok, seqF]
      refine gc_same0 fl_pairsP (q _ ?_)
      rw [psort2_len]
      exact tot
    · obtain ⟨l, hl, hp⟩ := List.mem_flatten.mp hp
      rw [← hg] at hl
      have := gvRows_mem (Nat.le_refl _) hl p hp
      unfold pairLim
      omega
end LC

namespace LC
open G
/-- s is behind the pecks ps of awake birds from r on -/
inductive Gone (z : List Int) (r : Room) : List Int → Room → Prop
  | nil : Gone z r [] r
  | snoc (s : Room) (ps : List Int) (b : Int) (h : Heap) (w : Nat) (t : List Nat) (g : Gone z r ps s) (h0 : 0 ≤ b) (X : Pk s b.toNat h w t) (hb : b ∉ z) : Gone z r (ps ++ [b]) (peck s b.toNat)
theorem Gone.led {z : List Int} {q r s : Room} {ps : List Int} (g : Gone z r ps s) (L : Led z q r) : Led z q s := by
  induction g with
  | nil => exact L
  | snoc s ps b h w t g h0 X hb ih =>
    exact ih.step X (by rw [Int.toNat_of_nonneg h0]; exact hb)
theorem gc_led {S : Store} {n : Nat} {a b c : Int} {l : List PV} {v : PV} {Q : PV → Store → Prop} (hl : ∀ x ∈ l, plain 22 x = true) (hv : plain 23 v = true) (h : Q (.tup [.fl l, v]) (S.set n (box a b c))) : wp (gcR 1 S (S.set n (box a b c) ++ [.lst l]) (.tup [.loc S.length, v])) Q := by
  have e2 : l.mapM (frz (S.set n (box a b c) ++ [.lst l]) S.length 22) = some l := mapM_self fun x hx => frz_plain (hl x hx)
  have g : (S.set n (box a b c) ++ [Cell.lst l])[S.length]? = some (.lst l) := by simp
  have e : frz (S.set n (box a b c) ++ [.lst l]) S.length depthL (.tup [.loc S.length, v]) = some (.tup [.fl l, v]) := by
    have e3 : frz (S.set n (box a b c) ++ [.lst l]) S.length 23 (.loc S.length) = some (.fl l) := by
      simp only [frz, Nat.lt_irrefl, if_false, g, e2]
      rfl
    have e4 : frz (S.set n (box a b c) ++ [.lst l]) S.length 23 v = some v := frz_plain hv
    have e6 : [PV.loc S.length, v].mapM (frz (S.set n (box a b c) ++ [.lst l]) S.length 23) = some [.fl l, v] := by
      rw [List.mapM_cons, e3, List.mapM_cons, e4]
      rfl
    show ([PV.loc S.length, v].mapM (frz (S.set n (box a b c) ++ [.lst l]) S.length 23)).map PV.tup = _
    rw [e6]
    rfl
  have e5 : frzOld (S.set n (box a b c) ++ [.lst l]) S.length S (S.set n (box a b c) ++ [.lst l]) = some (S.set n (box a b c)) := frzOld_set box_plain
  simp only [gcR, e5, e]
  exact wp_val h
theorem set_same {S : Store} {n : Nat} {x : Cell} (h : S[n]? = some x) : S.set n x = S := by
  have hn := (List.getElem?_eq_some_iff.mp h).1
  refine List.ext_getElem? fun i => ?_
  by_cases e : n = i
  · subst e; rw [List.getElem?_set_self hn, h]
  · rw [List.getElem?_set_ne e]
theorem ints_c {l : List Int} : clean (.fl (l.map PV.int)) = true := by
  simp only [clean, cleanL_all, List.all_eq_true, List.mem_map]
  rintro x ⟨p, _, rfl⟩; rfl
theorem ints_p {l : List Int} {k : Nat} : ∀ x ∈ l.map PV.int, plain (k + 1) x = true := by
  intro x hx
  obtain ⟨p, _, rfl⟩ := List.mem_map.mp hx
  rfl
theorem led_ok {P : Prog} (D : FDraw P) (h45 : P.fn 45 = some Pk71.d45) {k n : Nat} {S : Store} {a b c m : Int} {r : Room} {z : List Int} (hS : S[n]? = some (box a b c)) (g : Good r) (hm : 0 ≤ m) (hm2 : m < 1000) (hlen : r.length < 1000) (hsz : size r < 10000)
    {Q : PV → Store → Prop} (q : ∀ ps s a' b' c', Gone z r ps s → ps.length ≤ m.toNat → Q (.tup [.fl (ps.map .int), encR s]) (S.set n (box a' b' c'))) : wp (callN P (k + 3) 45 [.loc n, encR r, .fl (z.map .int), .int m] S) Q := by
  unfold Pk71.d45 at h45
  have hn : n < S.length := (List.getElem?_eq_some_iff.mp hS).1
  (refine wp_call h45 rfl ?_; simp only [List.map_cons, List.map_nil, Nat.reduceSub, List.replicate_succ, List.replicate_zero, List.cons_append, List.nil_append])
  (refine wp_cons ?_; generalize hQQ : seqF _ _ = QQ; simp -implicitDefEqProofs [exS, ev, evL, evI, evO, asgT, asgTs, seqOf_tup, seqOf_fl, getVar, permArgs, wipeE, evAnd, wp_bind, wp_ok, ok_bind, wp_evB, tr_bl, Pk71.s45_0]; subst hQQ)
  refine wp_mk (by simp [sizeL]) ?_
  simp only [seqF]
  (refine wp_cons ?_; generalize hQQ : seqF _ _ = QQ; simp -implicitDefEqProofs [exS, ev, evL, evI, evO, asgT, asgTs, seqOf_tup, seqOf_fl, getVar, permArgs, wipeE, evAnd, wp_bind, wp_ok, ok_bind, wp_evB, tr_bl, Pk71.s45_1]; subst hQQ)
  refine wp_rngZ hm (by omega) ?_
  refine wp_for (fun i env S' => ∃ (s : Room) (ps : List Int) (a b c : Int) (x5 x6 : Option PV), env = [some (.loc n), some (encR s), some (.fl (z.map .int)), some (.int m), some (.loc S.length), x5, x6] ∧ S' = S.set n (box a b c) ++ [.lst (ps.map .int)] ∧ Gone z r ps s ∧ ps.length ≤ i) ⟨r, [], a, b, c, none, none, rfl, ?_, .nil, Nat.zero_le _⟩ ?_ ?_
  · rw [set_same hS]; rfl
  · rintro i x env S' hx ⟨s, ps, a4, b4, c4, x5, x6, rfl, rfl, gs, hps⟩
    obtain ⟨hlt, rfl⟩ := range_at hx
    refine ⟨rfl, ?_⟩
    generalize (0 + (i : Int)) = xi
    have L := gs.led (Led.refl g)
    have hl := L.same.1
    have hz2 := L.sz
    generalize hE : S.set n (box a4 b4 c4) ++ [Cell.lst (ps.map PV.int)] = E
    have hEb : E[n]? = some (box a4 b4 c4) := by
      rw [← hE, get_app (by simpa using hn)]
      exact set_self hn
    ((try generalize hQQ : endsF _ _ = QQ); simp -implicitDefEqProofs [exS, ev, evL, evI, evO, asgT, asgTs, seqOf_tup, seqOf_fl, getVar, permArgs, wipeE, evAnd, wp_bind, wp_ok, ok_bind, wp_evB, tr_bl]; (try subst hQQ))
    (refine wp_cons ?_; generalize hQQ : seqF _ _ = QQ; simp -implicitDefEqProofs [exS, ev, evL, evI, evO, asgT, asgTs, seqOf_tup, seqOf_fl, getVar, permArgs, wipeE, evAnd, wp_bind, wp_ok, ok_bind, wp_evB, tr_bl, Pk71.s45_1_0]; subst hQQ)
    refine can_ok D.h39 (by omega) fun some_ hsome hsl => ?_
    simp only [seqF]
    (refine wp_cons ?_; generalize hQQ : seqF _ _ = QQ; simp -implicitDefEqProofs [exS, ev, evL, evI, evO, asgT, asgTs, seqOf_tup, seqOf_fl, getVar, permArgs, wipeE, evAnd, wp_bind, wp_ok, ok_bind, wp_evB, tr_bl, Pk71.s45_1_1]; subst hQQ)
    rw [newList_ok (by simp [sizeL])]
    simp only [wp_ok]
    rw [cmp_neP ints_all rfl ints_c rfl]
    simp only [wp_ok, lift, truthy]
    by_cases he : some_ = []
    · subst he
      simp only [List.map_nil, decide_true, Bool.not_true, Bool.false_eq_true, if_false]
      refine wp_nil ?_
      simp only [seqF]
      refine wp_nil ?_
      exact ⟨s, ps, a4, b4, c4, some (.int xi), some (.fl []), rfl, hE.symm, gs, by omega⟩
    · have e1 : decide (PV.fl (some_.map PV.int) = .fl []) = false := by simp [he]
      simp only [e1, Bool.not_false, if_true]
      have ep : ∀ u, bmPre .append E (.loc S.length) = u → u = some () := fun u e => by
        rw [← e, ← hE]
        have : S.length = (S.set n (box a4 b4 c4)).length := by simp
        rw [this]
        exact pre_app
      (refine wp_cons ?_; generalize hQQ : seqF _ _ = QQ; simp -implicitDefEqProofs [exS, ev, evL, evI, evO, asgT, asgTs, seqOf_tup, seqOf_fl, getVar, permArgs, wipeE, evAnd, wp_bind, wp_ok, ok_bind, wp_evB, tr_bl, Pk71.s45_1_1_0]; subst hQQ)
      rw [ep _ rfl]
      simp only [lift, wp_ok]
      refine of_ok D.h7 D.h10 hEb (by rw [List.length_map]; exact List.length_pos_iff.mpr he) (by rw [List.length_map]; omega) (by
        intro x hx
        obtain ⟨p, _, rfl⟩ := List.mem_map.mp hx
        rfl) fun v a5 b5 c5 hv => ?_
      obtain ⟨bird, hb, rfl⟩ := List.mem_map.mp hv
      obtain ⟨b0, bd, h, hh, hne⟩ := hsome bird hb
      obtain ⟨p, hlast⟩ : ∃ p, h.getLast? = some p := by
        cases e : h.getLast? with
        | none => exact absurd (List.getLast?_eq_none_iff.mp e) hne
        | some p => exact ⟨p, rfl⟩
      obtain ⟨w, t⟩ := p
      have X : Pk s bird.toNat h w t := ⟨hh, hlast, L.good⟩
      have eE : E.set n (box a5 b5 c5) = S.set n (box a5 b5 c5) ++ [Cell.lst (ps.map PV.int)] := by
        rw [← hE, set_app (by simpa using hn), List.set_set]
      have hpl : (ps.map PV.int).length < sizeL := by rw [List.length_map]; unfold sizeL; omega
      have ea : callM .append false (.loc S.length) [.int bird] (E.set n (box a5 b5 c5)) = .ok .non (S.set n (box a5 b5 c5) ++ [Cell.lst ((ps ++ [bird]).map PV.int)]) := by
        have hs : S.length = (S.set n (box a5 b5 c5)).length := by simp
        rw [eE, hs, bm_app hpl]
        simp
      rw [ea]
      simp only [wp_ok, seqF]
      have gl : getIx (.loc S.length) (.int (-1)) (S.set n (box a5 b5 c5) ++ [Cell.lst ((ps ++ [bird]).map PV.int)]) = .ok (.int bird) (S.set n (box a5 b5 c5) ++ [Cell.lst ((ps ++ [bird]).map PV.int)]) := by
        have g2 : (S.set n (box a5 b5 c5) ++ [Cell.lst ((ps ++ [bird]).map PV.int)])[S.length]? = some (.lst ((ps ++ [bird]).map PV.int)) := by simp
        simp only [getIx, g2]
        rw [atI_last (x := .int bird) (by rw [List.map_append, List.map_cons, List.map_nil, List.getLast?_concat])]
        rfl
      generalize hF : S.set n (box a5 b5 c5) ++ [Cell.lst ((ps ++ [bird]).map PV.int)] = F at gl
      (refine wp_cons ?_; generalize hQQ : seqF _ _ = QQ; simp -implicitDefEqProofs [exS, ev, evL, evI, evO, asgT, asgTs, seqOf_tup, seqOf_fl, getVar, permArgs, wipeE, evAnd, wp_bind, wp_ok, ok_bind, wp_evB, tr_bl, Pk71.s45_1_1_1, negV, gl]; subst hQQ)
      refine peck_ok D.h38 L.good b0 hh hlast (by omega) (by omega) ?_
      simp only [seqF]
      refine wp_nil ?_
      simp only [seqF]
      refine wp_nil ?_
      exact ⟨peck s bird.toNat, ps ++ [bird], a5, b5, c5, some (.int xi), some (.fl (some_.map .int)), rfl, hF.symm, .snoc s ps bird h w t gs b0 X bd, by simp; omega⟩
  · rintro env S' ⟨s, ps, a4, b4, c4, x5, x6, rfl, rfl, gs, hps⟩
    rw [range_len] at hps
    refine ⟨rfl, ?_⟩
    simp only [seqF]
    (refine wp_cons ?_; generalize hQQ : seqF _ _ = QQ; simp -implicitDefEqProofs [exS, ev, evL, evI, evO, asgT, asgTs, seqOf_tup, seqOf_fl, getVar, permArgs, wipeE, evAnd, wp_bind, wp_ok, ok_bind, wp_evB, tr_bl, Pk71.s45_2]; subst hQQ)
    rw [newTup_ok (by simp [sizeL])]
    simp only [wp_ok, seqF]
    exact gc_led ints_p plainR (q ps s a4 b4 c4 gs hps)
end LC

namespace LC
open G
/-! ### `_law_same`, `_law_listed` -/
/-- plain data without truths, of depth at most k, short -/
def fine : Nat → PV → Bool
  | 0, _ => false
  | k + 1, .tup l => decide (l.length < 10000) && l.all (fine k)
  | k + 1, .fl l => decide (l.length < 10000) && l.all (fine k)
  | _ + 1, .non => true
  | _ + 1, .int _ => true
  | _ + 1, .str _ => true
  | _ + 1, _ => false
theorem fine_plain : ∀ {k : Nat} {v : PV}, fine k v = true → plain k v = true
  | 0, v, h => by cases h
  | k + 1, v, h => by
    cases v with
    | tup l =>
      simp only [fine, Bool.and_eq_true, List.all_eq_true] at h
      simp only [plain, List.all_eq_true]
      exact fun x hx => fine_plain (h.2 x hx)
    | fl l =>
      simp only [fine, Bool.and_eq_true, List.all_eq_true] at h
      simp only [plain, List.all_eq_true]
      exact fun x hx => fine_plain (h.2 x hx)
    | non => rfl
    | int i => rfl
    | str s => rfl
    | _ => cases h
theorem fine_clean : ∀ {k : Nat} {v : PV}, fine k v = true → clean v = true
  | 0, v, h => by cases h
  | k + 1, v, h => by
    cases v with
    | tup l =>
      simp only [fine, Bool.and_eq_true, List.all_eq_true] at h
      simp only [clean, cleanL_all, List.all_eq_true]
      exact fun x hx => fine_clean (h.2 x hx)
    | fl l =>
      simp only [fine, Bool.and_eq_true, List.all_eq_true] at h
      simp only [clean, cleanL_all, List.all_eq_true]
      exact fun x hx => fine_clean (h.2 x hx)
    | non => rfl
    | int i => rfl
    | str s => rfl
    | _ => cases h
theorem plain_up : ∀ {k j : Nat} {v : PV}, plain k v = true → k ≤ j → plain j v = true
  | 0, _, v, h, _ => by cases h
  | k + 1, 0, v, h, hj => by omega
  | k + 1, j + 1, v, h, hj => by
    cases v with
    | tup l =>
      simp only [plain, List.all_eq_true] at h ⊢
      exact fun x hx => plain_up (h x hx) (by omega)
    | fl l =>
      simp only [plain, List.all_eq_true] at h ⊢
      exact fun x hx => plain_up (h x hx) (by omega)
    | loc n => cases h
    | scr n => cases h
    | exc c n => cases h
    | _ => rfl
theorem zip_self {l : List PV} : zipL2 l l = l.map fun x => .tup [x, x] := by
  induction l with
  | nil => rfl
  | cons a l ih => simp [zipL2, ih]
theorem cmp_neB {a b : Bool} {S : Store} : cmpV .ne (.bl a) (.bl b) S = .ok (a != b) S := by
  cases a <;> cases b <;> rfl
theorem cmp_isN_tup {l : List PV} {S : Store} : cmpV .is_ (.tup l) .non S = .ok false S := rfl
theorem same_ok {P : Prog} (h9 : P.fn 9 = some Pk02.d9) : ∀ (d : Nat) {k : Nat} {S : Store} {v : PV}, d ≤ 20 → fine d v = true → ∀ {Q : PV → Store → Prop}, Q (.bl true) S → wp (callN P (k + d) 9 [v, v] S) Q
  | 0, k, S, v, _, hf, Q, q => by cases hf
  | d + 1, k, S, v, hd, hf, Q, q => by
    have hp := plain_up (fine_plain hf) (j := depthL) (by unfold depthL; omega)
    have hc := fine_clean hf
    have ceq : ∀ S : Store, cmpV .eq v v S = .ok true S := fun S => by rw [cmp_eqP hp hp hc hc]; simp
    have ih := fun (x : PV) (S : Store) (hx : fine d x = true) => same_ok h9 d (k := k) (S := S) (v := x) (by omega) hx (Q := fun v S' => v = .bl true ∧ S' = S) ⟨rfl, rfl⟩
    have h9' := h9
    unfold Pk02.d9 at h9'
    rw [show k + (d + 1) = (k + d) + 1 from rfl]
    (refine wp_call h9' rfl ?_; simp only [List.map_cons, List.map_nil, Nat.reduceSub, List.replicate_succ, List.replicate_zero, List.cons_append, List.nil_append])
    cases v with
    | tup l =>
      simp only [fine, Bool.and_eq_true, List.all_eq_true, decide_eq_true_eq] at hf
      (refine wp_cons ?_; generalize hQQ : seqF _ _ = QQ; simp -implicitDefEqProofs [exS, ev, evL, evI, evO, asgT, asgTs, seqOf_tup, seqOf_fl, getVar, permArgs, wipeE, evAnd, wp_bind, wp_ok, ok_bind, wp_evB, tr_bl, Pk02.s9_0, isi_tup, hasTy]; subst hQQ)
      (refine wp_cons ?_; generalize hQQ : seqF _ _ = QQ; simp -implicitDefEqProofs [exS, ev, evL, evI, evO, asgT, asgTs, seqOf_tup, seqOf_fl, getVar, permArgs, wipeE, evAnd, wp_bind, wp_ok, ok_bind, wp_evB, tr_bl, Pk02.s9_0_0, isi_tup, hasTy, cmp_neB]; subst hQQ)
      refine wp_nil ?_
      simp only [seqF]
      (refine wp_cons ?_; generalize hQQ : seqF _ _ = QQ; simp -implicitDefEqProofs [exS, ev, evL, evI, evO, asgT, asgTs, seqOf_tup, seqOf_fl, getVar, permArgs, wipeE, evAnd, wp_bind, wp_ok, ok_bind, wp_evB, tr_bl, Pk02.s9_0_1, cb_len_tup, cmp_neI]; subst hQQ)
      refine wp_nil ?_
      simp only [seqF]
      (refine wp_cons ?_; generalize hQQ : seqF _ _ = QQ; simp -implicitDefEqProofs [exS, ev, evL, evI, evO, asgT, asgTs, seqOf_tup, seqOf_fl, getVar, permArgs, wipeE, evAnd, wp_bind, wp_ok, ok_bind, wp_evB, tr_bl, Pk02.s9_0_2, zip2V, zip_self]; subst hQQ)
      refine wp_comp_tt (fun T => T = S) rfl (fun _ _ => rfl) (fun x hx T hT => ?_) fun r T hl hr hT => ?_
      · subst hT
        obtain ⟨y, hy, rfl⟩ := List.mem_map.mp hx
        refine wp_noEx ?_
        ((try generalize hQQ : endsF _ _ = QQ); simp -implicitDefEqProofs [exS, ev, evL, evI, evO, asgT, asgTs, seqOf_tup, seqOf_fl, getVar, permArgs, wipeE, evAnd, wp_bind, wp_ok, ok_bind, wp_evB, tr_bl]; (try subst hQQ))
        refine wp_mono (ih y T (hf.2 y hy)) fun a T2 h => ?_
        obtain ⟨rfl, rfl⟩ := h
        first | exact ⟨rfl, rfl⟩ | exact wp_val ⟨rfl, rfl⟩
      · subst hT
        refine wp_fl (by rw [hl, List.length_map]; unfold sizeL; omega) ?_
        rw [all_tt hr]
        simp only [wp_ok, seqF]
        exact gc_same0 rfl q
    | fl l =>
      simp only [fine, Bool.and_eq_true, List.all_eq_true, decide_eq_true_eq] at hf
      (refine wp_cons ?_; generalize hQQ : seqF _ _ = QQ; simp -implicitDefEqProofs [exS, ev, evL, evI, evO, asgT, asgTs, seqOf_tup, seqOf_fl, getVar, permArgs, wipeE, evAnd, wp_bind, wp_ok, ok_bind, wp_evB, tr_bl, Pk02.s9_0, isi_fl, hasTy]; subst hQQ)
      (refine wp_cons ?_; generalize hQQ : seqF _ _ = QQ; simp -implicitDefEqProofs [exS, ev, evL, evI, evO, asgT, asgTs, seqOf_tup, seqOf_fl, getVar, permArgs, wipeE, evAnd, wp_bind, wp_ok, ok_bind, wp_evB, tr_bl, Pk02.s9_0_0, isi_fl, hasTy, cmp_neB]; subst hQQ)
      refine wp_nil ?_
      simp only [seqF]
      (refine wp_cons ?_; generalize hQQ : seqF _ _ = QQ; simp -implicitDefEqProofs [exS, ev, evL, evI, evO, asgT, asgTs, seqOf_tup, seqOf_fl, getVar, permArgs, wipeE, evAnd, wp_bind, wp_ok, ok_bind, wp_evB, tr_bl, Pk02.s9_0_1, cb_len_fl, cmp_neI]; subst hQQ)
      refine wp_nil ?_
      simp only [seqF]
      (refine wp_cons ?_; generalize hQQ : seqF _ _ = QQ; simp -implicitDefEqProofs [exS, ev, evL, evI, evO, asgT, asgTs, seqOf_tup, seqOf_fl, getVar, permArgs, wipeE, evAnd, wp_bind, wp_ok, ok_bind, wp_evB, tr_bl, Pk02.s9_0_2, zip2V, zip_self, lstOf, wOf]; subst hQQ)
      refine wp_comp_tt (fun T => T = S) rfl (fun _ _ => rfl) (fun x hx T hT => ?_) fun r T hl hr hT => ?_
      · subst hT
        obtain ⟨y, hy, rfl⟩ := List.mem_map.mp hx
        refine wp_noEx ?_
        ((try generalize hQQ : endsF _ _ = QQ); simp -implicitDefEqProofs [exS, ev, evL, evI, evO, asgT, asgTs, seqOf_tup, seqOf_fl, getVar, permArgs, wipeE, evAnd, wp_bind, wp_ok, ok_bind, wp_evB, tr_bl]; (try subst hQQ))
        refine wp_mono (ih y T (hf.2 y hy)) fun a T2 h => ?_
        obtain ⟨rfl, rfl⟩ := h
        first | exact ⟨rfl, rfl⟩ | exact wp_val ⟨rfl, rfl⟩
      · subst hT
        refine wp_fl (by rw [hl, List.length_map]; unfold sizeL; omega) ?_
        rw [all_tt hr]
        simp only [wp_ok, seqF]
        exact gc_same0 rfl q
    | non =>
      (refine wp_cons ?_; generalize hQQ : seqF _ _ = QQ; simp -implicitDefEqProofs [exS, ev, evL, evI, evO, asgT, asgTs, seqOf_tup, seqOf_fl, getVar, permArgs, wipeE, evAnd, wp_bind, wp_ok, ok_bind, wp_evB, tr_bl, Pk02.s9_0, isi_non, hasTy]; subst hQQ)
      refine wp_nil ?_
      simp only [seqF]
      (refine wp_cons ?_; generalize hQQ : seqF _ _ = QQ; simp -implicitDefEqProofs [exS, ev, evL, evI, evO, asgT, asgTs, seqOf_tup, seqOf_fl, getVar, permArgs, wipeE, evAnd, wp_bind, wp_ok, ok_bind, wp_evB, tr_bl, Pk02.s9_1, cmp_is_non]; subst hQQ)
      (refine wp_cons ?_; generalize hQQ : seqF _ _ = QQ; simp -implicitDefEqProofs [exS, ev, evL, evI, evO, asgT, asgTs, seqOf_tup, seqOf_fl, getVar, permArgs, wipeE, evAnd, wp_bind, wp_ok, ok_bind, wp_evB, tr_bl, Pk02.s9_1_0, cmp_is_non]; subst hQQ)
      simp only [seqF]
      exact gc_same0 rfl q
    | int i =>
      (refine wp_cons ?_; generalize hQQ : seqF _ _ = QQ; simp -implicitDefEqProofs [exS, ev, evL, evI, evO, asgT, asgTs, seqOf_tup, seqOf_fl, getVar, permArgs, wipeE, evAnd, wp_bind, wp_ok, ok_bind, wp_evB, tr_bl, Pk02.s9_0, isi_int, hasTy]; subst hQQ)
      refine wp_nil ?_
      simp only [seqF]
      (refine wp_cons ?_; generalize hQQ : seqF _ _ = QQ; simp -implicitDefEqProofs [exS, ev, evL, evI, evO, asgT, asgTs, seqOf_tup, seqOf_fl, getVar, permArgs, wipeE, evAnd, wp_bind, wp_ok, ok_bind, wp_evB, tr_bl, Pk02.s9_1, cmp_is_non]; subst hQQ)
      refine wp_nil ?_
      simp only [seqF]
      (refine wp_cons ?_; generalize hQQ : seqF _ _ = QQ; simp -implicitDefEqProofs [exS, ev, evL, evI, evO, asgT, asgTs, seqOf_tup, seqOf_fl, getVar, permArgs, wipeE, evAnd, wp_bind, wp_ok, ok_bind, wp_evB, tr_bl, Pk02.s9_2, isi_int, hasTy]; subst hQQ)
      refine wp_nil ?_
      simp only [seqF]
      (refine wp_cons ?_; generalize hQQ : seqF _ _ = QQ; simp -implicitDefEqProofs [exS, ev, evL, evI, evO, asgT, asgTs, seqOf_tup, seqOf_fl, getVar, permArgs, wipeE, evAnd, wp_bind, wp_ok, ok_bind, wp_evB, tr_bl, Pk02.s9_3, isi_int, hasTy]; subst hQQ)
      refine wp_nil ?_
      simp only [seqF]
      (refine wp_cons ?_; generalize hQQ : seqF _ _ = QQ; simp -implicitDefEqProofs [exS, ev, evL, evI, evO, asgT, asgTs, seqOf_tup, seqOf_fl, getVar, permArgs, wipeE, evAnd, wp_bind, wp_ok, ok_bind, wp_evB, tr_bl, Pk02.s9_4, isi_int, hasTy, cmp_eq]; subst hQQ)
      simp only [seqF]
      exact gc_same0 rfl q
    | str s =>
      (refine wp_cons ?_; generalize hQQ : seqF _ _ = QQ; simp -implicitDefEqProofs [exS, ev, evL, evI, evO, asgT, asgTs, seqOf_tup, seqOf_fl, getVar, permArgs, wipeE, evAnd, wp_bind, wp_ok, ok_bind, wp_evB, tr_bl, Pk02.s9_0, isi_str, hasTy]; subst hQQ)
      refine wp_nil ?_
      simp only [seqF]
      (refine wp_cons ?_; generalize hQQ : seqF _ _ = QQ; simp -implicitDefEqProofs [exS, ev, evL, evI, evO, asgT, asgTs, seqOf_tup, seqOf_fl, getVar, permArgs, wipeE, evAnd, wp_bind, wp_ok, ok_bind, wp_evB, tr_bl, Pk02.s9_1, cmp_is_non]; subst hQQ)
      refine wp_nil ?_
      simp only [seqF]
      (refine wp_cons ?_; generalize hQQ : seqF _ _ = QQ; simp -implicitDefEqProofs [exS, ev, evL, evI, evO, asgT, asgTs, seqOf_tup, seqOf_fl, getVar, permArgs, wipeE, evAnd, wp_bind, wp_ok, ok_bind, wp_evB, tr_bl, Pk02.s9_2, isi_str, hasTy]; subst hQQ)
      (refine wp_cons ?_; generalize hQQ : seqF _ _ = QQ; simp -implicitDefEqProofs [exS, ev, evL, evI, evO, asgT, asgTs, seqOf_tup, seqOf_fl, getVar, permArgs, wipeE, evAnd, wp_bind, wp_ok, ok_bind, wp_evB, tr_bl, Pk02.s9_2_0, isi_str, hasTy, ceq]; subst hQQ)
      simp only [seqF]
      exact gc_same0 rfl q
    | _ => cases hf
mutual
/-- every tuple a list -/
def listed : PV → PV
  | .tup l => .fl (listedL l)
  | .fl l => .fl (listedL l)
  | v => v
def listedL : List PV → List PV
  | [] => []
  | x :: l => listed x :: listedL l
end
theorem listedL_map {l : List PV} : listedL l = l.map listed := by
  induction l with
  | nil => rfl
  | cons a l ih => simp [listedL, ih]
theorem flatMap_one {α β : Type} {f : α → β} {l : List α} : (l.flatMap fun x => [f x]) = l.map f := by
  induction l with
  | nil => rfl
  | cons a l ih => rw [List.flatMap_cons, ih]; rfl
theorem fine_listed : ∀ {k : Nat} {v : PV}, fine k v = true → fine k (listed v) = true
  | 0, v, h => by cases h
  | k + 1, v, h => by
    cases v with
    | tup l =>
      simp only [fine, Bool.and_eq_true, List.all_eq_true, decide_eq_true_eq] at h
      simp only [listed, fine, listedL_map, Bool.and_eq_true, List.all_eq_true, decide_eq_true_eq, List.length_map]
      refine ⟨h.1, fun x hx => ?_⟩
      obtain ⟨y, hy, rfl⟩ := List.mem_map.mp hx
      exact fine_listed (h.2 y hy)
    | fl l =>
      simp only [fine, Bool.and_eq_true, List.all_eq_true, decide_eq_true_eq] at h
      simp only [listed, fine, listedL_map, Bool.and_eq_true, List.all_eq_true, decide_eq_true_eq, List.length_map]
      refine ⟨h.1, fun x hx => ?_⟩
      obtain ⟨y, hy, rfl⟩ := List.mem_map.mp hx
      exact fine_listed (h.2 y hy)
    | non => rfl
    | int i => rfl
    | str s => rfl
    | _ => cases h
theorem listed_ok {P : Prog} (h11 : P.fn 11 = some Pk02.d11) : ∀ (d : Nat) {k : Nat} {S : Store} {v : PV}, d ≤ 20 → fine d v = true → ∀ {Q : PV → Store → Prop}, Q (listed v) S → wp (callN P (k + d) 11 [v] S) Q
  | 0, k, S, v, _, hf, Q, q => by cases hf
  | d + 1, k, S, v, hd, hf, Q, q => by
    have hp := plain_up (fine_plain (fine_listed hf)) (j := depthL) (by unfold depthL; omega)
    have ih := fun (x : PV) (S : Store) (hx : fine d x = true) => listed_ok h11 d (k := k) (S := S) (v := x) (by omega) hx (Q := fun v S' => v = listed x ∧ S' = S) ⟨rfl, rfl⟩
    have h11' := h11
    unfold Pk02.d11 at h11'
    rw [show k + (d + 1) = (k + d) + 1 from rfl]
    (refine wp_call h11' rfl ?_; simp only [List.map_cons, List.map_nil, Nat.reduceSub, List.replicate_succ, List.replicate_zero, List.cons_append, List.nil_append])
    cases v with
    | tup l =>
      simp only [fine, Bool.and_eq_true, List.all_eq_true, decide_eq_true_eq] at hf
      (refine wp_cons ?_; generalize hQQ : seqF _ _ = QQ; simp -implicitDefEqProofs [exS, ev, evL, evI, evO, asgT, asgTs, seqOf_tup, seqOf_fl, getVar, permArgs, wipeE, evAnd, wp_bind, wp_ok, ok_bind, wp_evB, tr_bl, Pk02.s11_0, isi_tup, hasTy, itemsOf]; subst hQQ)
      refine wp_compP (fun x => [listed x]) rfl (fun x hx => ?_) ?_
      · refine wp_noEx ?_
        ((try generalize hQQ : endsF _ _ = QQ); simp -implicitDefEqProofs [exS, ev, evL, evI, evO, asgT, asgTs, seqOf_tup, seqOf_fl, getVar, permArgs, wipeE, evAnd, wp_bind, wp_ok, ok_bind, wp_evB, tr_bl]; (try subst hQQ))
        refine wp_mono (ih x S (hf.2 x hx)) fun a T2 h => ?_
        obtain ⟨rfl, rfl⟩ := h
        first | exact ⟨rfl, rfl⟩ | exact wp_val ⟨rfl, rfl⟩
      · have e : (l.flatMap fun x => [listed x]) = listedL l := by rw [listedL_map, flatMap_one]
        rw [e]
        refine wp_fl (by rw [listedL_map, List.length_map]; unfold sizeL; omega) ?_
        simp only [seqF]
        exact gc_same0 hp q
    | fl l =>
      simp only [fine, Bool.and_eq_true, List.all_eq_true, decide_eq_true_eq] at hf
      (refine wp_cons ?_; generalize hQQ : seqF _ _ = QQ; simp -implicitDefEqProofs [exS, ev, evL, evI, evO, asgT, asgTs, seqOf_tup, seqOf_fl, getVar, permArgs, wipeE, evAnd, wp_bind, wp_ok, ok_bind, wp_evB, tr_bl, Pk02.s11_0, isi_fl, hasTy, itemsOf]; subst hQQ)
      refine wp_compP (fun x => [listed x]) rfl (fun x hx => ?_) ?_
      · refine wp_noEx ?_
        ((try generalize hQQ : endsF _ _ = QQ); simp -implicitDefEqProofs [exS, ev, evL, evI, evO, asgT, asgTs, seqOf_tup, seqOf_fl, getVar, permArgs, wipeE, evAnd, wp_bind, wp_ok, ok_bind, wp_evB, tr_bl]; (try subst hQQ))
        refine wp_mono (ih x S (hf.2 x hx)) fun a T2 h => ?_
        obtain ⟨rfl, rfl⟩ := h
        first | exact ⟨rfl, rfl⟩ | exact wp_val ⟨rfl, rfl⟩
      · have e : (l.flatMap fun x => [listed x]) = listedL l := by rw [listedL_map, flatMap_one]
        rw [e]
        refine wp_fl (by rw [listedL_map, List.length_map]; unfold sizeL; omega) ?_
        simp only [seqF]
        exact gc_same0 hp q
    | non =>
      (refine wp_cons ?_; generalize hQQ : seqF _ _ = QQ; simp -implicitDefEqProofs [exS, ev, evL, evI, evO, asgT, asgTs, seqOf_tup, seqOf_fl, getVar, permArgs, wipeE, evAnd, wp_bind, wp_ok, ok_bind, wp_evB, tr_bl, Pk02.s11_0, isi_non, hasTy]; subst hQQ)
      simp only [seqF]
      exact gc_same0 rfl q
    | int i =>
      (refine wp_cons ?_; generalize hQQ : seqF _ _ = QQ; simp -implicitDefEqProofs [exS, ev, evL, evI, evO, asgT, asgTs, seqOf_tup, seqOf_fl, getVar, permArgs, wipeE, evAnd, wp_bind, wp_ok, ok_bind, wp_evB, tr_bl, Pk02.s11_0, isi_int, hasTy]; subst hQQ)
      simp only [seqF]
      exact gc_same0 rfl q
    | str s =>
      (refine wp_cons ?_; generalize hQQ : seqF _ _ = QQ; simp -implicitDefEqProofs [exS, ev, evL, evI, evO, asgT, asgTs, seqOf_tup, seqOf_fl, getVar, permArgs, wipeE, evAnd, wp_bind, wp_ok, ok_bind, wp_evB, tr_bl, Pk02.s11_0, isi_str, hasTy]; subst hQQ)
      simp only [seqF]
      exact gc_same0 rfl q
    | _ => cases hf
end LC

namespace LC
open G
/-! ### k02: rooms of tuples or of lists -/
def mkS (b : Bool) (l : List PV) : PV := if b then .fl l else .tup l
def encPb (b : Bool) (p : Nat × List Nat) : PV := mkS b [.int p.1, .str p.2]
def encHb (b : Bool) (h : Heap) : PV := mkS b (h.map (encPb b))
def encRb (b : Bool) (r : Room) : PV := mkS b (r.map (encHb b))
theorem encR_false {r : Room} : encR r = encRb false r := rfl
theorem listed_room {r : Room} : listed (encR r) = encRb true r := by
  have hp : ∀ p : Nat × List Nat, listed (encP p) = encPb true p := fun p => rfl
  have hh : ∀ h : Heap, listed (encH h) = encHb true h := fun h => by
    simp only [encH, listed, encHb, mkS, if_true, listedL_map, List.map_map]
    congr 1
  simp only [encR, listed, encRb, mkS, if_true, listedL_map, List.map_map]
  congr 1
  exact List.map_congr_left fun h _ => hh h
theorem len_mk {b m : Bool} {l : List PV} {S : Store} : callB .len m [mkS b l] S = .ok (.int l.length) S := by cases b <;> rfl
theorem ix_mk {b : Bool} {l : List PV} {i : Int} {S : Store} : getIx (mkS b l) (.int i) S = lift (atI l i) S := by cases b <;> rfl
theorem items_mk {b : Bool} {l : List PV} {S : Store} : itemsOf (mkS b l) S = .ok ⟨l, []⟩ S := by cases b <;> rfl
theorem seq_mk {b : Bool} {l : List PV} {S : Store} : seqOf S (mkS b l) = some l := by cases b <;> rfl
section
variable {P : Prog} {k : Nat} {S : Store} {b : Bool}
theorem there2 (h1 : P.fn 1 = some Pk02.d1) (h20 : P.fn 20 = some Pk02.d20) {l : List PV} {i : Int} {Q : PV → Store → Prop} (q : Q (.bl (decide (0 ≤ i) && decide (i < l.length))) S) : wp (callN P (k + 2) 20 [mkS b l, .int i] S) Q := by
  unfold Pk02.d20 at h20
  (refine wp_call h20 rfl ?_; simp only [List.map_cons, List.map_nil, Nat.reduceSub, List.replicate_succ, List.replicate_zero, List.cons_append, List.nil_append])
  (refine wp_cons ?_; generalize hQQ : seqF _ _ = QQ; simp -implicitDefEqProofs [exS, ev, evL, evI, evO, asgT, asgTs, seqOf_tup, seqOf_fl, getVar, permArgs, wipeE, evAnd, wp_bind, wp_ok, ok_bind, wp_evB, tr_bl, Pk02.s20_0, cmp_le, cmp_lt, len_mk]; subst hQQ)
  refine number_ok h1 ?_
  by_cases h : 0 ≤ i
  · simp [lift, truthy, cmp_le, cmp_lt, len_mk, wp_bind, wp_ok, ok_bind, h, seqF] at q ⊢
    exact gc_same0 rfl q
  · simp [lift, truthy, cmp_le, cmp_lt, len_mk, wp_bind, wp_ok, ok_bind, h, seqF] at q ⊢
    exact gc_same0 rfl q
theorem look2 (h1 : P.fn 1 = some Pk02.d1) (h20 : P.fn 20 = some Pk02.d20) (h21 : P.fn 21 = some Pk02.d21) {l : List PV} {i : Int} (h0 : 0 ≤ i) (hi : i < l.length) {Q : PV → Store → Prop} (q : Q .non S) : wp (callN P (k + 3) 21 [mkS b l, .int i] S) Q := by
  unfold Pk02.d21 at h21
  (refine wp_call h21 rfl ?_; simp only [List.map_cons, List.map_nil, Nat.reduceSub, List.replicate_succ, List.replicate_zero, List.cons_append, List.nil_append])
  (refine wp_cons ?_; generalize hQQ : seqF _ _ = QQ; simp -implicitDefEqProofs [exS, ev, evL, evI, evO, asgT, asgTs, seqOf_tup, seqOf_fl, getVar, permArgs, wipeE, evAnd, wp_bind, wp_ok, ok_bind, wp_evB, tr_bl, Pk02.s21_0]; subst hQQ)
  refine there2 h1 h20 ?_
  simp [lift, truthy, wp_ok, h0, hi]
  refine wp_nil ?_
  simp only [seqF]
  refine wp_nil ?_
  exact gc_same0 rfl q
/-- a call that raises -/
theorem call_x {n f c : Nat} {d : Def} {args : List PV} {i : Int} (hf : P.fn f = some d) (hl : args.length = d.np) (hg : d.gc = 1)
    (h : exL P (callN P n) d.body (args.map some ++ List.replicate (d.ns - d.np) none) S = .ex (.exc c [.int i]) S) : callN P (n + 1) f args S = .ex (.exc c [.int i]) S := by
  have e1 : frzOld S S.length S S = some S := by
    have := frzOld_same (S1 := S) (n := S.length) (S := S) (E := [])
    rwa [List.append_nil] at this
  have e2 : [PV.int i].mapM (frz S S.length depthL) = some [.int i] := rfl
  simp only [callN, hf, hl, if_true, runDef, h, hg, gcE, e1, e2]
theorem look_x (h1 : P.fn 1 = some Pk02.d1) (h20 : P.fn 20 = some Pk02.d20) (h21 : P.fn 21 = some Pk02.d21) {l : List PV} {i : Int} (hb : (decide (0 ≤ i) && decide (i < l.length)) = false) : callN P (k + 3) 21 [mkS b l, .int i] S = .ex (.exc 1 [.int i]) S := by
  have e : callN P (k + 2) 20 [mkS b l, .int i] S = .ok (.bl false) S := by
    obtain ⟨v, S', e, rfl, rfl⟩ := (there2 (P := P) (k := k) (S := S) (b := b) h1 h20 (l := l) (i := i) (Q := fun v S' => v = .bl (decide (0 ≤ i) && decide (i < l.length)) ∧ S' = S) ⟨rfl, rfl⟩).ex
    rw [hb] at e
    exact e
  refine call_x h21 rfl rfl ?_
  generalize callN P (k + 2) = C at e ⊢
  simp [Pk02.d21, Pk02.s21_0, Pk02.s21_0_0, exL, exS, ev, evL, getVar, permArgs, e, R.bind, evB, lift, truthy]
theorem heap2 (h19 : P.fn 19 = some Pk02.d19) {h : Heap} (hl : h.length < 10000) {Q : PV → Store → Prop} (q : Q (encH h) S) : wp (callN P (k + 1) 19 [encHb b h] S) Q := by
  unfold Pk02.d19 at h19
  (refine wp_call h19 rfl ?_; simp only [List.map_cons, List.map_nil, Nat.reduceSub, List.replicate_succ, List.replicate_zero, List.cons_append, List.nil_append])
  rw [encHb]
  (refine wp_cons ?_; generalize hQQ : seqF _ _ = QQ; simp -implicitDefEqProofs [exS, ev, evL, evI, evO, asgT, asgTs, seqOf_tup, seqOf_fl, getVar, permArgs, wipeE, evAnd, wp_bind, wp_ok, ok_bind, wp_evB, tr_bl, Pk02.s19_0, items_mk]; subst hQQ)
  refine wp_compP (fun x => match x with | .tup l => [.tup l] | .fl l => [.tup l] | _ => []) rfl (fun x hx => ?_) ?_
  · obtain ⟨p, _, rfl⟩ := List.mem_map.mp hx
    refine wp_noEx ?_
    rw [encPb]
    generalize (p.1 : Int) = i
    cases b
    · simp only [mkS, Bool.false_eq_true, if_false]
      ((try generalize hQQ : endsF _ _ = QQ); simp -implicitDefEqProofs [exS, ev, evL, evI, evO, asgT, asgTs, seqOf_tup, seqOf_fl, getVar, permArgs, wipeE, evAnd, wp_bind, wp_ok, ok_bind, wp_evB, tr_bl]; (try subst hQQ))
      rw [newTup_ok (by simp [sizeL])]
      exact wp_val ⟨rfl, rfl⟩
    · simp only [mkS, if_true]
      ((try generalize hQQ : endsF _ _ = QQ); simp -implicitDefEqProofs [exS, ev, evL, evI, evO, asgT, asgTs, seqOf_tup, seqOf_fl, getVar, permArgs, wipeE, evAnd, wp_bind, wp_ok, ok_bind, wp_evB, tr_bl]; (try subst hQQ))
      rw [newTup_ok (by simp [sizeL])]
      exact wp_val ⟨rfl, rfl⟩
  · have e : ((h.map (encPb b)).flatMap fun x => match x with | .tup l => [PV.tup l] | .fl l => [.tup l] | _ => []) = h.map encP := by
      rw [List.flatMap_map]
      rw [← flatMap_one]
      congr 1
      funext p
      cases b <;> rfl
    rw [e]
    refine wp_fl (by simp [sizeL]; omega) ?_
    simp only [cb_tuple_fl, wp_ok, seqF]
    exact gc_same0 plainH q
theorem at_room {r : Room} {i : Int} {h : Heap} (h0 : 0 ≤ i) (hh : r[i.toNat]? = some h) : getIx (encRb b r) (.int i) S = .ok (encHb b h) S := by
  have e : (r.map (encHb b))[i.toNat]? = some (encHb b h) := by rw [List.getElem?_map, hh]; rfl
  rw [encRb, ix_mk, atI_int h0 e]
  rfl
def dueOf (h : Heap) : PV := match h.getLast? with | some p => encP p | none => .non
theorem upper2 (h1 : P.fn 1 = some Pk02.d1) (h19 : P.fn 19 = some Pk02.d19) (h20 : P.fn 20 = some Pk02.d20) (h21 : P.fn 21 = some Pk02.d21) (h22 : P.fn 22 = some Pk02.d22) {r : Room} {i : Int} {h : Heap} (hs : size r < 10000) (h0 : 0 ≤ i) (hh : r[i.toNat]? = some h) {Q : PV → Store → Prop} (q : Q (dueOf h) S) :
    wp (callN P (k + 4) 22 [encRb b r, .int i] S) Q := by
  have hle := len_le hh
  have hi : i < r.length := by
    have := (List.getElem?_eq_some_iff.mp hh).1
    omega
  unfold Pk02.d22 at h22
  (refine wp_call h22 rfl ?_; simp only [List.map_cons, List.map_nil, Nat.reduceSub, List.replicate_succ, List.replicate_zero, List.cons_append, List.nil_append])
  (refine wp_cons ?_; generalize hQQ : seqF _ _ = QQ; simp -implicitDefEqProofs [exS, ev, evL, evI, evO, asgT, asgTs, seqOf_tup, seqOf_fl, getVar, permArgs, wipeE, evAnd, wp_bind, wp_ok, ok_bind, wp_evB, tr_bl, Pk02.s22_0]; subst hQQ)
  rw [encRb]
  refine look2 h1 h20 h21 h0 (by rw [List.length_map]; exact hi) ?_
  rw [← encRb]
  simp only [seqF]
  (refine wp_cons ?_; generalize hQQ : seqF _ _ = QQ; simp -implicitDefEqProofs [exS, ev, evL, evI, evO, asgT, asgTs, seqOf_tup, seqOf_fl, getVar, permArgs, wipeE, evAnd, wp_bind, wp_ok, ok_bind, wp_evB, tr_bl, Pk02.s22_1, at_room h0 hh]; subst hQQ)
  refine heap2 h19 (by omega) ?_
  simp only [seqF]
  refine wp_cons ?_
  have el : callB .len false [encH h] S = .ok (.int h.length) S := by simp [encH, cb_len_tup]
  simp only [Pk02.s22_2, exS, ev, evL, getVar, negV, wp_bind, wp_ok, ok_bind, el, cmp_gt, evB_wbl, List.getElem?_cons_succ, List.getElem?_cons_zero]
  cases hg : h.getLast? with
  | none =>
    have e : h = [] := List.getLast?_eq_none_iff.mp hg
    subst e
    unfold dueOf at q
    rw [hg] at q
    simp [wp_ok, seqF]
    exact gc_same0 rfl q
  | some p =>
    have hp : 0 < h.length := by
      cases h with
      | nil => cases hg
      | cons a t => simp
    have e : (h.map encP).getLast? = some (encP p) := by rw [List.getLast?_map, hg]; rfl
    unfold dueOf at q
    rw [hg] at q
    have gl : getIx (encH h) (.int (-1)) S = .ok (encP p) S := by simp only [encH, getIx, atI_last e, lift]
    simp [hp, gl, wp_ok, seqF]
    exact gc_same0 plainP q
theorem held2 (h1 : P.fn 1 = some Pk02.d1) (h20 : P.fn 20 = some Pk02.d20) (h21 : P.fn 21 = some Pk02.d21) (h23 : P.fn 23 = some Pk02.d23) {r : Room} {i j : Int} (hs : size r < 10000) (h0 : 0 ≤ i) (hi : i < r.length) (hj : 0 ≤ j) (hj2 : j < r.length) {Q : PV → Store → Prop} (q : Q (encW (held r i.toNat j.toNat)) S) :
    wp (callN P (k + 4) 23 [encRb b r, .int i, .int j] S) Q := by
  obtain ⟨h, hh⟩ : ∃ h, r[i.toNat]? = some h := ⟨r[i.toNat]'(by omega), by rw [List.getElem?_eq_some_iff]; exact ⟨by omega, rfl⟩⟩
  have hle := len_le hh
  unfold Pk02.d23 at h23
  (refine wp_call h23 rfl ?_; simp only [List.map_cons, List.map_nil, Nat.reduceSub, List.replicate_succ, List.replicate_zero, List.cons_append, List.nil_append])
  (refine wp_cons ?_; generalize hQQ : seqF _ _ = QQ; simp -implicitDefEqProofs [exS, ev, evL, evI, evO, asgT, asgTs, seqOf_tup, seqOf_fl, getVar, permArgs, wipeE, evAnd, wp_bind, wp_ok, ok_bind, wp_evB, tr_bl, Pk02.s23_0]; subst hQQ)
  rw [encRb]
  refine look2 h1 h20 h21 h0 (by rw [List.length_map]; exact hi) ?_
  rw [← encRb]
  simp only [seqF]
  (refine wp_cons ?_; generalize hQQ : seqF _ _ = QQ; simp -implicitDefEqProofs [exS, ev, evL, evI, evO, asgT, asgTs, seqOf_tup, seqOf_fl, getVar, permArgs, wipeE, evAnd, wp_bind, wp_ok, ok_bind, wp_evB, tr_bl, Pk02.s23_1]; subst hQQ)
  rw [encRb]
  refine look2 h1 h20 h21 hj (by rw [List.length_map]; exact hj2) ?_
  rw [← encRb]
  simp only [seqF]
  (refine wp_cons ?_; generalize hQQ : seqF _ _ = QQ; simp -implicitDefEqProofs [exS, ev, evL, evI, evO, asgT, asgTs, seqOf_tup, seqOf_fl, getVar, permArgs, wipeE, evAnd, wp_bind, wp_ok, ok_bind, wp_evB, tr_bl, Pk02.s23_2, at_room h0 hh, encHb, items_mk]; subst hQQ)
  refine wp_compP (fun x => match x with | .tup [.int a, w] => if a == j then [w] else [] | .fl [.int a, w] => if a == j then [w] else [] | _ => []) rfl (fun x hx => ?_) ?_
  · obtain ⟨p, _, rfl⟩ := List.mem_map.mp hx
    refine wp_noEx ?_
    rw [encPb]
    generalize (p.1 : Int) = a
    cases b
    · simp only [mkS, Bool.false_eq_true, if_false]
      ((try generalize hQQ : endsF _ _ = QQ); simp -implicitDefEqProofs [exS, ev, evL, evI, evO, asgT, asgTs, seqOf_tup, seqOf_fl, getVar, permArgs, wipeE, evAnd, wp_bind, wp_ok, ok_bind, wp_evB, tr_bl, cmp_eq]; (try subst hQQ))
      by_cases e : a = j
      · subst e; simp [wp_ok, wp_bind, lift, truthy]
      · simp [e, wp_ok, lift, truthy]
    · simp only [mkS, if_true]
      ((try generalize hQQ : endsF _ _ = QQ); simp -implicitDefEqProofs [exS, ev, evL, evI, evO, asgT, asgTs, seqOf_tup, seqOf_fl, getVar, permArgs, wipeE, evAnd, wp_bind, wp_ok, ok_bind, wp_evB, tr_bl, cmp_eq]; (try subst hQQ))
      by_cases e : a = j
      · subst e; simp [wp_ok, wp_bind, lift, truthy]
      · simp [e, wp_ok, lift, truthy]
  · have e0 : ((h.map (encPb b)).flatMap fun x => match x with | .tup [.int a, w] => if a == j then [w] else [] | .fl [.int a, w] => if a == j then [w] else [] | _ => []) = (h.flatMap fun p => if p.1 = j.toNat then [p.2] else []).map PV.str := by
      refine Eq.trans ?_ (comp_held hj)
      rw [List.flatMap_map, List.flatMap_map]
      congr 1
      funext p
      cases b <;> rfl
    rw [e0]
    have e : (h.flatMap fun p => if p.1 = j.toNat then [p.2] else []) = held r i.toNat j.toNat := by unfold held; rw [hh]; rfl
    rw [e]
    have hln : (held r i.toNat j.toNat).length ≤ h.length := by
      rw [← e]
      exact fm_len
    refine wp_fl (by rw [List.length_map]; unfold sizeL; omega) ?_
    simp only [cb_tuple_fl, wp_ok, seqF]
    exact gc_same0 plainW q
theorem sum_len {r : Room} : (r.map fun h => (h.length : Int)).sum = size r := by
  induction r with
  | nil => rfl
  | cons h r ih =>
    rw [List.map_cons, List.sum_cons, ih]
    simp [size]
theorem grudges2 (h24 : P.fn 24 = some Pk02.d24) {r : Room} (hlen : r.length < 10000) {Q : PV → Store → Prop} (q : ∀ z : Int, z = size r → Q (.int z) S) : wp (callN P (k + 1) 24 [encRb b r] S) Q := by
  unfold Pk02.d24 at h24
  (refine wp_call h24 rfl ?_; simp only [List.map_cons, List.map_nil, Nat.reduceSub, List.replicate_succ, List.replicate_zero, List.cons_append, List.nil_append])
  rw [encRb]
  (refine wp_cons ?_; generalize hQQ : seqF _ _ = QQ; simp -implicitDefEqProofs [exS, ev, evL, evI, evO, asgT, asgTs, seqOf_tup, seqOf_fl, getVar, permArgs, wipeE, evAnd, wp_bind, wp_ok, ok_bind, wp_evB, tr_bl, Pk02.s24_0, items_mk]; subst hQQ)
  refine wp_compP (fun x => match x with | .tup l => [.int l.length] | .fl l => [.int l.length] | _ => []) rfl (fun x hx => ?_) ?_
  · obtain ⟨h, _, rfl⟩ := List.mem_map.mp hx
    refine wp_noEx ?_
    rw [encHb]
    cases b
    · simp only [mkS, Bool.false_eq_true, if_false]
      ((try generalize hQQ : endsF _ _ = QQ); simp -implicitDefEqProofs [exS, ev, evL, evI, evO, asgT, asgTs, seqOf_tup, seqOf_fl, getVar, permArgs, wipeE, evAnd, wp_bind, wp_ok, ok_bind, wp_evB, tr_bl, cb_len_tup]; (try subst hQQ))
    · simp only [mkS, if_true]
      ((try generalize hQQ : endsF _ _ = QQ); simp -implicitDefEqProofs [exS, ev, evL, evI, evO, asgT, asgTs, seqOf_tup, seqOf_fl, getVar, permArgs, wipeE, evAnd, wp_bind, wp_ok, ok_bind, wp_evB, tr_bl, cb_len_fl]; (try subst hQQ))
  · have e : (r.map (encHb b)).flatMap (fun x => match x with | .tup l => [PV.int l.length] | .fl l => [.int l.length] | _ => []) = (r.map fun h => (h.length : Int)).map PV.int := by
      rw [List.flatMap_map, List.map_map, ← flatMap_one]
      congr 1
      funext h
      cases b <;> simp [encHb, mkS]
    rw [e]
    refine wp_fl (by simp [sizeL]; omega) ?_
    have es : callB .sum false [.fl ((r.map fun h => (h.length : Int)).map PV.int)] S = .ok (.int (r.map fun h => (h.length : Int)).sum) S := by
      simp only [callB, lstOf, Option.bind_some, ints_of, lift, R.bind]
    simp only [es, wp_ok, seqF]
    exact gc_same0 rfl (q _ sum_len)
theorem upper_x (h1 : P.fn 1 = some Pk02.d1) (h20 : P.fn 20 = some Pk02.d20) (h21 : P.fn 21 = some Pk02.d21) (h22 : P.fn 22 = some Pk02.d22) {l : List PV} {i : Int} (hb : (decide (0 ≤ i) && decide (i < l.length)) = false) : callN P (k + 4) 22 [mkS b l, .int i] S = .ex (.exc 1 [.int i]) S := by
  have e := look_x (k := k) (S := S) (b := b) h1 h20 h21 hb
  refine call_x h22 rfl rfl ?_
  generalize callN P (k + 3) = C at e ⊢
  simp [Pk02.d22, Pk02.s22_0, exL, exS, ev, evL, getVar, permArgs, e, R.bind]
theorem held_x1 (h1 : P.fn 1 = some Pk02.d1) (h20 : P.fn 20 = some Pk02.d20) (h21 : P.fn 21 = some Pk02.d21) (h23 : P.fn 23 = some Pk02.d23) {l : List PV} {i j : Int} (hb : (decide (0 ≤ i) && decide (i < l.length)) = false) : callN P (k + 4) 23 [mkS b l, .int i, .int j] S = .ex (.exc 1 [.int i]) S := by
  have e := look_x (k := k) (S := S) (b := b) h1 h20 h21 hb
  refine call_x h23 rfl rfl ?_
  generalize callN P (k + 3) = C at e ⊢
  simp [Pk02.d23, Pk02.s23_0, exL, exS, ev, evL, getVar, permArgs, e, R.bind]
theorem held_x2 (h1 : P.fn 1 = some Pk02.d1) (h20 : P.fn 20 = some Pk02.d20) (h21 : P.fn 21 = some Pk02.d21) (h23 : P.fn 23 = some Pk02.d23) {l : List PV} {i j : Int} (h0 : 0 ≤ i) (hi : i < l.length) (hb : (decide (0 ≤ j) && decide (j < l.length)) = false) : callN P (k + 4) 23 [mkS b l, .int i, .int j] S = .ex (.exc 1 [.int j]) S := by
  have e := look_x (k := k) (S := S) (b := b) h1 h20 h21 hb
  have e2 : callN P (k + 3) 21 [mkS b l, .int i] S = .ok .non S := by
    obtain ⟨v, S', e, rfl, rfl⟩ := (look2 (P := P) (k := k) (S := S) (b := b) h1 h20 h21 h0 hi (Q := fun v S' => v = .non ∧ S' = S) ⟨rfl, rfl⟩).ex
    exact e
  refine call_x h23 rfl rfl ?_
  generalize callN P (k + 3) = C at e e2 ⊢
  simp [Pk02.d23, Pk02.s23_0, Pk02.s23_1, exL, exS, ev, evL, getVar, permArgs, e, e2, R.bind]
/-- a try whose body raises what is caught -/
theorem wp_try_x {C : Nat → List PV → Store → R PV} {w : List Nat} {bd su : List MS} {cs : List (Bool × Nat)} {i c : Nat} {l : List PV} {env : Env} {S S' : Store} {Q : Fl → Store → Prop} (hx : exL P C bd env S = .ex (.exc c l) S') (hb : P.base c ≠ 0)
    (hc : (cs.any fun q => if q.1 then decide (q.2 = P.base c) else decide (q.2 = c)) = true)
    (h : wp (exL P C su ((wipeE env w).set i (some (.exc c l))) S') fun f S => match f with
      | .nx env => Q (.nx (env.set i none)) S
      | .bk env => Q (.bk (env.set i none)) S
      | .ct env => Q (.ct (env.set i none)) S
      | .rt v => Q (.rt v) S) : wp (exS P C (.try_ w bd cs i su) env S) Q := by
  obtain ⟨f, S2, e, h⟩ := h.ex
  simp only [exS, hx, hb, if_false, hc, if_true, e, ok_bind]
  cases f with
  | nx e => exact wp_val h
  | bk e => exact wp_val h
  | ct e => exact wp_val h
  | rt v => exact wp_val h
theorem refused_ok (h26 : P.fn 26 = some Pk02.d26) (hb : P.base 1 = 2) (hf : P.flds 1 = [1]) {n : Nat} {way room mine its : PV} {far : Int} (hx : exL P (callN P n) [Pk02.s26_1_0] [some way, some room, some mine, some its, some .non, none, none, none] S = .ex (.exc 1 [.int far]) S) {Q : PV → Store → Prop} (q : Q (.int far) S) : wp (callN P (n + 1) 26 [way, room, mine, its] S) Q := by
  unfold Pk02.d26 at h26
  (refine wp_call h26 rfl ?_; simp only [List.map_cons, List.map_nil, Nat.reduceSub, List.replicate_succ, List.replicate_zero, List.cons_append, List.nil_append])
  (refine wp_cons ?_; generalize hQQ : seqF _ _ = QQ; simp -implicitDefEqProofs [exS, ev, evL, evI, evO, asgT, asgTs, seqOf_tup, seqOf_fl, getVar, permArgs, wipeE, evAnd, wp_bind, wp_ok, ok_bind, wp_evB, tr_bl, Pk02.s26_0]; subst hQQ)
  refine wp_cons ?_
  rw [Pk02.s26_1]
  refine wp_try_x hx (by rw [hb]; decide) (by simp) ?_
  (refine wp_cons ?_; generalize hQQ : seqF _ _ = QQ; simp -implicitDefEqProofs [exS, ev, evL, evI, evO, asgT, asgTs, seqOf_tup, seqOf_fl, getVar, permArgs, wipeE, evAnd, wp_bind, wp_ok, ok_bind, wp_evB, tr_bl, Pk02.s26_1_1]; subst hQQ)
  refine wp_nil ?_
  simp only [seqF, List.set_cons_succ, List.set_cons_zero]
  have i1 : ∀ S : Store, isiV P [.own 1] (.exc 1 [.int far]) S = .ok (.bl true) S := fun S => by rw [isi_exc (by simp [isOwnT, hb])]; simp [hasTy]
  have i2 : ∀ S : Store, isiV P [.base 2] (.exc 1 [.int far]) S = .ok (.bl true) S := fun S => by rw [isi_exc (by simp [isOwnT, hb])]; simp [hasTy, hb]
  have i3 : ∀ S : Store, isiV P [.own 2, .own 3] (.exc 1 [.int far]) S = .ok (.bl false) S := fun S => by rw [isi_exc (by simp [isOwnT, hb])]; simp [hasTy]
  (refine wp_cons ?_; generalize hQQ : seqF _ _ = QQ; simp -implicitDefEqProofs [exS, ev, evL, evI, evO, asgT, asgTs, seqOf_tup, seqOf_fl, getVar, permArgs, wipeE, evAnd, wp_bind, wp_ok, ok_bind, wp_evB, tr_bl, Pk02.s26_2, i1, i2, i3]; subst hQQ)
  have f1 : ∀ S : Store, fldV P 1 (.exc 1 [.int far]) S = .ok (.int far) S := fun S => by simp [fldV, hb, hf, lift, List.lookup]
  (refine wp_cons ?_; generalize hQQ : seqF _ _ = QQ; simp -implicitDefEqProofs [exS, ev, evL, evI, evO, asgT, asgTs, seqOf_tup, seqOf_fl, getVar, permArgs, wipeE, evAnd, wp_bind, wp_ok, ok_bind, wp_evB, tr_bl, Pk02.s26_3, f1]; subst hQQ)
  simp only [seqF]
  exact gc_same0 rfl q
end
end LC

namespace LC
open G
theorem isi_loc {P : Prog} {ts : List Ty} {S : Store} {n : Nat} : isiV P ts (.loc n) S = .ok (.bl (ts.any (hasTy P S (.loc n)))) S := rfl
/-- a list of the store, and what it holds -/
theorem same_loc {P : Prog} (h9 : P.fn 9 = some Pk02.d9) {d k : Nat} {S : Store} {n : Nat} {l : List PV} (hS : S[n]? = some (.lst l)) (hd : d ≤ 19) (hf : fine (d + 1) (.fl l) = true) {Q : PV → Store → Prop} (q : Q (.bl true) S) : wp (callN P (k + (d + 1)) 9 [.loc n, .fl l] S) Q := by
  have ih := fun (x : PV) (S : Store) (hx : fine d x = true) => same_ok h9 d (k := k) (S := S) (v := x) (by omega) hx (Q := fun v S' => v = .bl true ∧ S' = S) ⟨rfl, rfl⟩
  have t1 : ∀ ty, hasTy P S (.loc n) ty = hasTy P S (.fl l) ty := fun ty => by cases ty <;> simp [hasTy, hS]
  have i1 : ∀ ts, isiV P ts (.loc n) S = .ok (.bl (ts.any (hasTy P S (.fl l)))) S := fun ts => by rw [isi_loc, funext t1]
  have c1 : callB .len false [.loc n] S = .ok (.int l.length) S := by simp [callB, seqOf, hS]
  have z1 : zip2V (.loc n) (.fl l) S = .ok ⟨zipL2 l l, [(n, .lst l)]⟩ S := by simp [zip2V, lstOf, hS, wOf]
  simp only [fine, Bool.and_eq_true, List.all_eq_true, decide_eq_true_eq] at hf
  have h9' := h9
  unfold Pk02.d9 at h9'
  rw [show k + (d + 1) = (k + d) + 1 from rfl]
  (refine wp_call h9' rfl ?_; simp only [List.map_cons, List.map_nil, Nat.reduceSub, List.replicate_succ, List.replicate_zero, List.cons_append, List.nil_append])
  (refine wp_cons ?_; generalize hQQ : seqF _ _ = QQ; simp -implicitDefEqProofs [exS, ev, evL, evI, evO, asgT, asgTs, seqOf_tup, seqOf_fl, getVar, permArgs, wipeE, evAnd, wp_bind, wp_ok, ok_bind, wp_evB, tr_bl, Pk02.s9_0, isi_fl, hasTy]; subst hQQ)
  (refine wp_cons ?_; generalize hQQ : seqF _ _ = QQ; simp -implicitDefEqProofs [exS, ev, evL, evI, evO, asgT, asgTs, seqOf_tup, seqOf_fl, getVar, permArgs, wipeE, evAnd, wp_bind, wp_ok, ok_bind, wp_evB, tr_bl, Pk02.s9_0_0, i1, isi_fl, hasTy, cmp_neB]; subst hQQ)
  refine wp_nil ?_
  simp only [seqF]
  (refine wp_cons ?_; generalize hQQ : seqF _ _ = QQ; simp -implicitDefEqProofs [exS, ev, evL, evI, evO, asgT, asgTs, seqOf_tup, seqOf_fl, getVar, permArgs, wipeE, evAnd, wp_bind, wp_ok, ok_bind, wp_evB, tr_bl, Pk02.s9_0_1, c1, cb_len_fl, cmp_neI]; subst hQQ)
  refine wp_nil ?_
  simp only [seqF]
  (refine wp_cons ?_; generalize hQQ : seqF _ _ = QQ; simp -implicitDefEqProofs [exS, ev, evL, evI, evO, asgT, asgTs, seqOf_tup, seqOf_fl, getVar, permArgs, wipeE, evAnd, wp_bind, wp_ok, ok_bind, wp_evB, tr_bl, Pk02.s9_0_2, z1, zip_self]; subst hQQ)
  have hw : Its.ok ⟨l.map fun x => .tup [x, x], [(n, .lst l)]⟩ S = true := by simp [Its.ok, hS]
  refine wp_comp_tt (fun T => T = S) rfl (fun _ e => by subst e; exact hw) (fun x hx T hT => ?_) fun r T hl hr hT => ?_
  · subst hT
    obtain ⟨y, hy, rfl⟩ := List.mem_map.mp hx
    refine wp_noEx ?_
    ((try generalize hQQ : endsF _ _ = QQ); simp -implicitDefEqProofs [exS, ev, evL, evI, evO, asgT, asgTs, seqOf_tup, seqOf_fl, getVar, permArgs, wipeE, evAnd, wp_bind, wp_ok, ok_bind, wp_evB, tr_bl]; (try subst hQQ))
    refine wp_mono (ih y T (hf.2 y hy)) fun a T2 h => ?_
    obtain ⟨rfl, rfl⟩ := h
    first | exact ⟨rfl, rfl⟩ | exact wp_val ⟨rfl, rfl⟩
  · subst hT
    refine wp_fl (by rw [hl, List.length_map]; unfold sizeL; omega) ?_
    rw [all_tt hr]
    simp only [wp_ok, seqF]
    exact gc_same0 rfl q
theorem same_locs {P : Prog} (h9 : P.fn 9 = some Pk02.d9) {d k : Nat} {S : Store} {n m : Nat} {l : List PV} (hS : S[n]? = some (.lst l)) (hS2 : S[m]? = some (.lst l)) (hd : d ≤ 18) (hf : fine (d + 1) (.fl l) = true) {Q : PV → Store → Prop} (q : Q (.bl true) S) : wp (callN P (k + (d + 2)) 9 [.fl [.loc n, .loc m], .fl [.fl l, .fl l]] S) Q := by
  have ih := fun (i : Nat) (hi : S[i]? = some (.lst l)) => same_loc (P := P) h9 (d := d) (k := k) (S := S) hi (by omega) hf (Q := fun v S' => v = .bl true ∧ S' = S) ⟨rfl, rfl⟩
  have h9' := h9
  unfold Pk02.d9 at h9'
  rw [show k + (d + 2) = (k + (d + 1)) + 1 from rfl]
  (refine wp_call h9' rfl ?_; simp only [List.map_cons, List.map_nil, Nat.reduceSub, List.replicate_succ, List.replicate_zero, List.cons_append, List.nil_append])
  (refine wp_cons ?_; generalize hQQ : seqF _ _ = QQ; simp -implicitDefEqProofs [exS, ev, evL, evI, evO, asgT, asgTs, seqOf_tup, seqOf_fl, getVar, permArgs, wipeE, evAnd, wp_bind, wp_ok, ok_bind, wp_evB, tr_bl, Pk02.s9_0, isi_fl, hasTy]; subst hQQ)
  (refine wp_cons ?_; generalize hQQ : seqF _ _ = QQ; simp -implicitDefEqProofs [exS, ev, evL, evI, evO, asgT, asgTs, seqOf_tup, seqOf_fl, getVar, permArgs, wipeE, evAnd, wp_bind, wp_ok, ok_bind, wp_evB, tr_bl, Pk02.s9_0_0, isi_fl, hasTy, cmp_neB]; subst hQQ)
  refine wp_nil ?_
  simp only [seqF]
  (refine wp_cons ?_; generalize hQQ : seqF _ _ = QQ; simp -implicitDefEqProofs [exS, ev, evL, evI, evO, asgT, asgTs, seqOf_tup, seqOf_fl, getVar, permArgs, wipeE, evAnd, wp_bind, wp_ok, ok_bind, wp_evB, tr_bl, Pk02.s9_0_1, cb_len_fl, cmp_neI]; subst hQQ)
  refine wp_nil ?_
  simp only [seqF]
  have z1 : zip2V (.fl [.loc n, .loc m]) (.fl [.fl l, .fl l]) S = .ok ⟨[.tup [.loc n, .fl l], .tup [.loc m, .fl l]], []⟩ S := rfl
  (refine wp_cons ?_; generalize hQQ : seqF _ _ = QQ; simp -implicitDefEqProofs [exS, ev, evL, evI, evO, asgT, asgTs, seqOf_tup, seqOf_fl, getVar, permArgs, wipeE, evAnd, wp_bind, wp_ok, ok_bind, wp_evB, tr_bl, Pk02.s9_0_2, z1]; subst hQQ)
  refine wp_comp_tt (fun T => T = S) rfl (fun _ _ => rfl) (fun x hx T hT => ?_) fun r T hl hr hT => ?_
  · subst hT
    have hx : x = .tup [.loc n, .fl l] ∨ x = .tup [.loc m, .fl l] := by simpa using hx
    refine wp_noEx ?_
    rcases hx with rfl | rfl
    · ((try generalize hQQ : endsF _ _ = QQ); simp -implicitDefEqProofs [exS, ev, evL, evI, evO, asgT, asgTs, seqOf_tup, seqOf_fl, getVar, permArgs, wipeE, evAnd, wp_bind, wp_ok, ok_bind, wp_evB, tr_bl]; (try subst hQQ))
      refine wp_mono (ih n hS) fun a T2 h => ?_
      obtain ⟨rfl, rfl⟩ := h
      first | exact ⟨rfl, rfl⟩ | exact wp_val ⟨rfl, rfl⟩
    · ((try generalize hQQ : endsF _ _ = QQ); simp -implicitDefEqProofs [exS, ev, evL, evI, evO, asgT, asgTs, seqOf_tup, seqOf_fl, getVar, permArgs, wipeE, evAnd, wp_bind, wp_ok, ok_bind, wp_evB, tr_bl]; (try subst hQQ))
      refine wp_mono (ih m hS2) fun a T2 h => ?_
      obtain ⟨rfl, rfl⟩ := h
      first | exact ⟨rfl, rfl⟩ | exact wp_val ⟨rfl, rfl⟩
  · subst hT
    refine wp_fl (by rw [hl]; simp [sizeL]) ?_
    rw [all_tt hr]
    simp only [wp_ok, seqF]
    exact gc_same0 rfl q
section
variable {P : Prog} {k : Nat} {S : Store} {b : Bool}
structure FHeld (P : Prog) : Prop where
  h1 : P.fn 1 = some Pk02.d1
  h20 : P.fn 20 = some Pk02.d20
  h21 : P.fn 21 = some Pk02.d21
  h23 : P.fn 23 = some Pk02.d23
theorem line2 (F : FHeld P) (h50 : P.fn 50 = some Pk06.d50) {r : Room} {i j : Int} (hs : size r < 10000) (h0 : 0 ≤ i) (hi : i < r.length) (hj : 0 ≤ j) (hj2 : j < r.length) {Q : PV → Store → Prop} (q : Q (encW (line r i.toNat j.toNat)) S) : wp (callN P (k + 5) 50 [encRb b r, .int i, .int j] S) Q := by
  unfold Pk06.d50 at h50
  (refine wp_call h50 rfl ?_; simp only [List.map_cons, List.map_nil, Nat.reduceSub, List.replicate_succ, List.replicate_zero, List.cons_append, List.nil_append])
  (refine wp_cons ?_; generalize hQQ : seqF _ _ = QQ; simp -implicitDefEqProofs [exS, ev, evL, evI, evO, asgT, asgTs, seqOf_tup, seqOf_fl, getVar, permArgs, wipeE, evAnd, wp_bind, wp_ok, ok_bind, wp_evB, tr_bl, Pk06.s50_0]; subst hQQ)
  refine held2 F.h1 F.h20 F.h21 F.h23 hs h0 hi hj hj2 ?_
  refine held2 F.h1 F.h20 F.h21 F.h23 hs hj hj2 h0 hi ?_
  have l1 := held_len (r := r) (i := i.toNat) (j := j.toNat)
  have l2 := held_len (r := r) (i := j.toNat) (j := i.toNat)
  simp only [encW, revOf, wp_ok, bi_tup]
  rw [newTup_ok (by simp [sizeL]; omega)]
  simp only [wp_ok, seqF]
  have e : PV.tup ((held r i.toNat j.toNat).map PV.str ++ ((held r j.toNat i.toNat).map PV.str).reverse) = encW (line r i.toNat j.toNat) := by
    simp [encW, line]
  rw [e]
  exact gc_same0 plainW q
theorem cut2 (F : FHeld P) (h51 : P.fn 51 = some Pk06.d51) {r : Room} {i j : Int} (hs : size r < 10000) (h0 : 0 ≤ i) (hi : i < r.length) (hj : 0 ≤ j) (hj2 : j < r.length) {Q : PV → Store → Prop} (q : Q (.int ((held r i.toNat j.toNat).length : Nat)) S) : wp (callN P (k + 5) 51 [encRb b r, .int i, .int j] S) Q := by
  unfold Pk06.d51 at h51
  (refine wp_call h51 rfl ?_; simp only [List.map_cons, List.map_nil, Nat.reduceSub, List.replicate_succ, List.replicate_zero, List.cons_append, List.nil_append])
  (refine wp_cons ?_; generalize hQQ : seqF _ _ = QQ; simp -implicitDefEqProofs [exS, ev, evL, evI, evO, asgT, asgTs, seqOf_tup, seqOf_fl, getVar, permArgs, wipeE, evAnd, wp_bind, wp_ok, ok_bind, wp_evB, tr_bl, Pk06.s51_0]; subst hQQ)
  refine held2 F.h1 F.h20 F.h21 F.h23 hs h0 hi hj hj2 ?_
  simp only [encW, cb_len_tup, wp_ok, seqF, List.length_map]
  exact gc_same0 rfl q
theorem line_x1 (F : FHeld P) (h50 : P.fn 50 = some Pk06.d50) {l : List PV} {i j : Int} (hb : (decide (0 ≤ i) && decide (i < l.length)) = false) : callN P (k + 5) 50 [mkS b l, .int i, .int j] S = .ex (.exc 1 [.int i]) S := by
  have e := held_x1 (k := k) (S := S) (b := b) (j := j) F.h1 F.h20 F.h21 F.h23 hb
  refine call_x h50 rfl rfl ?_
  generalize callN P (k + 4) = C at e ⊢
  simp [Pk06.d50, Pk06.s50_0, exL, exS, ev, evL, getVar, permArgs, e, R.bind]
theorem line_x2 (F : FHeld P) (h50 : P.fn 50 = some Pk06.d50) {l : List PV} {i j : Int} (h0 : 0 ≤ i) (hi : i < l.length) (hb : (decide (0 ≤ j) && decide (j < l.length)) = false) : callN P (k + 5) 50 [mkS b l, .int i, .int j] S = .ex (.exc 1 [.int j]) S := by
  have e := held_x2 (k := k) (S := S) (b := b) F.h1 F.h20 F.h21 F.h23 h0 hi hb
  refine call_x h50 rfl rfl ?_
  generalize callN P (k + 4) = C at e ⊢
  simp [Pk06.d50, Pk06.s50_0, exL, exS, ev, evL, getVar, permArgs, e, R.bind]
theorem cut_x1 (F : FHeld P) (h51 : P.fn 51 = some Pk06.d51) {l : List PV} {i j : Int} (hb : (decide (0 ≤ i) && decide (i < l.length)) = false) : callN P (k + 5) 51 [mkS b l, .int i, .int j] S = .ex (.exc 1 [.int i]) S := by
  have e := held_x1 (k := k) (S := S) (b := b) (j := j) F.h1 F.h20 F.h21 F.h23 hb
  refine call_x h51 rfl rfl ?_
  generalize callN P (k + 4) = C at e ⊢
  simp [Pk06.d51, Pk06.s51_0, exL, exS, ev, evL, getVar, permArgs, e, R.bind]
theorem cut_x2 (F : FHeld P) (h51 : P.fn 51 = some Pk06.d51) {l : List PV} {i j : Int} (h0 : 0 ≤ i) (hi : i < l.length) (hb : (decide (0 ≤ j) && decide (j < l.length)) = false) : callN P (k + 5) 51 [mkS b l, .int i, .int j] S = .ex (.exc 1 [.int j]) S := by
  have e := held_x2 (k := k) (S := S) (b := b) F.h1 F.h20 F.h21 F.h23 h0 hi hb
  refine call_x h51 rfl rfl ?_
  generalize callN P (k + 4) = C at e ⊢
  simp [Pk06.d51, Pk06.s51_0, exL, exS, ev, evL, getVar, permArgs, e, R.bind]
end
end LC

namespace LC
open G
/-- a call that raises without a field -/
theorem call_x0 {P : Prog} {n f c : Nat} {d : Def} {args : List PV} {S : Store} (hf : P.fn f = some d) (hl : args.length = d.np) (hg : d.gc = 1)
    (h : exL P (callN P n) d.body (args.map some ++ List.replicate (d.ns - d.np) none) S = .ex (.exc c []) S) : callN P (n + 1) f args S = .ex (.exc c []) S := by
  have e1 : frzOld S S.length S S = some S := by
    have := frzOld_same (S1 := S) (n := S.length) (S := S) (E := [])
    rwa [List.append_nil] at this
  have e2 : ([] : List PV).mapM (frz S S.length depthL) = some [] := rfl
  simp only [callN, hf, hl, if_true, runDef, h, hg, gcE, e1, e2]
section
variable {P : Prog} {k : Nat} {S : Store} {b : Bool}
theorem same58_2 (h58 : P.fn 58 = some Pk07.d58) {l m : List PV} (hl : l.length = m.length) {Q : PV → Store → Prop} (q : Q .non S) : wp (callN P (k + 1) 58 [mkS b l, mkS b m] S) Q := by
  unfold Pk07.d58 at h58
  (refine wp_call h58 rfl ?_; simp only [List.map_cons, List.map_nil, Nat.reduceSub, List.replicate_succ, List.replicate_zero, List.cons_append, List.nil_append])
  generalize hz : (l.length : Int) = z
  have c1 : ∀ S : Store, callB .len false [mkS b l] S = .ok (.int z) S := fun S => by rw [← hz]; exact len_mk
  have c2 : ∀ S : Store, callB .len false [mkS b m] S = .ok (.int z) S := fun S => by rw [← hz, hl]; exact len_mk
  (refine wp_cons ?_; generalize hQQ : seqF _ _ = QQ; simp -implicitDefEqProofs [exS, ev, evL, evI, evO, asgT, asgTs, seqOf_tup, seqOf_fl, getVar, permArgs, wipeE, evAnd, wp_bind, wp_ok, ok_bind, wp_evB, tr_bl, Pk07.s58_0, c1, c2, cmp_neI]; subst hQQ)
  refine wp_nil ?_
  simp only [seqF]
  refine wp_nil ?_
  exact gc_same0 rfl q
theorem same58_x (h58 : P.fn 58 = some Pk07.d58) {l m : List PV} (hl : l.length ≠ m.length) : callN P (k + 1) 58 [mkS b l, mkS b m] S = .ex (.exc 7 []) S := by
  refine call_x0 h58 rfl rfl ?_
  have c1 : ∀ S : Store, callB .len false [mkS b l] S = .ok (.int l.length) S := fun S => len_mk
  have c2 : ∀ S : Store, callB .len false [mkS b m] S = .ok (.int m.length) S := fun S => len_mk
  have ne : ((l.length : Int) != (m.length : Int)) = true := by simp; omega
  generalize callN P k = C
  simp [Pk07.d58, Pk07.s58_0, Pk07.s58_0_0, exL, exS, ev, evL, getVar, c1, c2, cmp_neI, ne, R.bind, evB, lift, truthy]
theorem unlike_x (h58 : P.fn 58 = some Pk07.d58) (h59 : P.fn 59 = some Pk07.d59) {l m : List PV} (hl : l.length ≠ m.length) : callN P (k + 2) 59 [mkS b l, mkS b m] S = .ex (.exc 7 []) S := by
  have e := same58_x (k := k) (S := S) (b := b) h58 hl
  refine call_x0 h59 rfl rfl ?_
  generalize callN P (k + 1) = C at e ⊢
  simp [Pk07.d59, Pk07.s59_0, exL, exS, ev, evL, getVar, permArgs, e, R.bind]
theorem refused7 (h58 : P.fn 58 = some Pk07.d58) (h59 : P.fn 59 = some Pk07.d59) (h65 : P.fn 65 = some Pk07.d65) (hb : P.base 7 = 1) {r s : Room} (hl : r.length ≠ s.length) {Q : PV → Store → Prop} (q : Q (.bl true) S) : wp (callN P (k + 3) 65 [encR r, encR s] S) Q := by
  have e := unlike_x (k := k) (S := S) (b := false) (l := r.map (encHb false)) (m := s.map (encHb false)) h58 h59 (by rw [List.length_map, List.length_map]; exact hl)
  unfold Pk07.d65 at h65
  (refine wp_call h65 rfl ?_; simp only [List.map_cons, List.map_nil, Nat.reduceSub, List.replicate_succ, List.replicate_zero, List.cons_append, List.nil_append])
  (refine wp_cons ?_; generalize hQQ : seqF _ _ = QQ; simp -implicitDefEqProofs [exS, ev, evL, evI, evO, asgT, asgTs, seqOf_tup, seqOf_fl, getVar, permArgs, wipeE, evAnd, wp_bind, wp_ok, ok_bind, wp_evB, tr_bl, Pk07.s65_0]; subst hQQ)
  refine wp_cons ?_
  rw [Pk07.s65_1]
  have hx : exL P (callN P (k + 2)) [Pk07.s65_1_0] [some (encR r), some (encR s), some .non, none] S = .ex (.exc 7 []) S := by
    generalize callN P (k + 2) = C at e ⊢
    rw [show mkS false (r.map (encHb false)) = encR r from rfl, show mkS false (s.map (encHb false)) = encR s from rfl] at e
    simp [Pk07.s65_1_0, exL, exS, ev, evL, getVar, permArgs, e, R.bind]
  refine wp_try_x hx (by rw [hb]; decide) (by simp) ?_
  (refine wp_cons ?_; generalize hQQ : seqF _ _ = QQ; simp -implicitDefEqProofs [exS, ev, evL, evI, evO, asgT, asgTs, seqOf_tup, seqOf_fl, getVar, permArgs, wipeE, evAnd, wp_bind, wp_ok, ok_bind, wp_evB, tr_bl, Pk07.s65_1_1]; subst hQQ)
  refine wp_nil ?_
  simp only [seqF, List.set_cons_succ, List.set_cons_zero]
  have i1 : ∀ S : Store, isiV P [.own 7] (.exc 7 []) S = .ok (.bl true) S := fun S => by rw [isi_exc (by simp [isOwnT, hb])]; simp [hasTy]
  have i2 : ∀ S : Store, isiV P [.base 1] (.exc 7 []) S = .ok (.bl true) S := fun S => by rw [isi_exc (by simp [isOwnT, hb])]; simp [hasTy, hb]
  have i3 : ∀ S : Store, isiV P [.own 8, .own 1] (.exc 7 []) S = .ok (.bl false) S := fun S => by rw [isi_exc (by simp [isOwnT, hb])]; simp [hasTy]
  (refine wp_cons ?_; generalize hQQ : seqF _ _ = QQ; simp -implicitDefEqProofs [exS, ev, evL, evI, evO, asgT, asgTs, seqOf_tup, seqOf_fl, getVar, permArgs, wipeE, evAnd, wp_bind, wp_ok, ok_bind, wp_evB, tr_bl, Pk07.s65_2, i1, i2, i3]; subst hQQ)
  simp only [seqF]
  exact gc_same0 rfl q
theorem unlike2 (F : FHeld P) (h50 : P.fn 50 = some Pk06.d50) (h52 : P.fn 52 = some Pk06.d52) (h57 : P.fn 57 = some Pk07.d57) (h58 : P.fn 58 = some Pk07.d58) (h59 : P.fn 59 = some Pk07.d59) (pr : ∀ {k : Nat} {S : Store} {l : List PV}, l.length < 1000 → ∀ {Q : PV → Store → Prop}, Q (.fl ((prs l.length).map encIJ)) S → wp (callN P (k + 1) 52 [mkS b l] S) Q)
    {r s : Room} (hs : size r < 10000) (hs2 : size s < 10000) (hlen : r.length < 1000) (hrs : r.length = s.length) {Q : PV → Store → Prop} (q : Q (encU (unl r s (prs r.length))) S) : wp (callN P (k + 6) 59 [encRb b r, encRb b s] S) Q := by
  unfold Pk07.d59 at h59
  (refine wp_call h59 rfl ?_; simp only [List.map_cons, List.map_nil, Nat.reduceSub, List.replicate_succ, List.replicate_zero, List.cons_append, List.nil_append])
  (refine wp_cons ?_; generalize hQQ : seqF _ _ = QQ; simp -implicitDefEqProofs [exS, ev, evL, evI, evO, asgT, asgTs, seqOf_tup, seqOf_fl, getVar, permArgs, wipeE, evAnd, wp_bind, wp_ok, ok_bind, wp_evB, tr_bl, Pk07.s59_0]; subst hQQ)
  rw [encRb, encRb]
  refine same58_2 h58 (by rw [List.length_map, List.length_map]; exact hrs) ?_
  rw [← encRb, ← encRb]
  simp only [seqF]
  (refine wp_cons ?_; generalize hQQ : seqF _ _ = QQ; simp -implicitDefEqProofs [exS, ev, evL, evI, evO, asgT, asgTs, seqOf_tup, seqOf_fl, getVar, permArgs, wipeE, evAnd, wp_bind, wp_ok, ok_bind, wp_evB, tr_bl, Pk07.s59_1]; subst hQQ)
  rw [encRb]
  refine pr (by rw [List.length_map]; exact hlen) ?_
  rw [List.length_map, ← encRb]
  simp only [itemsOf, wp_ok]
  refine wp_forM (fun done env S' => S' = S ∧ ∃ dl x2 x3 x4, done = dl.map encIJ ∧ unl r s dl = none ∧ env = [some (encRb b r), some (encRb b s), x2, x3, x4]) ⟨rfl, [], none, none, none, rfl, rfl, rfl⟩ ?_ ?_
  · rintro done x rest env S' hx ⟨rfl, dl, x2, x3, x4, rfl, hu, rfl⟩
    refine ⟨rfl, ?_⟩
    obtain ⟨l1, l2, e1, e2, e3⟩ := List.map_eq_append_iff.mp hx
    obtain ⟨p, l3, e4, rfl, e5⟩ := List.map_eq_cons_iff.mp e3
    have hpm : p ∈ prs r.length := by rw [e1, e4]; simp
    have hm := mem_prs.mp hpm
    have el : l1 = dl := map_inj (fun a b h => by simp [encIJ] at h; exact Prod.ext h.1 h.2) e2
    subst el
    obtain ⟨i, j⟩ := p
    simp at hm
    ((try generalize hQQ : endsF _ _ = QQ); simp -implicitDefEqProofs [exS, ev, evL, evI, evO, asgT, asgTs, seqOf_tup, seqOf_fl, getVar, permArgs, wipeE, evAnd, wp_bind, wp_ok, ok_bind, wp_evB, tr_bl, encIJ]; (try subst hQQ))
    (refine wp_cons ?_; generalize hQQ : seqF _ _ = QQ; simp -implicitDefEqProofs [exS, ev, evL, evI, evO, asgT, asgTs, seqOf_tup, seqOf_fl, getVar, permArgs, wipeE, evAnd, wp_bind, wp_ok, ok_bind, wp_evB, tr_bl, Pk07.s59_1_0]; subst hQQ)
    refine line2 F h50 hs (by omega) (by omega) (by omega) (by omega) ?_
    refine line2 F h50 hs2 (by omega) (by omega) (by omega) (by omega) ?_
    refine apart_ok h57 ?_
    simp only [seqF]
    cases e : apart (line r i.toNat j.toNat) (line s i.toNat j.toNat) with
    | none =>
      (refine wp_cons ?_; generalize hQQ : seqF _ _ = QQ; simp -implicitDefEqProofs [exS, ev, evL, evI, evO, asgT, asgTs, seqOf_tup, seqOf_fl, getVar, permArgs, wipeE, evAnd, wp_bind, wp_ok, ok_bind, wp_evB, tr_bl, Pk07.s59_1_1, encO, cmp_isn_non]; subst hQQ)
      refine wp_nil ?_
      simp only [seqF]
      refine wp_nil ?_
      refine ⟨rfl, l1 ++ [(i, j)], some (.int i), some (.int j), some .non, by simp [encIJ], ?_, rfl⟩
      rw [unl_app hu]
      simp [unl, e]
    | some n =>
      simp only [encO]
      generalize hz : (n : Int) = z
      (refine wp_cons ?_; generalize hQQ : seqF _ _ = QQ; simp -implicitDefEqProofs [exS, ev, evL, evI, evO, asgT, asgTs, seqOf_tup, seqOf_fl, getVar, permArgs, wipeE, evAnd, wp_bind, wp_ok, ok_bind, wp_evB, tr_bl, Pk07.s59_1_1, cmp_isn_non]; subst hQQ)
      (refine wp_cons ?_; generalize hQQ : seqF _ _ = QQ; simp -implicitDefEqProofs [exS, ev, evL, evI, evO, asgT, asgTs, seqOf_tup, seqOf_fl, getVar, permArgs, wipeE, evAnd, wp_bind, wp_ok, ok_bind, wp_evB, tr_bl, Pk07.s59_1_1_0]; subst hQQ)
      rw [newTup_ok (by simp [sizeL])]
      simp only [wp_ok, seqF, endsF]
      have e6 : unl r s (prs r.length) = some (i, j, n) := by
        rw [e1, e4, unl_app hu]
        simp [unl, e]
      rw [e6] at q
      subst hz
      exact gc_same0 rfl q
  · rintro env S' ⟨rfl, dl, x2, x3, x4, e, hu, rfl⟩
    refine ⟨rfl, ?_⟩
    have el : dl = prs r.length := (map_inj (fun a b h => by simp [encIJ] at h; exact Prod.ext h.1 h.2) e).symm
    subst el
    simp only [seqF]
    (refine wp_cons ?_; generalize hQQ : seqF _ _ = QQ; simp -implicitDefEqProofs [exS, ev, evL, evI, evO, asgT, asgTs, seqOf_tup, seqOf_fl, getVar, permArgs, wipeE, evAnd, wp_bind, wp_ok, ok_bind, wp_evB, tr_bl, Pk07.s59_2]; subst hQQ)
    simp only [seqF]
    rw [hu] at q
    exact gc_same0 rfl q
end
end LC

namespace LC
open G
theorem same60_ok {P : Prog} (h60 : P.fn 60 = some Pk07.d60) : ∀ (d : Nat) {k : Nat} {S : Store} {v : PV}, d ≤ 20 → fine d v = true → ∀ {Q : PV → Store → Prop}, Q (.bl true) S → wp (callN P (k + d)  60 [v, v] S) Q
  | 0, k, S, v, _, hf, Q, q => by cases hf
  | d + 1, k, S, v, hd, hf, Q, q => by
    have hp := plain_up (fine_plain hf) (j := depthL) (by unfold depthL; omega)
    have hc := fine_clean hf
    have ceq : ∀ S : Store, cmpV .eq v v S = .ok true S := fun S => by rw [cmp_eqP hp hp hc hc]; simp
    have ih := fun (x : PV) (S : Store) (hx : fine d x = true) => same60_ok h60 d (k := k) (S := S) (v := x) (by omega) hx (Q := fun v S' => v = .bl true ∧ S' = S) ⟨rfl, rfl⟩
    have h60' := h60
    unfold Pk07.d60 at h60'
    rw [show k + (d + 1) = (k + d) + 1 from rfl]
    (refine wp_call h60' rfl ?_; simp only [List.map_cons, List.map_nil, Nat.reduceSub, List.replicate_succ, List.replicate_zero, List.cons_append, List.nil_append])
    cases v with
    | tup l =>
      simp only [fine, Bool.and_eq_true, List.all_eq_true, decide_eq_true_eq] at hf
      (refine wp_cons ?_; generalize hQQ : seqF _ _ = QQ; simp -implicitDefEqProofs [exS, ev, evL, evI, evO, asgT, asgTs, seqOf_tup, seqOf_fl, getVar, permArgs, wipeE, evAnd, wp_bind, wp_ok, ok_bind, wp_evB, tr_bl, Pk07.s60_0, isi_tup, hasTy]; subst hQQ)
      (refine wp_cons ?_; generalize hQQ : seqF _ _ = QQ; simp -implicitDefEqProofs [exS, ev, evL, evI, evO, asgT, asgTs, seqOf_tup, seqOf_fl, getVar, permArgs, wipeE, evAnd, wp_bind, wp_ok, ok_bind, wp_evB, tr_bl, Pk07.s60_0_0, isi_tup, hasTy, cmp_neB]; subst hQQ)
      refine wp_nil ?_
      simp only [seqF]
      (refine wp_cons ?_; generalize hQQ : seqF _ _ = QQ; simp -implicitDefEqProofs [exS, ev, evL, evI, evO, asgT, asgTs, seqOf_tup, seqOf_fl, getVar, permArgs, wipeE, evAnd, wp_bind, wp_ok, ok_bind, wp_evB, tr_bl, Pk07.s60_0_1, cb_len_tup, cmp_neI]; subst hQQ)
      refine wp_nil ?_
      simp only [seqF]
      (refine wp_cons ?_; generalize hQQ : seqF _ _ = QQ; simp -implicitDefEqProofs [exS, ev, evL, evI, evO, asgT, asgTs, seqOf_tup, seqOf_fl, getVar, permArgs, wipeE, evAnd, wp_bind, wp_ok, ok_bind, wp_evB, tr_bl, Pk07.s60_0_2, zip2V, zip_self]; subst hQQ)
      refine wp_comp_tt (fun T => T = S) rfl (fun _ _ => rfl) (fun x hx T hT => ?_) fun r T hl hr hT => ?_
      · subst hT
        obtain ⟨y, hy, rfl⟩ := List.mem_map.mp hx
        refine wp_noEx ?_
        ((try generalize hQQ : endsF _ _ = QQ); simp -implicitDefEqProofs [exS, ev, evL, evI, evO, asgT, asgTs, seqOf_tup, seqOf_fl, getVar, permArgs, wipeE, evAnd, wp_bind, wp_ok, ok_bind, wp_evB, tr_bl]; (try subst hQQ))
        refine wp_mono (ih y T (hf.2 y hy)) fun a T2 h => ?_
        obtain ⟨rfl, rfl⟩ := h
        first | exact ⟨rfl, rfl⟩ | exact wp_val ⟨rfl, rfl⟩
      · subst hT
        refine wp_fl (by rw [hl, List.length_map]; unfold sizeL; omega) ?_
        rw [all_tt hr]
        simp only [wp_ok, seqF]
        exact gc_same0 rfl q
    | fl l =>
      simp only [fine, Bool.and_eq_true, List.all_eq_true, decide_eq_true_eq] at hf
      (refine wp_cons ?_; generalize hQQ : seqF _ _ = QQ; simp -implicitDefEqProofs [exS, ev, evL, evI, evO, asgT, asgTs, seqOf_tup, seqOf_fl, getVar, permArgs, wipeE, evAnd, wp_bind, wp_ok, ok_bind, wp_evB, tr_bl, Pk07.s60_0, isi_fl, hasTy]; subst hQQ)
      (refine wp_cons ?_; generalize hQQ : seqF _ _ = QQ; simp -implicitDefEqProofs [exS, ev, evL, evI, evO, asgT, asgTs, seqOf_tup, seqOf_fl, getVar, permArgs, wipeE, evAnd, wp_bind, wp_ok, ok_bind, wp_evB, tr_bl, Pk07.s60_0_0, isi_fl, hasTy, cmp_neB]; subst hQQ)
      refine wp_nil ?_
      simp only [seqF]
      (refine wp_cons ?_; generalize hQQ : seqF _ _ = QQ; simp -implicitDefEqProofs [exS, ev, evL, evI, evO, asgT, asgTs, seqOf_tup, seqOf_fl, getVar, permArgs, wipeE, evAnd, wp_bind, wp_ok, ok_bind, wp_evB, tr_bl, Pk07.s60_0_1, cb_len_fl, cmp_neI]; subst hQQ)
      refine wp_nil ?_
      simp only [seqF]
      (refine wp_cons ?_; generalize hQQ : seqF _ _ = QQ; simp -implicitDefEqProofs [exS, ev, evL, evI, evO, asgT, asgTs, seqOf_tup, seqOf_fl, getVar, permArgs, wipeE, evAnd, wp_bind, wp_ok, ok_bind, wp_evB, tr_bl, Pk07.s60_0_2, zip2V, zip_self, lstOf, wOf]; subst hQQ)
      refine wp_comp_tt (fun T => T = S) rfl (fun _ _ => rfl) (fun x hx T hT => ?_) fun r T hl hr hT => ?_
      · subst hT
        obtain ⟨y, hy, rfl⟩ := List.mem_map.mp hx
        refine wp_noEx ?_
        ((try generalize hQQ : endsF _ _ = QQ); simp -implicitDefEqProofs [exS, ev, evL, evI, evO, asgT, asgTs, seqOf_tup, seqOf_fl, getVar, permArgs, wipeE, evAnd, wp_bind, wp_ok, ok_bind, wp_evB, tr_bl]; (try subst hQQ))
        refine wp_mono (ih y T (hf.2 y hy)) fun a T2 h => ?_
        obtain ⟨rfl, rfl⟩ := h
        first | exact ⟨rfl, rfl⟩ | exact wp_val ⟨rfl, rfl⟩
      · subst hT
        refine wp_fl (by rw [hl, List.length_map]; unfold sizeL; omega) ?_
        rw [all_tt hr]
        simp only [wp_ok, seqF]
        exact gc_same0 rfl q
    | non =>
      (refine wp_cons ?_; generalize hQQ : seqF _ _ = QQ; simp -implicitDefEqProofs [exS, ev, evL, evI, evO, asgT, asgTs, seqOf_tup, seqOf_fl, getVar, permArgs, wipeE, evAnd, wp_bind, wp_ok, ok_bind, wp_evB, tr_bl, Pk07.s60_0, isi_non, hasTy]; subst hQQ)
      refine wp_nil ?_
      simp only [seqF]
      (refine wp_cons ?_; generalize hQQ : seqF _ _ = QQ; simp -implicitDefEqProofs [exS, ev, evL, evI, evO, asgT, asgTs, seqOf_tup, seqOf_fl, getVar, permArgs, wipeE, evAnd, wp_bind, wp_ok, ok_bind, wp_evB, tr_bl, Pk07.s60_1, cmp_is_non]; subst hQQ)
      (refine wp_cons ?_; generalize hQQ : seqF _ _ = QQ; simp -implicitDefEqProofs [exS, ev, evL, evI, evO, asgT, asgTs, seqOf_tup, seqOf_fl, getVar, permArgs, wipeE, evAnd, wp_bind, wp_ok, ok_bind, wp_evB, tr_bl, Pk07.s60_1_0, cmp_is_non]; subst hQQ)
      simp only [seqF]
      exact gc_same0 rfl q
    | int i =>
      (refine wp_cons ?_; generalize hQQ : seqF _ _ = QQ; simp -implicitDefEqProofs [exS, ev, evL, evI, evO, asgT, asgTs, seqOf_tup, seqOf_fl, getVar, permArgs, wipeE, evAnd, wp_bind, wp_ok, ok_bind, wp_evB, tr_bl, Pk07.s60_0, isi_int, hasTy]; subst hQQ)
      refine wp_nil ?_
      simp only [seqF]
      (refine wp_cons ?_; generalize hQQ : seqF _ _ = QQ; simp -implicitDefEqProofs [exS, ev, evL, evI, evO, asgT, asgTs, seqOf_tup, seqOf_fl, getVar, permArgs, wipeE, evAnd, wp_bind, wp_ok, ok_bind, wp_evB, tr_bl, Pk07.s60_1, cmp_is_non]; subst hQQ)
      refine wp_nil ?_
      simp only [seqF]
      (refine wp_cons ?_; generalize hQQ : seqF _ _ = QQ; simp -implicitDefEqProofs [exS, ev, evL, evI, evO, asgT, asgTs, seqOf_tup, seqOf_fl, getVar, permArgs, wipeE, evAnd, wp_bind, wp_ok, ok_bind, wp_evB, tr_bl, Pk07.s60_2, isi_int, hasTy]; subst hQQ)
      refine wp_nil ?_
      simp only [seqF]
      (refine wp_cons ?_; generalize hQQ : seqF _ _ = QQ; simp -implicitDefEqProofs [exS, ev, evL, evI, evO, asgT, asgTs, seqOf_tup, seqOf_fl, getVar, permArgs, wipeE, evAnd, wp_bind, wp_ok, ok_bind, wp_evB, tr_bl, Pk07.s60_3, isi_int, hasTy]; subst hQQ)
      refine wp_nil ?_
      simp only [seqF]
      (refine wp_cons ?_; generalize hQQ : seqF _ _ = QQ; simp -implicitDefEqProofs [exS, ev, evL, evI, evO, asgT, asgTs, seqOf_tup, seqOf_fl, getVar, permArgs, wipeE, evAnd, wp_bind, wp_ok, ok_bind, wp_evB, tr_bl, Pk07.s60_4, isi_int, hasTy, cmp_eq]; subst hQQ)
      simp only [seqF]
      exact gc_same0 rfl q
    | str s =>
      (refine wp_cons ?_; generalize hQQ : seqF _ _ = QQ; simp -implicitDefEqProofs [exS, ev, evL, evI, evO, asgT, asgTs, seqOf_tup, seqOf_fl, getVar, permArgs, wipeE, evAnd, wp_bind, wp_ok, ok_bind, wp_evB, tr_bl, Pk07.s60_0, isi_str, hasTy]; subst hQQ)
      refine wp_nil ?_
      simp only [seqF]
      (refine wp_cons ?_; generalize hQQ : seqF _ _ = QQ; simp -implicitDefEqProofs [exS, ev, evL, evI, evO, asgT, asgTs, seqOf_tup, seqOf_fl, getVar, permArgs, wipeE, evAnd, wp_bind, wp_ok, ok_bind, wp_evB, tr_bl, Pk07.s60_1, cmp_is_non]; subst hQQ)
      refine wp_nil ?_
      simp only [seqF]
      (refine wp_cons ?_; generalize hQQ : seqF _ _ = QQ; simp -implicitDefEqProofs [exS, ev, evL, evI, evO, asgT, asgTs, seqOf_tup, seqOf_fl, getVar, permArgs, wipeE, evAnd, wp_bind, wp_ok, ok_bind, wp_evB, tr_bl, Pk07.s60_2, isi_str, hasTy]; subst hQQ)
      (refine wp_cons ?_; generalize hQQ : seqF _ _ = QQ; simp -implicitDefEqProofs [exS, ev, evL, evI, evO, asgT, asgTs, seqOf_tup, seqOf_fl, getVar, permArgs, wipeE, evAnd, wp_bind, wp_ok, ok_bind, wp_evB, tr_bl, Pk07.s60_2_0, isi_str, hasTy, ceq]; subst hQQ)
      simp only [seqF]
      exact gc_same0 rfl q
    | _ => cases hf

theorem take_all {α : Type} {l : List α} {i : Nat} (h : l.length ≤ i) : l.take i = l := List.take_of_length_le h
theorem apart_symm : ∀ {a b : List (List Nat)}, apart a b = apart b a
  | [], [] => rfl
  | [], _ :: _ => rfl
  | _ :: _, [] => rfl
  | a :: l, b :: m => by
    simp only [apart]
    by_cases h : a = b
    · subst h; simp [apart_symm (a := l) (b := m)]
    · rw [if_neg h, if_neg (Ne.symm h)]
theorem apart_at : ∀ {a b : List (List Nat)} {n : Nat}, a[n]? ≠ b[n]? → a.take n = b.take n → apart a b = some n
  | [], [], n, h, _ => absurd (by simp) h
  | [], b :: m, 0, h, _ => rfl
  | [], b :: m, n + 1, h, e => by simp at e
  | a :: l, [], 0, h, _ => rfl
  | a :: l, [], n + 1, h, e => by simp at e
  | a :: l, b :: m, 0, h, e => by
    have : a ≠ b := fun z => h (by simp [z])
    simp [apart, this]
  | a :: l, b :: m, n + 1, h, e => by
    simp only [List.take_succ_cons, List.cons.injEq] at e
    obtain ⟨rfl, e⟩ := e
    simp only [apart, if_true]
    rw [apart_at (a := l) (b := m) (n := n) (by simpa using h) e]
    rfl
theorem unl_symm {r s : Room} : ∀ {l : List (Int × Int)}, unl r s l = unl s r l
  | [] => rfl
  | p :: l => by
    simp only [unl]
    rw [apart_symm, unl_symm (l := l)]
theorem unl_self {r : Room} : ∀ {l : List (Int × Int)}, unl r r l = none
  | [] => rfl
  | p :: l => by
    simp only [unl]
    rw [apart_none.mpr rfl]
    exact unl_self
theorem cut_one {l : List PV} {p : Nat} : cutL l (some (p : Int)) (some ((p : Int) + 1)) = (l[p]?).toList := by
  unfold cutL sIx
  simp only
  rw [if_neg (by omega), if_neg (by omega)]
  by_cases h : p < l.length
  · have e1 : min (p : Int).toNat l.length = p := by omega
    have e2 : min ((p : Int) + 1).toNat l.length = p + 1 := by omega
    rw [e1, e2, Nat.add_sub_cancel_left, List.getElem?_eq_getElem h]
    rw [List.drop_eq_getElem_cons h]
    rfl
  · have e1 : min (p : Int).toNat l.length = l.length := by omega
    have e2 : min ((p : Int) + 1).toNat l.length = l.length := by omega
    rw [e1, e2, List.getElem?_eq_none (by omega)]
    simp
theorem lapart_in {P : Prog} {C : Nat → List PV → Store → R PV} {S : Store} {r s : PV} {i j : Int} {a b : List (List Nat)} {x6 : Option PV} (ha : a.length < 100000) (hb : b.length < 100000) {Q : Fl → Store → Prop}
    (q1 : apart a b = none → ∀ x6, Q (.nx [some r, some s, some (.int i), some (.int j), some (encW a), some (encW b), x6]) S) (q2 : ∀ n, apart a b = some n → Q (.rt (encU (some (i, j, n)))) S) :
    wp (exS P C Pk07.s64_0_1 [some r, some s, some (.int i), some (.int j), some (encW a), some (encW b), x6] S) Q := by
  have c1 : ∀ (l : List (List Nat)) (S : Store), callB .len false [encW l] S = .ok (.int l.length) S := fun l S => by simp [encW, cb_len_tup]
  rw [Pk07.s64_0_1]
  simp only [exS, evI, evL, ev, getVar, wp_bind, List.getElem?_cons_succ, List.getElem?_cons_zero, wp_ok, ok_bind, c1]
  have mx : ∀ S : Store, callB .max2 false [.int (a.length : Int), .int (b.length : Int)] S = .ok (.int ((max a.length b.length : Nat) : Int)) S := fun S => by
    show R.ok (PV.int (if (b.length : Int) > a.length then (b.length : Int) else a.length)) S = _
    congr 2
    split <;> omega
  rw [mx]
  simp only [wp_ok]
  refine wp_rng1 (by omega) ?_
  refine wp_for (fun n env S' => S' = S ∧ a.take n = b.take n ∧ ∃ x6, env = [some r, some s, some (.int i), some (.int j), some (encW a), some (encW b), x6]) ⟨rfl, by simp, x6, rfl⟩ ?_ ?_
  · rintro n x env S' hx ⟨rfl, ht, x6, rfl⟩
    obtain ⟨hlt, rfl⟩ := range_at hx
    refine ⟨rfl, ?_⟩
    have e0 : (0 : Int) + (n : Int) = (n : Int) := by omega
    rw [e0]
    have sl1 : ∀ (l : List (List Nat)) (S : Store), slice false (encW l) (some (n : Int)) (some ((n : Int) + 1)) S = .ok (encW (l[n]?).toList) S := fun l S => by
      simp only [encW, slice]
      rw [cut_one, List.getElem?_map]
      cases l[n]? <;> rfl
    have hne : ∀ S : Store, cmpV .ne (encW (a[n]?).toList) (encW (b[n]?).toList) S = .ok (!decide (a[n]? = b[n]?)) S := fun S => by
      rw [cmp_neP plainW plainW cleanW cleanW]
      have : (encW (a[n]?).toList = encW (b[n]?).toList) ↔ a[n]? = b[n]? := by
        constructor
        · intro h
          have := encW_inj h
          cases h1 : a[n]? <;> cases h2 : b[n]? <;> simp [h1, h2] at this ⊢
          exact this
        · intro h; rw [h]
      simp only [this]
    generalize hzn : (n : Int) = zn at sl1
    ((try generalize hQQ : endsF _ _ = QQ); simp -implicitDefEqProofs [exS, ev, evL, evI, evO, asgT, asgTs, seqOf_tup, seqOf_fl, getVar, permArgs, wipeE, evAnd, wp_bind, wp_ok, ok_bind, wp_evB, tr_bl]; (try subst hQQ))
    (refine wp_cons ?_; generalize hQQ : seqF _ _ = QQ; simp -implicitDefEqProofs [exS, ev, evL, evI, evO, asgT, asgTs, seqOf_tup, seqOf_fl, getVar, permArgs, wipeE, evAnd, wp_bind, wp_ok, ok_bind, wp_evB, tr_bl, Pk07.s64_0_1_0, sl1, hne, optI, bi_add]; subst hQQ)
    by_cases he : a[n]? = b[n]?
    · rw [if_pos he]
      refine wp_nil ?_
      simp only [seqF]
      refine wp_nil ?_
      refine ⟨rfl, ?_, some (.int zn), rfl⟩
      rw [List.take_add_one, List.take_add_one, ht, he]
    · rw [if_neg he]
      (refine wp_cons ?_; generalize hQQ : seqF _ _ = QQ; simp -implicitDefEqProofs [exS, ev, evL, evI, evO, asgT, asgTs, seqOf_tup, seqOf_fl, getVar, permArgs, wipeE, evAnd, wp_bind, wp_ok, ok_bind, wp_evB, tr_bl, Pk07.s64_0_1_0_0]; subst hQQ)
      rw [newTup_ok (by simp [sizeL])]
      simp only [wp_ok, seqF, endsF]
      have := q2 n (apart_at he ht)
      rw [← hzn]
      exact this
  · rintro env S' ⟨rfl, ht, x6, rfl⟩
    refine ⟨rfl, ?_⟩
    rw [range_len] at ht
    have e : a = b := by
      rwa [take_all (by omega), take_all (by omega)] at ht
    exact q1 (apart_none.mpr e) x6
theorem lapart_ok {P : Prog} (h25 : P.fn 25 = some Pk02.d25) (h54 : P.fn 54 = some Pk06.d54) (h61 : P.fn 61 = some Pk07.d61) (h64 : P.fn 64 = some Pk07.d64) {k : Nat} {S : Store} {r s : Room} (hs : size r < 10000) (hs2 : size s < 10000) (hlen : r.length < 1000) (hrs : r.length = s.length) {Q : PV → Store → Prop} (q : Q (encU (unl r s (prs r.length))) S) : wp (callN P (k + 4) 64 [encR r, encR s] S) Q := by
  unfold Pk07.d64 at h64
  (refine wp_call h64 rfl ?_; simp only [List.map_cons, List.map_nil, Nat.reduceSub, List.replicate_succ, List.replicate_zero, List.cons_append, List.nil_append])
  (refine wp_cons ?_; generalize hQQ : seqF _ _ = QQ; simp -implicitDefEqProofs [exS, ev, evL, evI, evO, asgT, asgTs, seqOf_tup, seqOf_fl, getVar, permArgs, wipeE, evAnd, wp_bind, wp_ok, ok_bind, wp_evB, tr_bl, Pk07.s64_0]; subst hQQ)
  rw [show encR r = PV.tup (r.map encH) from rfl]
  refine lpairs_ok h61 (by rw [List.length_map]; exact hlen) ?_
  rw [List.length_map, ← show encR r = PV.tup (r.map encH) from rfl]
  simp only [itemsOf, wp_ok]
  refine wp_forM (fun done env S' => S' = S ∧ ∃ dl x2 x3 x4 x5 x6, done = dl.map encIJ ∧ unl r s dl = none ∧ env = [some (encR r), some (encR s), x2, x3, x4, x5, x6]) ⟨rfl, [], none, none, none, none, none, rfl, rfl, rfl⟩ ?_ ?_
  · rintro done x rest env S' hx ⟨rfl, dl, x2, x3, x4, x5, x6, rfl, hu, rfl⟩
    refine ⟨rfl, ?_⟩
    obtain ⟨l1, l2, e1, e2, e3⟩ := List.map_eq_append_iff.mp hx
    obtain ⟨p, l3, e4, rfl, e5⟩ := List.map_eq_cons_iff.mp e3
    have hpm : p ∈ prs r.length := by rw [e1, e4]; simp
    have hm := mem_prs.mp hpm
    have el : l1 = dl := map_inj (fun a b h => by simp [encIJ] at h; exact Prod.ext h.1 h.2) e2
    subst el
    obtain ⟨i, j⟩ := p
    simp at hm
    ((try generalize hQQ : endsF _ _ = QQ); simp -implicitDefEqProofs [exS, ev, evL, evI, evO, asgT, asgTs, seqOf_tup, seqOf_fl, getVar, permArgs, wipeE, evAnd, wp_bind, wp_ok, ok_bind, wp_evB, tr_bl, encIJ]; (try subst hQQ))
    (refine wp_cons ?_; generalize hQQ : seqF _ _ = QQ; simp -implicitDefEqProofs [exS, ev, evL, evI, evO, asgT, asgTs, seqOf_tup, seqOf_fl, getVar, permArgs, wipeE, evAnd, wp_bind, wp_ok, ok_bind, wp_evB, tr_bl, Pk07.s64_0_0]; subst hQQ)
    refine lline_ok h25 h54 hs (by omega) (by omega) (by omega) (by omega) ?_
    refine lline_ok h25 h54 hs2 (by omega) (by omega) (by omega) (by omega) ?_
    rw [newTup_ok (by simp [sizeL])]
    ((try generalize hQQ : endsF _ _ = QQ); simp -implicitDefEqProofs [exS, ev, evL, evI, evO, asgT, asgTs, seqOf_tup, seqOf_fl, getVar, permArgs, wipeE, evAnd, wp_bind, wp_ok, ok_bind, wp_evB, tr_bl]; (try subst hQQ))
    simp only [seqF]
    have ll1 := line_len (r := r) (i := i.toNat) (j := j.toNat)
    have ll2 := line_len (r := s) (i := i.toNat) (j := j.toNat)
    refine wp_cons ?_
    refine lapart_in (by omega) (by omega) (fun e x6 => ?_) fun n e => ?_
    · simp only [seqF]
      refine wp_nil ?_
      refine ⟨rfl, l1 ++ [(i, j)], some (.int i), some (.int j), _, _, x6, by simp [encIJ], ?_, rfl⟩
      rw [unl_app hu]
      simp [unl, e]
    · simp only [seqF, endsF]
      have e6 : unl r s (prs r.length) = some (i, j, n) := by
        rw [e1, e4, unl_app hu]
        simp [unl, e]
      rw [e6] at q
      exact gc_same0 rfl q
  · rintro env S' ⟨rfl, dl, x2, x3, x4, x5, x6, e, hu, rfl⟩
    refine ⟨rfl, ?_⟩
    have el : dl = prs r.length := (map_inj (fun a b h => by simp [encIJ] at h; exact Prod.ext h.1 h.2) e).symm
    subst el
    simp only [seqF]
    (refine wp_cons ?_; generalize hQQ : seqF _ _ = QQ; simp -implicitDefEqProofs [exS, ev, evL, evI, evO, asgT, asgTs, seqOf_tup, seqOf_fl, getVar, permArgs, wipeE, evAnd, wp_bind, wp_ok, ok_bind, wp_evB, tr_bl, Pk07.s64_1]; subst hQQ)
    simp only [seqF]
    rw [hu] at q
    exact gc_same0 rfl q
end LC

namespace LC
open G
theorem cut_mapG {α : Type} {f : α → PV} {l : List α} {lo hi : Option Int} : cutL (l.map f) lo hi = (cutL l lo hi).map f := by
  simp [cutL, List.map_take, List.map_drop]
theorem slH {h : Heap} {lo hi : Option Int} {S : Store} : slice false (encH h) lo hi S = .ok (encH (cutL h lo hi)) S := by
  simp only [encH, slice, cut_mapG]
theorem rvH {h : Heap} {S : Store} : revOf false (encH h) S = .ok (encH h.reverse) S := by
  simp only [encH, revOf, List.map_reverse]
theorem adH {g h : Heap} {S : Store} (hl : g.length + h.length ≤ sizeL) : binop false .add (encH g) (encH h) S = .ok (encH (g ++ h)) S := by
  simp only [encH, bi_tup]
  rw [newTup_ok (by simpa using hl), List.map_append]
/-- the birds that have grudges -/
theorem full_ok {P : Prog} {C : Nat → List PV → Store → R PV} {S : Store} {e0 x2 x3 x4 x5 x6 x7 x8 x9 : Option PV} {r : Room} (hl : r.length < 1000) {Q : PV → Store → Prop}
    (q : ∀ l : List Int, (∀ b ∈ l, 0 ≤ b ∧ ∃ h, r[b.toNat]? = some h ∧ h ≠ []) → l.length < 10000 → Q (.fl (l.map .int)) S) :
    wp (ev P C (.lc false [3, 4] (.var 3) (.tup [(.nm 3), (.nm 4)]) (.enu (.var 1)) [(.cmp .ne (.var 4) (.tup []))]) [e0, some (encR r), x2, x3, x4, x5, x6, x7, x8, x9] S) Q := by
  simp only [ev, evI, getVar, wp_bind, wp_ok, ok_bind, List.getElem?_cons_succ, List.getElem?_cons_zero]
  rw [show enuV (encR r) S = .ok ⟨enumL 0 (r.map encH), []⟩ S from rfl]
  simp only [wp_ok]
  refine wp_comp (fun i acc S' => S' = S ∧ ∃ l : List Int, acc = l.map .int ∧ l.length ≤ i ∧ ∀ b ∈ l, 0 ≤ b ∧ ∃ h, r[b.toNat]? = some h ∧ h ≠ []) ⟨rfl, [], rfl, Nat.le_refl _, by simp⟩ ?_ ?_
  · rintro i x acc S' hx ⟨rfl, l, rfl, hi, hb⟩
    refine ⟨rfl, ?_⟩
    obtain ⟨p, hp, rfl⟩ := enumL_at hx
    rw [List.getElem?_map] at hp
    obtain ⟨h, hh, rfl⟩ := Option.map_eq_some_iff.mp hp
    generalize hz : ((0 + i : Nat) : Int) = z
    have z0 : 0 ≤ z := by omega
    have zi : z.toNat = i := by omega
    have n0 : ∀ S : Store, newTup [] S = .ok (.tup []) S := fun S => newTup_ok (by simp)
    have he : clean (encH h) = true := cleanH
    have ne : ∀ S : Store, cmpV .ne (encH h) (.tup []) S = .ok (!decide (h = [])) S := fun S => by
      rw [cmp_neP plainH rfl cleanH rfl]
      have : (encH h = .tup []) ↔ h = [] := by simp [encH]
      simp only [this]
    generalize hE : encH h = E at ne
    refine wp_noEx ?_
    ((try generalize hQQ : endsF _ _ = QQ); simp -implicitDefEqProofs [exS, ev, evL, evI, evO, asgT, asgTs, seqOf_tup, seqOf_fl, getVar, permArgs, wipeE, evAnd, wp_bind, wp_ok, ok_bind, wp_evB, tr_bl, n0, ne]; (try subst hQQ))
    by_cases h0 : h = []
    · simp [h0, lift, truthy, wp_ok]
      exact ⟨l, rfl, by omega, hb⟩
    · simp [h0, lift, truthy, wp_ok]
      refine ⟨l ++ [z], by simp, by simp; omega, fun b hbm => ?_⟩
      rcases List.mem_append.mp hbm with hbm | hbm
      · exact hb b hbm
      · rw [List.mem_singleton.mp hbm]
        exact ⟨z0, h, by rw [zi]; exact hh, h0⟩
  · rintro acc S' ⟨rfl, l, rfl, hi, hb⟩
    refine ⟨rfl, ?_⟩
    rw [enum_len, List.length_map] at hi
    refine wp_fl (by rw [List.length_map]; unfold sizeL; omega) ?_
    exact q l hb (by omega)
theorem set_same7 {S : Store} {n : Nat} {x : Cell} (h : S[n]? = some x) : S.set n x = S := by
  apply List.ext_getElem?
  intro i
  by_cases hi : n = i
  · subst hi
    rw [List.getElem?_set_self (List.getElem?_eq_some_iff.mp h).1, h]
  · rw [List.getElem?_set_ne hi]
theorem cutL_len {α : Type} (l : List α) (lo hi : Option Int) : (cutL l lo hi).length ≤ l.length := cut_len l lo hi
/-- heaps[bird] = X -/
theorem wp_put {P : Prog} {C : Nat → List PV → Store → R PV} {S S' : Store} {e : ME} {env : Env} {m : Nat} {bird : Int} {l : List PV} {v : PV} {Q : Fl → Store → Prop} (h6 : env[6]? = some (some (.loc m))) (h3 : env[3]? = some (some (.int bird))) (hv : wp (ev P C e env S) fun w S1 => w = v ∧ S1 = S') (hS : S'[m]? = some (.lst l)) (h0 : 0 ≤ bird) (h1 : bird < l.length)
    (q : Q (.nx env) (S'.set m (.lst (l.set bird.toNat v)))) : wp (exS P C (.asg (.sub (.var 6) (.var 3)) e) env S) Q := by
  simp only [exS, wp_bind]
  refine wp_mono hv fun w S1 h => ?_
  obtain ⟨rfl, rfl⟩ := h
  simp only [asgT, ev, getVar, h6, h3, wp_bind, wp_ok, setIx, hS, ixN_int h0 h1]
  exact q
theorem spoilt_ok {P : Prog} (h7 : P.fn 7 = some Pk07.d7) (h10 : P.fn 10 = some Pk07.d10) (h12 : P.fn 12 = some Pk07.d12) (h62 : P.fn 62 = some Pk07.d62) {k n : Nat} {S : Store} {a b c : Int} {r : Room} (hS : S[n]? = some (box a b c)) (hl : r.length < 1000) (hs : size r < 1000)
    {Q : PV → Store → Prop} (q : ∀ s a' b' c', s.length = r.length → size s ≤ 7000 → Q (encR s) (S.set n (box a' b' c'))) : wp (callN P (k + 3) 62 [.loc n, encR r] S) Q := by
  have hn : n < S.length := (List.getElem?_eq_some_iff.mp hS).1
  unfold Pk07.d62 at h62
  (refine wp_call h62 rfl ?_; simp only [List.map_cons, List.map_nil, Nat.reduceSub, List.replicate_succ, List.replicate_zero, List.cons_append, List.nil_append])
  refine wp_cons ?_
  rw [Pk07.s62_0, exS, wp_bind]
  refine full_ok hl fun l hb hll => ?_
  simp only [asgT, wp_ok, List.set_cons_succ, List.set_cons_zero, seqF, ok_bind]
  have n0 : ∀ S : Store, newList false [] S = .ok (.fl []) S := fun S => rfl
  have hcl : clean (.fl (l.map PV.int)) = true := by
    simp only [clean, cleanL_all, List.all_eq_true]
    rintro x hx
    obtain ⟨y, _, rfl⟩ := List.mem_map.mp hx
    rfl
  have eqf : ∀ S : Store, cmpV .eq (.fl (l.map PV.int)) (.fl []) S = .ok (decide (l = [])) S := fun S => by
    rw [cmp_eqP ints_plain rfl hcl rfl]
    simp
  (refine wp_cons ?_; generalize hQQ : seqF _ _ = QQ; simp -implicitDefEqProofs [exS, ev, evL, evI, evO, asgT, asgTs, seqOf_tup, seqOf_fl, getVar, permArgs, wipeE, evAnd, wp_bind, wp_ok, ok_bind, wp_evB, tr_bl, Pk07.s62_1, n0, eqf]; subst hQQ)
  by_cases hle : l = []
  · rw [if_pos hle]
    (refine wp_cons ?_; generalize hQQ : seqF _ _ = QQ; simp -implicitDefEqProofs [exS, ev, evL, evI, evO, asgT, asgTs, seqOf_tup, seqOf_fl, getVar, permArgs, wipeE, evAnd, wp_bind, wp_ok, ok_bind, wp_evB, tr_bl, Pk07.s62_1_0]; subst hQQ)
    simp only [seqF]
    have hself : S.set n (box a b c) = S := set_same7 hS
    have := q r a b c rfl (by omega)
    rw [hself] at this
    exact gc_same0 plainR this
  · rw [if_neg hle]
    refine wp_nil ?_
    simp only [seqF]
    (refine wp_cons ?_; generalize hQQ : seqF _ _ = QQ; simp -implicitDefEqProofs [exS, ev, evL, evI, evO, asgT, asgTs, seqOf_tup, seqOf_fl, getVar, permArgs, wipeE, evAnd, wp_bind, wp_ok, ok_bind, wp_evB, tr_bl, Pk07.s62_2]; subst hQQ)
    refine of_ok h7 h10 hS (by rw [List.length_map]; exact List.length_pos_iff.mpr hle) (by rw [List.length_map]; omega) (fun x hx => by obtain ⟨y, _, rfl⟩ := List.mem_map.mp hx; rfl) fun v a1 b1 c1 hv => ?_
    obtain ⟨bird, hbl, rfl⟩ := List.mem_map.mp hv
    obtain ⟨b0, h, hh, hne⟩ := hb bird hbl
    have hlen := len_le hh
    have hbr : bird < r.length := by have := (List.getElem?_eq_some_iff.mp hh).1; omega
    have h1 : (S.set n (box a1 b1 c1))[n]? = some (box a1 b1 c1) := set_self hn
    refine take_ok (m := 4) h7 h1 (by decide) (by decide) fun w a2 b2 c2 w0 w1 => ?_
    rw [List.set_set]
    rw [newTup_ok (by simp [sizeL])]
    ((try generalize hQQ : endsF _ _ = QQ); simp -implicitDefEqProofs [exS, ev, evL, evI, evO, asgT, asgTs, seqOf_tup, seqOf_fl, getVar, permArgs, wipeE, evAnd, wp_bind, wp_ok, ok_bind, wp_evB, tr_bl]; (try subst hQQ))
    simp only [seqF]
    have gi : ∀ S : Store, getIx (encR r) (.int bird) S = .ok (encH h) S := fun S => at_room (b := false) b0 hh
    have li : ∀ S : Store, callB .list true [encR r] S = .ok (.loc S.length) (S ++ [.lst (r.map encH)]) := fun S => by
      have e : (r.map encH).length ≤ sizeL := by rw [List.length_map]; unfold sizeL; omega
      simp only [encR, callB, seqOf, lift, ok_bind, newList, e, if_true, alloc]
    (refine wp_cons ?_; generalize hQQ : seqF _ _ = QQ; simp -implicitDefEqProofs [exS, ev, evL, evI, evO, asgT, asgTs, seqOf_tup, seqOf_fl, getVar, permArgs, wipeE, evAnd, wp_bind, wp_ok, ok_bind, wp_evB, tr_bl, Pk07.s62_3, gi, li]; subst hQQ)
    rw [newTup_ok (by simp [sizeL])]
    ((try generalize hQQ : endsF _ _ = QQ); simp -implicitDefEqProofs [exS, ev, evL, evI, evO, asgT, asgTs, seqOf_tup, seqOf_fl, getVar, permArgs, wipeE, evAnd, wp_bind, wp_ok, ok_bind, wp_evB, tr_bl]; (try subst hQQ))
    simp only [seqF]
    have hT0 : n < (S.set n (box a2 b2 c2)).length := by rw [List.length_set]; exact hn
    have h2 : (S.set n (box a2 b2 c2))[n]? = some (box a2 b2 c2) := set_self hn
    have h3 : (S.set n (box a2 b2 c2) ++ [Cell.lst (r.map encH)])[n]? = some (box a2 b2 c2) := by rw [get_app hT0]; exact h2
    have elh : ∀ S : Store, callB .len false [encH h] S = .ok (.int h.length) S := fun S => by simp [encH, cb_len_tup]
    have hpos : 0 < h.length := List.length_pos_iff.mpr hne
    (refine wp_cons ?_; generalize hQQ : seqF _ _ = QQ; simp -implicitDefEqProofs [exS, ev, evL, evI, evO, asgT, asgTs, seqOf_tup, seqOf_fl, getVar, permArgs, wipeE, evAnd, wp_bind, wp_ok, ok_bind, wp_evB, tr_bl, Pk07.s62_4, elh]; subst hQQ)
    refine take_ok (m := (h.length : Int)) h7 h3 (by omega) (by omega) fun t a3 b3 c3 t0 t1 => ?_
    rw [set_app hT0, List.set_set]
    simp only [seqF]
    have hml : ∀ a b c, (S.set n (box a b c)).length = S.length := fun a b c => List.length_set
    have fin : ∀ (a' b' c' : Int) (h' : Heap) (y8 y9 : Option PV), h'.length ≤ 5 * h.length + 1 → wp (exL P (callN P (k + 2)) [Pk07.s62_6] [some (.loc n), some (encR r), some (.fl (l.map .int)), some (.int bird), some (encH h), some (.int w), some (.loc S.length), some (.int t), y8, y9] ((S.set n (box a' b' c') ++ [Cell.lst (r.map encH)]).set S.length (.lst ((r.map encH).set bird.toNat (encH h')))))
        (fun fl S1 => match fl with
          | .rt v => wp (gcR 1 S S1 v) Q
          | .nx _ => wp (gcR 1 S S1 .non) Q
          | _ => False) := fun a' b' c' h' y8 y9 hh' => by
      have hset : (S.set n (box a' b' c') ++ [Cell.lst (r.map encH)]).set S.length (.lst ((r.map encH).set bird.toNat (encH h'))) = S.set n (box a' b' c') ++ [Cell.lst ((r.set bird.toNat h').map encH)] := by
        rw [← hml a' b' c', set_last, ← List.map_set]
      rw [hset]
      have hT1 : (S.set n (box a' b' c') ++ [Cell.lst ((r.set bird.toNat h').map encH)])[S.length]? = some (.lst ((r.set bird.toNat h').map encH)) := by rw [← hml a' b' c']; exact get_last
      have hsz := size_add (r := r) (i := bird.toNat) (h := h) (h' := h') hh
      have hq := q (r.set bird.toNat h') a' b' c' (List.length_set) (by omega)
      generalize r.set bird.toNat h' = r2 at hT1 hq ⊢
      have tu : callB .tuple false [.loc S.length] (S.set n (box a' b' c') ++ [Cell.lst (r2.map encH)]) = .ok (encR r2) (S.set n (box a' b' c') ++ [Cell.lst (r2.map encH)]) := by
        simp only [callB, seqOf, hT1, lift, ok_bind]
        rfl
      (refine wp_cons ?_; generalize hQQ : seqF _ _ = QQ; simp -implicitDefEqProofs [exS, ev, evL, evI, evO, asgT, asgTs, seqOf_tup, seqOf_fl, getVar, permArgs, wipeE, evAnd, wp_bind, wp_ok, ok_bind, wp_evB, tr_bl, Pk07.s62_6, tu]; subst hQQ)
      simp only [seqF]
      exact gc_set box_plain plainR hq
    have hbr2 : bird < ((r.map encH).length : Nat) := by rw [List.length_map]; exact hbr
    have hmT : ∀ a b c, (S.set n (box a b c) ++ [Cell.lst (r.map encH)])[S.length]? = some (.lst (r.map encH)) := fun a b c => by rw [← hml a b c]; exact get_last
    have k1 := cutL_len h none (some t)
    have k2 := cutL_len h (some t) (some (t + 2))
    have k3 := cutL_len h (some (t + 2)) none
    have k4 := cutL_len h (some (t + 1)) none
    have k5 := cutL_len h (some t) (some (t + 1))
    have i0 : w = 0 ∨ w = 1 ∨ w = 2 ∨ w = 3 := by omega
    have put : ∀ (e : ME) (y8 y9 : Option PV) (S0 : Store) (K : Fl → Store → Prop),
        wp (ev P (callN P (k + 2)) e [some (.loc n), some (encR r), some (.fl (l.map .int)), some (.int bird), some (encH h), some (.int w), some (.loc S.length), some (.int t), y8, y9] S0) (fun v S1 => ∃ (h' : Heap), v = encH h' ∧ h'.length ≤ 5 * h.length + 1 ∧ ∃ (a' b' c' : Int), S1 = S.set n (box a' b' c') ++ [Cell.lst (r.map encH)]) →
        (∀ (h' : Heap) (a' b' c' : Int), h'.length ≤ 5 * h.length + 1 → K (.nx [some (.loc n), some (encR r), some (.fl (l.map .int)), some (.int bird), some (encH h), some (.int w), some (.loc S.length), some (.int t), y8, y9]) ((S.set n (box a' b' c') ++ [Cell.lst (r.map encH)]).set S.length (.lst ((r.map encH).set bird.toNat (encH h'))))) →
        wp (exS P (callN P (k + 2)) (.asg (.sub (.var 6) (.var 3)) e) [some (.loc n), some (encR r), some (.fl (l.map .int)), some (.int bird), some (encH h), some (.int w), some (.loc S.length), some (.int t), y8, y9] S0) K := fun e y8 y9 S0 K hv hK => by
      simp only [exS, wp_bind]
      refine wp_mono hv fun v S1 hh1 => ?_
      obtain ⟨h', rfl, hle', a', b', c', rfl⟩ := hh1
      simp only [asgT, ev, getVar, List.getElem?_cons_succ, List.getElem?_cons_zero, wp_bind, wp_ok, setIx, hmT a' b' c', ixN_int b0 hbr2]
      exact hK h' a' b' c' hle'
    rcases i0 with rfl | rfl | rfl | rfl
    · (refine wp_cons ?_; generalize hQQ : seqF _ _ = QQ; simp -implicitDefEqProofs [exS, ev, evL, evI, evO, asgT, asgTs, seqOf_tup, seqOf_fl, getVar, permArgs, wipeE, evAnd, wp_bind, wp_ok, ok_bind, wp_evB, tr_bl, Pk07.s62_5, cmp_eq]; subst hQQ)
      refine wp_cons ?_
      rw [Pk07.s62_5_0]
      refine put _ _ _ _ _ ?_ fun h' a' b' c' hle' => ?_
      · ((try generalize hQQ : endsF _ _ = QQ); simp -implicitDefEqProofs [exS, ev, evL, evI, evO, asgT, asgTs, seqOf_tup, seqOf_fl, getVar, permArgs, wipeE, evAnd, wp_bind, wp_ok, ok_bind, wp_evB, tr_bl, slH, optI, bi_add, rvH]; (try subst hQQ))
        rw [adH (by simp [sizeL]; omega)]
        simp only [wp_ok]
        rw [adH (by simp [sizeL]; omega)]
        refine wp_val ⟨_, rfl, ?_, a3, b3, c3, rfl⟩
        simp only [List.length_append, List.length_reverse, List.length_cons, List.length_nil]
        omega
      · simp only [seqF]
        refine wp_nil ?_
        simp only [seqF]
        exact fin _ _ _ _ _ _ hle'
    · (refine wp_cons ?_; generalize hQQ : seqF _ _ = QQ; simp -implicitDefEqProofs [exS, ev, evL, evI, evO, asgT, asgTs, seqOf_tup, seqOf_fl, getVar, permArgs, wipeE, evAnd, wp_bind, wp_ok, ok_bind, wp_evB, tr_bl, Pk07.s62_5, cmp_eq]; subst hQQ)
      (refine wp_cons ?_; generalize hQQ : seqF _ _ = QQ; simp -implicitDefEqProofs [exS, ev, evL, evI, evO, asgT, asgTs, seqOf_tup, seqOf_fl, getVar, permArgs, wipeE, evAnd, wp_bind, wp_ok, ok_bind, wp_evB, tr_bl, Pk07.s62_5_1, cmp_eq]; subst hQQ)
      refine wp_cons ?_
      rw [Pk07.s62_5_1_0]
      obtain ⟨p, hp⟩ : ∃ p, h[t.toNat]? = some p := ⟨h[t.toNat]'(by omega), by rw [List.getElem?_eq_some_iff]; exact ⟨by omega, rfl⟩⟩
      have g1 : ∀ S : Store, getIx (encH h) (.int t) S = .ok (encP p) S := fun S => by
        have e : (h.map encP)[t.toNat]? = some (encP p) := by rw [List.getElem?_map, hp]; rfl
        simp only [encH, getIx, atI_int t0 e, lift]
      have g2 : ∀ S : Store, getIx (encP p) (.int 0) S = .ok (.int p.1) S := fun S => rfl
      refine put _ _ _ _ _ ?_ fun h' a' b' c' hle' => ?_
      · ((try generalize hQQ : endsF _ _ = QQ); simp -implicitDefEqProofs [exS, ev, evL, evI, evO, asgT, asgTs, seqOf_tup, seqOf_fl, getVar, permArgs, wipeE, evAnd, wp_bind, wp_ok, ok_bind, wp_evB, tr_bl, slH, optI, bi_add, g1, g2]; (try subst hQQ))
        have h4 : (S.set n (box a3 b3 c3) ++ [Cell.lst (r.map encH)])[n]? = some (box a3 b3 c3) := by rw [get_app (by rw [List.length_set]; exact hn)]; exact set_self hn
        refine word_ok (k := k) h7 h12 h4 fun wd a4 b4 c4 => ?_
        rw [set_app (by rw [List.length_set]; exact hn), List.set_set]
        rw [newTup_ok (by simp [sizeL])]
        simp only [wp_ok]
        rw [newTup_ok (by simp [sizeL])]
        simp only [wp_ok]
        have ep : PV.tup [.tup [.int (p.1 : Int), .str wd]] = encH [(p.1, wd)] := rfl
        rw [ep, adH (by simp [sizeL]; omega)]
        simp only [wp_ok]
        rw [adH (by simp [sizeL]; omega)]
        refine wp_val ⟨_, rfl, ?_, a4, b4, c4, rfl⟩
        simp only [List.length_append, List.length_reverse, List.length_cons, List.length_nil]
        omega
      · simp only [seqF]
        refine wp_nil ?_
        simp only [seqF]
        refine wp_nil ?_
        simp only [seqF]
        exact fin _ _ _ _ _ _ hle'
    · (refine wp_cons ?_; generalize hQQ : seqF _ _ = QQ; simp -implicitDefEqProofs [exS, ev, evL, evI, evO, asgT, asgTs, seqOf_tup, seqOf_fl, getVar, permArgs, wipeE, evAnd, wp_bind, wp_ok, ok_bind, wp_evB, tr_bl, Pk07.s62_5, cmp_eq]; subst hQQ)
      (refine wp_cons ?_; generalize hQQ : seqF _ _ = QQ; simp -implicitDefEqProofs [exS, ev, evL, evI, evO, asgT, asgTs, seqOf_tup, seqOf_fl, getVar, permArgs, wipeE, evAnd, wp_bind, wp_ok, ok_bind, wp_evB, tr_bl, Pk07.s62_5_1, cmp_eq]; subst hQQ)
      (refine wp_cons ?_; generalize hQQ : seqF _ _ = QQ; simp -implicitDefEqProofs [exS, ev, evL, evI, evO, asgT, asgTs, seqOf_tup, seqOf_fl, getVar, permArgs, wipeE, evAnd, wp_bind, wp_ok, ok_bind, wp_evB, tr_bl, Pk07.s62_5_1_1, cmp_eq]; subst hQQ)
      (refine wp_cons ?_; generalize hQQ : seqF _ _ = QQ; simp -implicitDefEqProofs [exS, ev, evL, evI, evO, asgT, asgTs, seqOf_tup, seqOf_fl, getVar, permArgs, wipeE, evAnd, wp_bind, wp_ok, ok_bind, wp_evB, tr_bl, Pk07.s62_5_1_1_0, slH, optI, bi_add]; subst hQQ)
      rw [adH (by simp [sizeL]; omega)]
      simp only [wp_ok, seqF]
      have h4 : (S.set n (box a3 b3 c3) ++ [Cell.lst (r.map encH)])[n]? = some (box a3 b3 c3) := by rw [get_app (by rw [List.length_set]; exact hn)]; exact set_self hn
      (refine wp_cons ?_; generalize hQQ : seqF _ _ = QQ; simp -implicitDefEqProofs [exS, ev, evL, evI, evO, asgT, asgTs, seqOf_tup, seqOf_fl, getVar, permArgs, wipeE, evAnd, wp_bind, wp_ok, ok_bind, wp_evB, tr_bl, Pk07.s62_5_1_1_1, elh]; subst hQQ)
      refine take_ok (m := (h.length : Int)) h7 h4 (by omega) (by omega) fun t5 a5 b5 c5 t50 t51 => ?_
      rw [set_app (by rw [List.length_set]; exact hn), List.set_set]
      simp only [seqF]
      generalize hLft : cutL h none (some t) ++ cutL h (some (t + 1)) none = lft
      have lftl : lft.length ≤ 2 * h.length := by rw [← hLft, List.length_append]; omega
      have k6 := cutL_len lft none (some t5)
      have k7 := cutL_len lft (some t5) none
      refine wp_cons ?_
      rw [Pk07.s62_5_1_1_2]
      refine put _ _ _ _ _ ?_ fun h' a' b' c' hle' => ?_
      · ((try generalize hQQ : endsF _ _ = QQ); simp -implicitDefEqProofs [exS, ev, evL, evI, evO, asgT, asgTs, seqOf_tup, seqOf_fl, getVar, permArgs, wipeE, evAnd, wp_bind, wp_ok, ok_bind, wp_evB, tr_bl, slH, optI, bi_add]; (try subst hQQ))
        rw [adH (by simp [sizeL]; omega)]
        simp only [wp_ok]
        rw [adH (by simp [sizeL]; omega)]
        refine wp_val ⟨_, rfl, ?_, a5, b5, c5, rfl⟩
        simp only [List.length_append, List.length_reverse, List.length_cons, List.length_nil]
        omega
      · simp only [seqF]
        refine wp_nil ?_
        simp only [seqF]
        refine wp_nil ?_
        simp only [seqF]
        refine wp_nil ?_
        simp only [seqF]
        exact fin _ _ _ _ _ _ hle'
    · (refine wp_cons ?_; generalize hQQ : seqF _ _ = QQ; simp -implicitDefEqProofs [exS, ev, evL, evI, evO, asgT, asgTs, seqOf_tup, seqOf_fl, getVar, permArgs, wipeE, evAnd, wp_bind, wp_ok, ok_bind, wp_evB, tr_bl, Pk07.s62_5, cmp_eq]; subst hQQ)
      (refine wp_cons ?_; generalize hQQ : seqF _ _ = QQ; simp -implicitDefEqProofs [exS, ev, evL, evI, evO, asgT, asgTs, seqOf_tup, seqOf_fl, getVar, permArgs, wipeE, evAnd, wp_bind, wp_ok, ok_bind, wp_evB, tr_bl, Pk07.s62_5_1, cmp_eq]; subst hQQ)
      (refine wp_cons ?_; generalize hQQ : seqF _ _ = QQ; simp -implicitDefEqProofs [exS, ev, evL, evI, evO, asgT, asgTs, seqOf_tup, seqOf_fl, getVar, permArgs, wipeE, evAnd, wp_bind, wp_ok, ok_bind, wp_evB, tr_bl, Pk07.s62_5_1_1, cmp_eq]; subst hQQ)
      refine wp_cons ?_
      rw [Pk07.s62_5_1_1_3]
      refine put _ _ _ _ _ ?_ fun h' a' b' c' hle' => ?_
      · ((try generalize hQQ : endsF _ _ = QQ); simp -implicitDefEqProofs [exS, ev, evL, evI, evO, asgT, asgTs, seqOf_tup, seqOf_fl, getVar, permArgs, wipeE, evAnd, wp_bind, wp_ok, ok_bind, wp_evB, tr_bl, slH, optI, bi_add]; (try subst hQQ))
        rw [adH (by simp [sizeL]; omega)]
        refine wp_val ⟨_, rfl, ?_, a3, b3, c3, rfl⟩
        simp only [List.length_append, List.length_reverse, List.length_cons, List.length_nil]
        omega
      · simp only [seqF]
        refine wp_nil ?_
        simp only [seqF]
        refine wp_nil ?_
        simp only [seqF]
        refine wp_nil ?_
        simp only [seqF]
        exact fin _ _ _ _ _ _ hle'
end LC

namespace LC
open G
theorem two_ok {P : Prog} (D : FDraw P) (h45 : P.fn 45 = some Pk71.d45) (h62 : P.fn 62 = some Pk07.d62) (h63 : P.fn 63 = some Pk07.d63) {k n : Nat} {S : Store} {a b c birds most turns : Int} (hS : S[n]? = some (box a b c)) (hb : 0 < birds) (hb2 : birds < 100) (hm : 0 ≤ most) (hm2 : most < 500) (ht : 0 ≤ turns) (ht2 : turns < 100)
    {Q : PV → Store → Prop} (q : ∀ (r s : Room) (z : List Int) a' b' c', 0 < r.length → (r.length : Int) ≤ birds → s.length = r.length → (size r : Int) ≤ most → size s ≤ 7000 → (z.length : Int) ≤ birds → Q (.tup [encR r, encR s, .fl (z.map .int)]) (S.set n (box a' b' c'))) : wp (callN P (k + 4) 63 [.loc n, .int birds, .int most, .int turns] S) Q := by
  have hn : n < S.length := (List.getElem?_eq_some_iff.mp hS).1
  have hg : ∀ a b c, (S.set n (box a b c))[n]? = some (box a b c) := fun a b c => set_self hn
  unfold Pk07.d63 at h63
  (refine wp_call h63 rfl ?_; simp only [List.map_cons, List.map_nil, Nat.reduceSub, List.replicate_succ, List.replicate_zero, List.cons_append, List.nil_append])
  (refine wp_cons ?_; generalize hQQ : seqF _ _ = QQ; simp -implicitDefEqProofs [exS, ev, evL, evI, evO, asgT, asgTs, seqOf_tup, seqOf_fl, getVar, permArgs, wipeE, evAnd, wp_bind, wp_ok, ok_bind, wp_evB, tr_bl, Pk07.s63_0]; subst hQQ)
  refine room_ok D.h7 D.h12 D.h13 hS hb (by omega) hm (by omega) fun r a1 b1 c1 gr l0 l8 sz => ?_
  simp only [seqF]
  generalize hz : (r.length : Int) = z
  have cl1 : ∀ S : Store, callB .len false [encR r] S = .ok (.int z) S := fun S => by rw [← hz]; simp [encR, cb_len_tup]
  (refine wp_cons ?_; generalize hQQ : seqF _ _ = QQ; simp -implicitDefEqProofs [exS, ev, evL, evI, evO, asgT, asgTs, seqOf_tup, seqOf_fl, getVar, permArgs, wipeE, evAnd, wp_bind, wp_ok, ok_bind, wp_evB, tr_bl, Pk07.s63_1, cl1]; subst hQQ)
  refine doz_ok D.h7 D.h37 (hg a1 b1 c1) (by omega) (by omega) fun dz a2 b2 c2 hdz hdl => ?_
  rw [List.set_set]
  simp only [seqF]
  (refine wp_cons ?_; generalize hQQ : seqF _ _ = QQ; simp -implicitDefEqProofs [exS, ev, evL, evI, evO, asgT, asgTs, seqOf_tup, seqOf_fl, getVar, permArgs, wipeE, evAnd, wp_bind, wp_ok, ok_bind, wp_evB, tr_bl, Pk07.s63_2, bi_add]; subst hQQ)
  refine take_ok (m := turns + 1) D.h7 (hg a2 b2 c2) (by omega) (by omega) fun m a3 b3 c3 m0 m1 => ?_
  rw [List.set_set]
  refine led_ok D h45 (z := dz) (hg a3 b3 c3) gr m0 (by omega) (by omega) (by omega) fun ps s a4 b4 c4 gn pl => ?_
  rw [List.set_set]
  have Ls := Gone.led gn (Led.refl gr)
  have sl : s.length = r.length := Ls.same.1.symm
  have ss : size s = size r := Ls.sz
  ((try generalize hQQ : endsF _ _ = QQ); simp -implicitDefEqProofs [exS, ev, evL, evI, evO, asgT, asgTs, seqOf_tup, seqOf_fl, getVar, permArgs, wipeE, evAnd, wp_bind, wp_ok, ok_bind, wp_evB, tr_bl]; (try subst hQQ))
  simp only [seqF]
  (refine wp_cons ?_; generalize hQQ : seqF _ _ = QQ; simp -implicitDefEqProofs [exS, ev, evL, evI, evO, asgT, asgTs, seqOf_tup, seqOf_fl, getVar, permArgs, wipeE, evAnd, wp_bind, wp_ok, ok_bind, wp_evB, tr_bl, Pk07.s63_3]; subst hQQ)
  refine take_ok (m := 4) D.h7 (hg a4 b4 c4) (by decide) (by decide) fun w a5 b5 c5 w0 w1 => ?_
  rw [List.set_set]
  simp only [seqF]
  have fin : ∀ (s' : Room) (x8 : Option PV) (a' b' c' : Int), s'.length = r.length → size s' ≤ 7000 → wp (exL P (callN P (k + 3)) [Pk07.s63_6] [some (.loc n), some (.int birds), some (.int most), some (.int turns), some (encR r), some (.fl (dz.map .int)), some (.fl (ps.map .int)), some (encR s'), x8] (S.set n (box a' b' c')))
      (fun fl S1 => match fl with
        | .rt v => wp (gcR 1 S S1 v) Q
        | .nx _ => wp (gcR 1 S S1 .non) Q
        | _ => False) := fun s' x8 a' b' c' h1 h2 => by
    (refine wp_cons ?_; generalize hQQ : seqF _ _ = QQ; simp -implicitDefEqProofs [exS, ev, evL, evI, evO, asgT, asgTs, seqOf_tup, seqOf_fl, getVar, permArgs, wipeE, evAnd, wp_bind, wp_ok, ok_bind, wp_evB, tr_bl, Pk07.s63_6]; subst hQQ)
    rw [newTup_ok (by simp [sizeL])]
    simp only [wp_ok, seqF]
    have hp : plain depthL (.tup [encR r, encR s', .fl (dz.map .int)]) = true := by
      have e1 : plain 23 (encR r) = true := plainR
      have e2 : plain 23 (encR s') = true := plainR
      have e3 : plain 23 (.fl (dz.map PV.int)) = true := ints_plain
      simp [depthL, plain, e1, e2] at e3 ⊢
    exact gc_set0 box_plain hp (q r s' dz a' b' c' l0 l8 h1 sz h2 (by omega))
  have i0 : w = 0 ∨ w = 1 ∨ w = 2 ∨ w = 3 := by omega
  have skip5 : ∀ (u : Int), u ≠ 1 → ∀ (s' : Room) (a' b' c' : Int), s'.length = r.length → size s' ≤ 7000 → wp (exL P (callN P (k + 3)) [Pk07.s63_5, Pk07.s63_6] [some (.loc n), some (.int birds), some (.int most), some (.int turns), some (encR r), some (.fl (dz.map .int)), some (.fl (ps.map .int)), some (encR s'), some (.int u)] (S.set n (box a' b' c')))
      (fun fl S1 => match fl with
        | .rt v => wp (gcR 1 S S1 v) Q
        | .nx _ => wp (gcR 1 S S1 .non) Q
        | _ => False) := fun u hu s' a' b' c' h1 h2 => by
    have eu : ∀ S : Store, cmpV .eq (.int u) (.int 1) S = .ok false S := fun S => by rw [cmp_eq]; simp [hu]
    (refine wp_cons ?_; generalize hQQ : seqF _ _ = QQ; simp -implicitDefEqProofs [exS, ev, evL, evI, evO, asgT, asgTs, seqOf_tup, seqOf_fl, getVar, permArgs, wipeE, evAnd, wp_bind, wp_ok, ok_bind, wp_evB, tr_bl, Pk07.s63_5, eu, lift, truthy]; subst hQQ)
    refine wp_nil ?_
    simp only [seqF]
    exact fin s' _ a' b' c' h1 h2
  rcases i0 with rfl | rfl | rfl | rfl
  · (refine wp_cons ?_; generalize hQQ : seqF _ _ = QQ; simp -implicitDefEqProofs [exS, ev, evL, evI, evO, asgT, asgTs, seqOf_tup, seqOf_fl, getVar, permArgs, wipeE, evAnd, wp_bind, wp_ok, ok_bind, wp_evB, tr_bl, Pk07.s63_4, cmp_eq]; subst hQQ)
    (refine wp_cons ?_; generalize hQQ : seqF _ _ = QQ; simp -implicitDefEqProofs [exS, ev, evL, evI, evO, asgT, asgTs, seqOf_tup, seqOf_fl, getVar, permArgs, wipeE, evAnd, wp_bind, wp_ok, ok_bind, wp_evB, tr_bl, Pk07.s63_4_0]; subst hQQ)
    refine spoilt_ok D.h7 D.h10 D.h12 h62 (hg a5 b5 c5) (by omega) (by omega) fun s' a6 b6 c6 h1 h2 => ?_
    rw [List.set_set]
    simp only [seqF, List.set_cons_succ, List.set_cons_zero]
    refine wp_nil ?_
    simp only [seqF]
    exact skip5 0 (by decide) s' a6 b6 c6 (h1.trans sl) h2
  · (refine wp_cons ?_; generalize hQQ : seqF _ _ = QQ; simp -implicitDefEqProofs [exS, ev, evL, evI, evO, asgT, asgTs, seqOf_tup, seqOf_fl, getVar, permArgs, wipeE, evAnd, wp_bind, wp_ok, ok_bind, wp_evB, tr_bl, Pk07.s63_4, cmp_eq]; subst hQQ)
    refine wp_nil ?_
    simp only [seqF]
    (refine wp_cons ?_; generalize hQQ : seqF _ _ = QQ; simp -implicitDefEqProofs [exS, ev, evL, evI, evO, asgT, asgTs, seqOf_tup, seqOf_fl, getVar, permArgs, wipeE, evAnd, wp_bind, wp_ok, ok_bind, wp_evB, tr_bl, Pk07.s63_5, cmp_eq, lift, truthy]; subst hQQ)
    refine take_ok (m := 2) D.h7 (hg a5 b5 c5) (by decide) (by decide) fun u a6 b6 c6 u0 u1 => ?_
    rw [List.set_set, cmp_eq]
    simp only [wp_ok]
    by_cases hu : u = 0
    · subst hu
      simp only [beq_self_eq_true, if_true]
      have n0 : ∀ S : Store, newList false [] S = .ok (.fl []) S := fun S => rfl
      (refine wp_cons ?_; generalize hQQ : seqF _ _ = QQ; simp -implicitDefEqProofs [exS, ev, evL, evI, evO, asgT, asgTs, seqOf_tup, seqOf_fl, getVar, permArgs, wipeE, evAnd, wp_bind, wp_ok, ok_bind, wp_evB, tr_bl, Pk07.s63_5_0, n0]; subst hQQ)
      refine take_ok (m := 8) D.h7 (hg a6 b6 c6) (by decide) (by decide) fun m2 a7 b7 c7 m20 m21 => ?_
      rw [List.set_set]
      refine led_ok D h45 (z := []) (hg a7 b7 c7) gr m20 (by omega) (by omega) (by omega) fun ps2 s2 a8 b8 c8 gn2 pl2 => ?_
      rw [List.set_set]
      have L2 := Gone.led gn2 (Led.refl gr)
      have g1 : ∀ S : Store, getIx (.tup [.fl (ps2.map .int), encR s2]) (.int 1) S = .ok (encR s2) S := fun S => rfl
      rw [g1]
      simp only [wp_ok]
      refine spoilt_ok D.h7 D.h10 D.h12 h62 (hg a8 b8 c8) (by have := L2.same.1; omega) (by have := L2.sz; omega) fun s' a9 b9 c9 h1 h2 => ?_
      rw [List.set_set]
      simp only [seqF, List.set_cons_succ, List.set_cons_zero]
      refine wp_nil ?_
      simp only [seqF]
      exact fin s' _ a9 b9 c9 (h1.trans L2.same.1.symm) h2
    · have hub : (u == 0) = false := by simpa using hu
      rw [hub]
      simp only [Bool.false_eq_true, if_false]
      refine wp_nil ?_
      simp only [seqF]
      exact fin s _ a6 b6 c6 sl (by omega)
  · (refine wp_cons ?_; generalize hQQ : seqF _ _ = QQ; simp -implicitDefEqProofs [exS, ev, evL, evI, evO, asgT, asgTs, seqOf_tup, seqOf_fl, getVar, permArgs, wipeE, evAnd, wp_bind, wp_ok, ok_bind, wp_evB, tr_bl, Pk07.s63_4, cmp_eq]; subst hQQ)
    refine wp_nil ?_
    simp only [seqF]
    exact skip5 2 (by decide) s a5 b5 c5 sl (by omega)
  · (refine wp_cons ?_; generalize hQQ : seqF _ _ = QQ; simp -implicitDefEqProofs [exS, ev, evL, evI, evO, asgT, asgTs, seqOf_tup, seqOf_fl, getVar, permArgs, wipeE, evAnd, wp_bind, wp_ok, ok_bind, wp_evB, tr_bl, Pk07.s63_4, cmp_eq]; subst hQQ)
    refine wp_nil ?_
    simp only [seqF]
    exact skip5 3 (by decide) s a5 b5 c5 sl (by omega)
end LC

namespace LC
open G
section
variable {P : Prog} {k : Nat} {S : Store} {b : Bool}
theorem pairs2 (h52 : P.fn 52 = some Pk06.d52) {l : List PV} (hlen : l.length < 1000)
    {Q : PV → Store → Prop} (q : Q (.fl ((prs l.length).map encIJ)) S) : wp (callN P (k + 1) 52 [mkS b l] S) Q := by
  unfold Pk06.d52 at h52
  (refine wp_call h52 rfl ?_; simp only [List.map_cons, List.map_nil, Nat.reduceSub, List.replicate_succ, List.replicate_zero, List.cons_append, List.nil_append])
  generalize hz : (l.length : Int) = z
  have el : ∀ S : Store, callB .len false [mkS b l] S = .ok (.int z) S := fun S => by rw [← hz]; exact len_mk
  (refine wp_cons ?_; generalize hQQ : seqF _ _ = QQ; simp -implicitDefEqProofs [exS, ev, evL, evI, evO, asgT, asgTs, seqOf_tup, seqOf_fl, getVar, permArgs, wipeE, evAnd, wp_bind, wp_ok, ok_bind, wp_evB, tr_bl, Pk06.s52_0, el]; subst hQQ)
  simp only [seqF]
  have hz0 : 0 ≤ z := by omega
  have hzt : z.toNat = l.length := by omega
  (refine wp_cons ?_; generalize hQQ : seqF _ _ = QQ; simp -implicitDefEqProofs [exS, ev, evL, evI, evO, asgT, asgTs, seqOf_tup, seqOf_fl, getVar, permArgs, wipeE, evAnd, wp_bind, wp_ok, ok_bind, wp_evB, tr_bl, Pk06.s52_1]; subst hQQ)
  refine wp_rngZ hz0 (by omega) ?_
  rw [rangeL_I]
  refine wp_compP (fun x => match x with | .int i => (rangeI (i + 1) (z - (i + 1)).toNat).map fun j => encIJ (i, j) | _ => []) rfl (fun x hx => ?_) ?_
  · obtain ⟨i, hi, rfl⟩ := List.mem_map.mp hx
    have hi := mem_rangeI.mp hi
    refine wp_noEx ?_
    ((try generalize hQQ : endsF _ _ = QQ); simp -implicitDefEqProofs [exS, ev, evL, evI, evO, asgT, asgTs, seqOf_tup, seqOf_fl, getVar, permArgs, wipeE, evAnd, wp_bind, wp_ok, ok_bind, wp_evB, tr_bl, bi_add]; (try subst hQQ))
    refine wp_rng2 (by omega) (by omega) hz0 (by omega) ?_
    rw [rangeL_I]
    refine wp_compP (fun x => [PV.tup [.int i, x]]) rfl (fun y hy => ?_) ?_
    · obtain ⟨j, hj, rfl⟩ := List.mem_map.mp hy
      refine wp_noEx ?_
      ((try generalize hQQ : endsF _ _ = QQ); simp -implicitDefEqProofs [exS, ev, evL, evI, evO, asgT, asgTs, seqOf_tup, seqOf_fl, getVar, permArgs, wipeE, evAnd, wp_bind, wp_ok, ok_bind, wp_evB, tr_bl]; (try subst hQQ))
      rw [newTup_ok (by simp [sizeL])]
      simp [wp_ok]
    · refine ⟨?_, rfl⟩
      rw [map_fm]
      exact fm_one
  · have e : ((rangeI 0 z.toNat).map PV.int).flatMap (fun x => match x with | .int i => (rangeI (i + 1) (z - (i + 1)).toNat).map fun j => encIJ (i, j) | _ => []) = (prs l.length).map encIJ := by
      unfold prs
      rw [map_fm, fm_fm, hzt]
      refine fm_congr fun i _ => ?_
      rw [← hz, List.map_map]
      rfl
    rw [e]
    refine wp_fl (by rw [List.length_map]; have := prs_small hlen; unfold sizeL; omega) ?_
    simp only [seqF]
    exact gc_same0 ij_plain q
theorem lns_old {n : Nat} {l : List (Int × Int × List (List Nat))} : (l.map encL).all (oldV n depthL) = true := by
  rw [List.all_eq_true]
  intro x hx
  obtain ⟨t, _, rfl⟩ := List.mem_map.mp hx
  simp [oldV, depthL, encL, encW]
/-- the lines, in a new list -/
theorem linesof2 (F : FHeld P) (h50 : P.fn 50 = some Pk06.d50) (h52 : P.fn 52 = some Pk06.d52) (h53 : P.fn 53 = some Pk06.d53) {r : Room} (hs : size r < 10000) (hlen : r.length < 1000)
    {Q : PV → Store → Prop} (q : Q (.loc S.length) (S ++ [.lst ((lns r).map encL)])) : wp (callN P (k + 6) 53 [encRb b r] S) Q := by
  unfold Pk06.d53 at h53
  (refine wp_call h53 rfl ?_; simp only [List.map_cons, List.map_nil, Nat.reduceSub, List.replicate_succ, List.replicate_zero, List.cons_append, List.nil_append])
  (refine wp_cons ?_; generalize hQQ : seqF _ _ = QQ; simp -implicitDefEqProofs [exS, ev, evL, evI, evO, asgT, asgTs, seqOf_tup, seqOf_fl, getVar, permArgs, wipeE, evAnd, wp_bind, wp_ok, ok_bind, wp_evB, tr_bl, Pk06.s53_0]; subst hQQ)
  rw [encRb]
  refine pairs2 h52 (by rw [List.length_map]; exact hlen) ?_
  rw [List.length_map, ← encRb]
  simp only [itemsOf, wp_ok]
  refine wp_compP (fun x => match x with | .tup [.int i, .int j] => [encL (i, j, line r i.toNat j.toNat)] | _ => []) rfl (fun x hx => ?_) ?_
  · obtain ⟨p, hp, rfl⟩ := List.mem_map.mp hx
    obtain ⟨i, j⟩ := p
    have hm := mem_prs.mp hp
    simp at hm
    refine wp_noEx ?_
    ((try generalize hQQ : endsF _ _ = QQ); simp -implicitDefEqProofs [exS, ev, evL, evI, evO, asgT, asgTs, seqOf_tup, seqOf_fl, getVar, permArgs, wipeE, evAnd, wp_bind, wp_ok, ok_bind, wp_evB, tr_bl, encIJ]; (try subst hQQ))
    refine line2 F h50 hs (by omega) (by omega) (by omega) (by omega) ?_
    rw [newTup_ok (by simp [sizeL])]
    simp [wp_ok, encL]
  · rw [map_fm]
    have e : ((prs r.length).flatMap fun x => match encIJ x with | .tup [.int i, .int j] => [encL (i, j, line r i.toNat j.toNat)] | _ => []) = (prs r.length).map fun p => encL (p.1, p.2, line r p.1.toNat p.2.toNat) := fm_one
    rw [e]
    have hl := prs_small hlen
    refine wp_fl (by rw [List.length_map]; unfold sizeL; omega) ?_
    simp only [seqF]
    (refine wp_cons ?_; generalize hQQ : seqF _ _ = QQ; simp -implicitDefEqProofs [exS, ev, evL, evI, evO, asgT, asgTs, seqOf_tup, seqOf_fl, getVar, permArgs, wipeE, evAnd, wp_bind, wp_ok, ok_bind, wp_evB, tr_bl, Pk06.s53_1]; subst hQQ)
    simp only [itemsOf, wp_ok]
    refine wp_compP (fun x => match x with | .tup [a, b, .tup l] => if l = [] then [] else [.tup [a, b, .tup l]] | _ => []) rfl (fun x hx => ?_) ?_
    · obtain ⟨p, hp, rfl⟩ := List.mem_map.mp hx
      obtain ⟨i, j⟩ := p
      refine wp_noEx ?_
      generalize hll : line r i.toNat j.toNat = ll
      have hg : ∀ S : Store, getIx (encL (i, j, ll)) (.int 2) S = .ok (encW ll) S := fun S => rfl
      generalize hz : (ll.length : Int) = z
      have hc : ∀ S : Store, callB .len false [encW ll] S = .ok (.int z) S := fun S => by rw [← hz]; simp [encW, cb_len_tup]
      generalize hv : encL (i, j, ll) = v at hg
      ((try generalize hQQ : endsF _ _ = QQ); simp -implicitDefEqProofs [exS, ev, evL, evI, evO, asgT, asgTs, seqOf_tup, seqOf_fl, getVar, permArgs, wipeE, evAnd, wp_bind, wp_ok, ok_bind, wp_evB, tr_bl, hg, hc, cmp_gt]; (try subst hQQ))
      by_cases h : ll = []
      · subst h
        have : z = 0 := by simpa using hz.symm
        subst this
        subst hv
        simp [lift, truthy, wp_ok, encL, encW]
      · have : 0 < z := by
          have := List.length_pos_iff.mpr h; omega
        subst hv
        simp [lift, truthy, wp_ok, encL, encW, this, h]
    · have e : ((prs r.length).map fun p => encL (p.1, p.2, line r p.1.toNat p.2.toNat)).flatMap (fun x => match x with | .tup [a, b, .tup l] => if l = [] then [] else [.tup [a, b, .tup l]] | _ => []) = (lns r).map encL := by
        unfold lns
        rw [map_fm, fm_fm]
        refine fm_congr fun p _ => ?_
        simp only [encL, encW]
        by_cases h : line r p.1.toNat p.2.toNat = []
        · simp [h]
        · simp [h, encL, encW]
      rw [e]
      have hle : (lns r).length ≤ (prs r.length).length := fm_le fun p _ => by split <;> simp
      refine wp_mk (by rw [List.length_map]; unfold sizeL; omega) ?_
      simp only [seqF]
      exact gc_two lns_old q
theorem refused6 (h55 : P.fn 55 = some Pk06.d55) (hb : P.base 1 = 2) (hf : P.flds 1 = [1]) {n : Nat} {way room mine its : PV} {far : Int} (hx : exL P (callN P n) [Pk06.s55_1_0] [some way, some room, some mine, some its, some .non, none, none] S = .ex (.exc 1 [.int far]) S) {Q : PV → Store → Prop} (q : Q (.int far) S) : wp (callN P (n + 1) 55 [way, room, mine, its] S) Q := by
  unfold Pk06.d55 at h55
  (refine wp_call h55 rfl ?_; simp only [List.map_cons, List.map_nil, Nat.reduceSub, List.replicate_succ, List.replicate_zero, List.cons_append, List.nil_append])
  (refine wp_cons ?_; generalize hQQ : seqF _ _ = QQ; simp -implicitDefEqProofs [exS, ev, evL, evI, evO, asgT, asgTs, seqOf_tup, seqOf_fl, getVar, permArgs, wipeE, evAnd, wp_bind, wp_ok, ok_bind, wp_evB, tr_bl, Pk06.s55_0]; subst hQQ)
  refine wp_cons ?_
  rw [Pk06.s55_1]
  refine wp_try_x hx (by rw [hb]; decide) (by simp) ?_
  (refine wp_cons ?_; generalize hQQ : seqF _ _ = QQ; simp -implicitDefEqProofs [exS, ev, evL, evI, evO, asgT, asgTs, seqOf_tup, seqOf_fl, getVar, permArgs, wipeE, evAnd, wp_bind, wp_ok, ok_bind, wp_evB, tr_bl, Pk06.s55_1_1]; subst hQQ)
  refine wp_nil ?_
  simp only [seqF, List.set_cons_succ, List.set_cons_zero]
  have i1 : ∀ S : Store, isiV P [.own 1] (.exc 1 [.int far]) S = .ok (.bl true) S := fun S => by rw [isi_exc (by simp [isOwnT, hb])]; simp [hasTy]
  have i3 : ∀ S : Store, isiV P [.own 2, .own 7] (.exc 1 [.int far]) S = .ok (.bl false) S := fun S => by rw [isi_exc (by simp [isOwnT, hb])]; simp [hasTy]
  have f1 : ∀ S : Store, fldV P 1 (.exc 1 [.int far]) S = .ok (.int far) S := fun S => by simp [fldV, hb, hf, lift, List.lookup]
  (refine wp_cons ?_; generalize hQQ : seqF _ _ = QQ; simp -implicitDefEqProofs [exS, ev, evL, evI, evO, asgT, asgTs, seqOf_tup, seqOf_fl, getVar, permArgs, wipeE, evAnd, wp_bind, wp_ok, ok_bind, wp_evB, tr_bl, Pk06.s55_2, i1, i3, f1]; subst hQQ)
  simp only [seqF]
  exact gc_same0 rfl q
end
structure FK06 (P : Prog) : Prop extends FHeld P where
  h6 : P.fn 6 = some Pk02.d6
  h7 : P.fn 7 = some Pk02.d7
  h8 : P.fn 8 = some Pk02.d8
  h9 : P.fn 9 = some Pk02.d9
  h11 : P.fn 11 = some Pk02.d11
  h12 : P.fn 12 = some Pk02.d12
  h13 : P.fn 13 = some Pk02.d13
  h25 : P.fn 25 = some Pk02.d25
  h50 : P.fn 50 = some Pk06.d50
  h51 : P.fn 51 = some Pk06.d51
  h52 : P.fn 52 = some Pk06.d52
  h53 : P.fn 53 = some Pk06.d53
  h54 : P.fn 54 = some Pk06.d54
  h55 : P.fn 55 = some Pk06.d55
  h56 : P.fn 56 = some Pk06.d56
  h43 : P.fn 43 = some Pk06.d43
  hb : P.base 1 = 2
  hf : P.flds 1 = [1]
theorem far_x {l : Nat} {z far : Int} (hz : (l : Int) = z) (hf : far < 0 ∨ z ≤ far) : (decide (0 ≤ far) && decide (far < (l : Int))) = false := by
  rcases hf with h | h
  · have : ¬ 0 ≤ far := by omega
    simp [this]
  · have : ¬ far < (l : Int) := by omega
    simp [this]
theorem ref_a {P : Prog} (F : FK06 P) {k : Nat} {S : Store} {r : Room} {z far its way : Int} (hw : way = 0 ∨ way = 1) (hz : (r.length : Int) = z) (hf : far < 0 ∨ z ≤ far) {Q : PV → Store → Prop} (q : Q (.int far) S) : wp (callN P (k + 6) 55 [.int way, encR r, .int far, .int its] S) Q := by
  refine refused6 F.h55 F.hb F.hf (n := k + 5) ?_ q
  have e := line_x1 (k := k) (S := S) (b := false) (l := r.map (encHb false)) (j := its) F.toFHeld F.h50 (far_x (by rw [List.length_map]; exact hz) hf)
  have e2 := cut_x1 (k := k) (S := S) (b := false) (l := r.map (encHb false)) (j := its) F.toFHeld F.h51 (far_x (by rw [List.length_map]; exact hz) hf)
  generalize callN P (k + 5) = C at e e2 ⊢
  rw [show mkS false (r.map (encHb false)) = encR r from rfl] at e e2
  rcases hw with rfl | rfl
  · simp [Pk06.s55_1_0, exL, exS, ev, evL, getVar, permArgs, cmp_eq, evB_wbl, e, R.bind]
  · simp [Pk06.s55_1_0, exL, exS, ev, evL, getVar, permArgs, cmp_eq, evB_wbl, e2, R.bind]
theorem ref_b {P : Prog} (F : FK06 P) {k : Nat} {S : Store} {r : Room} {z far way : Int} (hw : way = 0 ∨ way = 1) (hz : (r.length : Int) = z) (z0 : 0 < z) (hf : far < 0 ∨ z ≤ far) {Q : PV → Store → Prop} (q : Q (.int far) S) : wp (callN P (k + 6) 55 [.int way, encR r, .int 0, .int far] S) Q := by
  refine refused6 F.h55 F.hb F.hf (n := k + 5) ?_ q
  have e := line_x2 (k := k) (S := S) (b := false) (l := r.map (encHb false)) (i := 0) F.toFHeld F.h50 (by decide) (by rw [List.length_map]; omega) (far_x (by rw [List.length_map]; exact hz) hf)
  have e2 := cut_x2 (k := k) (S := S) (b := false) (l := r.map (encHb false)) (i := 0) F.toFHeld F.h51 (by decide) (by rw [List.length_map]; omega) (far_x (by rw [List.length_map]; exact hz) hf)
  generalize callN P (k + 5) = C at e e2 ⊢
  rw [show mkS false (r.map (encHb false)) = encR r from rfl] at e e2
  rcases hw with rfl | rfl
  · simp [Pk06.s55_1_0, exL, exS, ev, evL, getVar, permArgs, cmp_eq, evB_wbl, e, R.bind]
  · simp [Pk06.s55_1_0, exL, exS, ev, evL, getVar, permArgs, cmp_eq, evB_wbl, e2, R.bind]
end LC

namespace LC
open G
structure FK07 (P : Prog) : Prop extends FHeld P where
  D : FDraw P
  h11 : P.fn 11 = some Pk02.d11
  h25 : P.fn 25 = some Pk02.d25
  h45 : P.fn 45 = some Pk71.d45
  h50 : P.fn 50 = some Pk06.d50
  h52 : P.fn 52 = some Pk06.d52
  h54 : P.fn 54 = some Pk06.d54
  h57 : P.fn 57 = some Pk07.d57
  h58 : P.fn 58 = some Pk07.d58
  h59 : P.fn 59 = some Pk07.d59
  h60 : P.fn 60 = some Pk07.d60
  h61 : P.fn 61 = some Pk07.d61
  h62 : P.fn 62 = some Pk07.d62
  h63 : P.fn 63 = some Pk07.d63
  h64 : P.fn 64 = some Pk07.d64
  h65 : P.fn 65 = some Pk07.d65
  h66 : P.fn 66 = some Pk07.d66
  h18 : P.fn 18 = some Pk07.d18
  hb : P.base 7 = 1
theorem fineR7 {r : Room} (hl : r.length < 10000) (hs : size r < 10000) : fine 5 (encR r) = true := by
  simp only [encR, fine, Bool.and_eq_true, List.all_eq_true, decide_eq_true_eq, List.length_map]
  refine ⟨hl, fun x hx => ?_⟩
  obtain ⟨h, hh, rfl⟩ := List.mem_map.mp hx
  obtain ⟨j, hj, e⟩ := List.mem_iff_getElem.mp hh
  have hle : h.length ≤ size r := len_le (i := j) (by rw [List.getElem?_eq_some_iff]; exact ⟨hj, e⟩)
  simp only [encH, fine, Bool.and_eq_true, List.all_eq_true, decide_eq_true_eq, List.length_map]
  refine ⟨by omega, fun x hx => ?_⟩
  obtain ⟨p, _, rfl⟩ := List.mem_map.mp hx
  simp [fine, encP]
theorem fineU {o : Option (Int × Int × Nat)} : fine 2 (encU o) = true := by
  rcases o with _ | ⟨i, j, n⟩
  · rfl
  · simp [encU, fine]
theorem unl7 {P : Prog} (F : FK07 P) {b : Bool} {k : Nat} {S : Store} {r s : Room} (hs : size r < 10000) (hs2 : size s < 10000) (hlen : r.length < 1000) (hrs : r.length = s.length) {Q : PV → Store → Prop} (q : Q (encU (unl r s (prs r.length))) S) : wp (callN P (k + 6) 59 [encRb b r, encRb b s] S) Q :=
  unlike2 F.toFHeld F.h50 F.h52 F.h57 F.h58 F.h59 (fun hl _ q => pairs2 F.h52 hl q) hs hs2 hlen hrs q
theorem held_ones {h : Heap} (h1 : ∀ p ∈ h, p.1 = 1) : (h.flatMap fun p => if p.1 = 1 then [p.2] else []) = h.map (·.2) := by
  induction h with
  | nil => rfl
  | cons p h ih =>
    rw [List.flatMap_cons, ih fun q hq => h1 q (List.mem_cons_of_mem _ hq), if_pos (h1 p List.mem_cons_self)]
    rfl
theorem line_ones {h : Heap} (h1 : ∀ p ∈ h, p.1 = 1) : line [h, []] 0 1 = h.map (·.2) := by
  simp [line, held, held_ones h1]
theorem words_unl {h : Heap} {n : Nat} (h1 : ∀ p ∈ h, p.1 = 1) (hn : n < h.length) : unl [h, []] [h.take n, []] (prs 2) = some (0, 1, n) := by
  have e : prs 2 = [(0, 1)] := by decide
  rw [e]
  have l1 := line_ones h1
  have l2 := line_ones (h := h.take n) fun p hp => h1 p (List.mem_of_mem_take hp)
  simp only [unl, Int.toNat_zero, Int.toNat_one, l1, l2]
  rw [apart_at (n := n)]
  · rw [List.map_take, List.getElem?_take, if_neg (by omega), List.getElem?_map, List.getElem?_eq_getElem hn]
    simp
  · rw [List.map_take, List.take_take, Nat.min_self]
theorem mul3' {v : PV} {S : Store} : binop false .mul (.fl [v]) (.int 3) S = .ok (.fl [v, v, v]) S := by
  simp [binop, mulL, lstOf, sizeL, newList]
theorem mul2' {v : PV} {S : Store} : binop false .mul (.fl [v]) (.int 2) S = .ok (.fl [v, v]) S := by
  simp [binop, mulL, lstOf, sizeL, newList]
theorem add_fl7 {a b : List PV} {S : Store} (h : a.length + b.length ≤ sizeL) : binop false .add (.fl a) (.fl b) S = .ok (.fl (a ++ b)) S := by
  simp [binop, addL, lstOf, newList, h]
/-- the rest of the law's step, once the rooms are of one size -/
theorem rest7 {P : Prog} (F : FK07 P) {k n : Nat} {S : Store} {a b c : Int} {r s : Room} {x3 x4 x5 x6 x7 x8 : Option PV} (hn : n < S.length) (hl : r.length < 1000) (hs : size r < 7500) (hs2 : size s < 7500) (hrs : r.length = s.length) {Q : PV → Store → Prop} (q : ∀ a' b' c', Q (.bl true) (S.set n (box a' b' c'))) :
    wp (exL P (callN P (k + 11)) [Pk07.s66_3, Pk07.s66_4, Pk07.s66_5, Pk07.s66_6, Pk07.s66_7, Pk07.s66_8, Pk07.s66_9] [some (.loc n), some (encR r), some (encR s), x3, x4, x5, x6, x7, x8] (S.set n (box a b c)))
      (fun fl S1 => match fl with
        | .rt v => wp (gcR 1 S S1 v) Q
        | .nx _ => wp (gcR 1 S S1 .non) Q
        | _ => False) := by
  have hg : ∀ a b c, (S.set n (box a b c))[n]? = some (box a b c) := fun a b c => set_self hn
  have l2 : ∀ (u v : PV) (S : Store), newList false [u, v] S = .ok (.fl [u, v]) S := fun u v S => by unfold newList; rw [if_pos (by simp [sizeL]), if_neg Bool.false_ne_true]
  have l1 : ∀ (u : PV) (S : Store), newList false [u] S = .ok (.fl [u]) S := fun u S => by unfold newList; rw [if_pos (by simp [sizeL]), if_neg Bool.false_ne_true]
  (refine wp_cons ?_; generalize hQQ : seqF _ _ = QQ; simp -implicitDefEqProofs [exS, ev, evL, evI, evO, asgT, asgTs, seqOf_tup, seqOf_fl, getVar, permArgs, wipeE, evAnd, wp_bind, wp_ok, ok_bind, wp_evB, tr_bl, Pk07.s66_3]; subst hQQ)
  refine lapart_ok F.h25 F.h54 F.h61 F.h64 (by omega) (by omega) hl hrs ?_
  simp only [seqF]
  have sym : unl s r (prs s.length) = unl r s (prs r.length) := by rw [← hrs]; exact unl_symm
  have fU := fineU (o := unl r s (prs r.length))
  (refine wp_cons ?_; generalize hQQ : seqF _ _ = QQ; simp -implicitDefEqProofs [exS, ev, evL, evI, evO, asgT, asgTs, seqOf_tup, seqOf_fl, getVar, permArgs, wipeE, evAnd, wp_bind, wp_ok, ok_bind, wp_evB, tr_bl, Pk07.s66_4]; subst hQQ)
  rw [encR_false, encR_false]
  refine unl7 F (b := false) (by omega) (by omega) hl hrs ?_
  rw [← encR_false, ← encR_false]
  refine listed_ok F.h11 5 (k := k + 6) (by decide) (fineR7 (by omega) (by omega)) ?_
  refine listed_ok F.h11 5 (k := k + 6) (by decide) (fineR7 (by omega) (by omega)) ?_
  rw [listed_room, listed_room]
  refine unl7 F (b := true) (by omega) (by omega) hl hrs ?_
  rw [l2]
  simp only [wp_ok, seqF]
  (refine wp_cons ?_; generalize hQQ : seqF _ _ = QQ; simp -implicitDefEqProofs [exS, ev, evL, evI, evO, asgT, asgTs, seqOf_tup, seqOf_fl, getVar, permArgs, wipeE, evAnd, wp_bind, wp_ok, ok_bind, wp_evB, tr_bl, Pk07.s66_5]; subst hQQ)
  rw [encR_false, encR_false]
  refine unl7 F (b := false) (by omega) (by omega) (by omega) hrs.symm ?_
  rw [← encR_false, ← encR_false, sym]
  generalize unl r s (prs r.length) = U at fU
  rw [l1]
  simp only [wp_ok]
  rw [add_fl7 (by simp [sizeL])]
  simp only [wp_ok]
  rw [l1]
  simp only [wp_ok]
  rw [mul3']
  simp only [wp_ok, List.cons_append, List.nil_append]
  refine same60_ok F.h60 3 (k := k + 8) (by decide) (by simp [fine, fU]) ?_
  simp only [wp_ok, lift, truthy, Bool.not_true, Bool.false_eq_true, if_false]
  rw [if_neg (by decide)]
  refine wp_nil ?_
  simp only [seqF]
  (refine wp_cons ?_; generalize hQQ : seqF _ _ = QQ; simp -implicitDefEqProofs [exS, ev, evL, evI, evO, asgT, asgTs, seqOf_tup, seqOf_fl, getVar, permArgs, wipeE, evAnd, wp_bind, wp_ok, ok_bind, wp_evB, tr_bl, Pk07.s66_6]; subst hQQ)
  refine take_ok (m := 6) F.D.h7 (hg a b c) (by decide) (by decide) fun m a1 b1 c1 m0 m1 => ?_
  rw [List.set_set, bi_add]
  simp only [wp_ok]
  refine wp_rngZ (by omega) (by omega) ?_
  refine wp_comp (fun i acc S' => ∃ (h : Heap), acc = h.map encP ∧ h.length = i ∧ (∀ (u : Nat) (v : List Nat), (u, v) ∈ h → u = 1) ∧ ∃ (a b c : Int), S' = S.set n (box a b c)) ⟨[], rfl, rfl, by simp, a1, b1, c1, rfl⟩ ?_ ?_
  · rintro i x acc S' hx ⟨h, rfl, hi, h0, a2, b2, c2, rfl⟩
    refine ⟨rfl, ?_⟩
    refine wp_noEx ?_
    ((try generalize hQQ : endsF _ _ = QQ); simp -implicitDefEqProofs [exS, ev, evL, evI, evO, asgT, asgTs, seqOf_tup, seqOf_fl, getVar, permArgs, wipeE, evAnd, wp_bind, wp_ok, ok_bind, wp_evB, tr_bl]; (try subst hQQ))
    refine word_ok F.D.h7 F.D.h12 (hg a2 b2 c2) fun w a3 b3 c3 => ?_
    rw [List.set_set]
    rw [newTup_ok (by simp [sizeL])]
    simp only [wp_ok]
    refine ⟨h ++ [(1, w)], by simp [encP], by simp [hi], fun u v hp => ?_, a3, b3, c3, rfl⟩
    rcases List.mem_append.mp hp with hp | hp
    · exact h0 u v hp
    · have := List.mem_singleton.mp hp
      exact (Prod.mk.inj this).1
  · rintro acc S' ⟨h, rfl, hi, h0, a2, b2, c2, rfl⟩
    refine ⟨rfl, ?_⟩
    rw [range_len] at hi
    have h1 : ∀ p ∈ h, p.1 = 1 := fun p hp => h0 p.1 p.2 hp
    refine wp_fl (by rw [List.length_map]; unfold sizeL; omega) ?_
    simp only [cb_tuple_fl, wp_ok, seqF]
    have eh : PV.tup (h.map encP) = encH h := rfl
    rw [eh]
    have elh : ∀ S : Store, callB .len false [encH h] S = .ok (.int h.length) S := fun S => by simp [encH, cb_len_tup]
    (refine wp_cons ?_; generalize hQQ : seqF _ _ = QQ; simp -implicitDefEqProofs [exS, ev, evL, evI, evO, asgT, asgTs, seqOf_tup, seqOf_fl, getVar, permArgs, wipeE, evAnd, wp_bind, wp_ok, ok_bind, wp_evB, tr_bl, Pk07.s66_7, elh]; subst hQQ)
    refine take_ok (m := (h.length : Int)) F.D.h7 (hg a2 b2 c2) (by omega) (by omega) fun t a3 b3 c3 t0 t1 => ?_
    rw [List.set_set]
    simp only [seqF]
    have n0 : ∀ S : Store, newTup [] S = .ok (.tup []) S := fun S => newTup_ok (by simp)
    have n2 : ∀ (u v : PV) (S : Store), newTup [u, v] S = .ok (.tup [u, v]) S := fun u v S => newTup_ok (by simp [sizeL])
    have n3 : ∀ (u v w : PV) (S : Store), newTup [u, v, w] S = .ok (.tup [u, v, w]) S := fun u v w S => newTup_ok (by simp [sizeL])
    have sz1 : size [h, []] = h.length := by simp [size]
    have sz2 : size [h.take t.toNat, []] ≤ h.length := by simp [size]; omega
    have wu := words_unl (h := h) (n := t.toNat) h1 (by omega)
    have wu2 : unl [h.take t.toNat, []] [h, []] (prs 2) = some (0, 1, t.toNat) := by rw [unl_symm]; exact wu
    have et : encU (some (0, 1, t.toNat)) = .tup [.int 0, .int 1, .int t] := by
      have : ((t.toNat : Nat) : Int) = t := by omega
      simp [encU, this]
    have r1 : PV.tup [encH h, .tup []] = encRb false [h, []] := rfl
    have r2 : PV.tup [encH (h.take t.toNat), .tup []] = encRb false [h.take t.toNat, []] := rfl
    have sl1 : ∀ S : Store, slice false (encH h) none (some t) S = .ok (encH (h.take t.toNat)) S := fun S => by rw [slH, cut_take t0]
    (refine wp_cons ?_; generalize hQQ : seqF _ _ = QQ; simp -implicitDefEqProofs [exS, ev, evL, evI, evO, asgT, asgTs, seqOf_tup, seqOf_fl, getVar, permArgs, wipeE, evAnd, wp_bind, wp_ok, ok_bind, wp_evB, tr_bl, Pk07.s66_8, sl1, optI, n0, n2]; subst hQQ)
    rw [r1, r2]
    refine unl7 F (b := false) (r := [h, []]) (s := [h.take t.toNat, []]) (by omega) (by omega) (by simp) rfl ?_
    refine unl7 F (b := false) (r := [h.take t.toNat, []]) (s := [h, []]) (by omega) (by omega) (by simp) rfl ?_
    rw [show ([h, []] : Room).length = 2 from rfl, show ([h.take t.toNat, []] : Room).length = 2 from rfl, wu, wu2, et, l2]
    simp only [wp_ok, seqF]
    (refine wp_cons ?_; generalize hQQ : seqF _ _ = QQ; simp -implicitDefEqProofs [exS, ev, evL, evI, evO, asgT, asgTs, seqOf_tup, seqOf_fl, getVar, permArgs, wipeE, evAnd, wp_bind, wp_ok, ok_bind, wp_evB, tr_bl, Pk07.s66_9, n3, l1, mul2']; subst hQQ)
    refine same60_ok F.h60 3 (k := k + 8) (by decide) (by simp [fine]) ?_
    simp only [wp_ok, lift, truthy, if_true, wp_bind]
    rw [encR_false]
    refine unl7 F (b := false) (by omega) (by omega) hl rfl ?_
    rw [unl_self]
    refine same60_ok F.h60 1 (k := k + 10) (by decide) rfl ?_
    simp only [wp_ok, seqF]
    exact gc_set0 box_plain rfl (q a3 b3 c3)
theorem right7 {P : Prog} (F : FK07 P) {k n : Nat} {S : Store} {a b c : Int} (hS : S[n]? = some (box a b c)) {Q : PV → Store → Prop} (q : ∀ a' b' c', Q (.bl true) (S.set n (box a' b' c'))) : wp (callN P (k + 12) 66 [.loc n] S) Q := by
  have hn : n < S.length := (List.getElem?_eq_some_iff.mp hS).1
  have hg : ∀ a b c, (S.set n (box a b c))[n]? = some (box a b c) := fun a b c => set_self hn
  have h66 := F.h66
  unfold Pk07.d66 at h66
  (refine wp_call h66 rfl ?_; simp only [List.map_cons, List.map_nil, Nat.reduceSub, List.replicate_succ, List.replicate_zero, List.cons_append, List.nil_append])
  (refine wp_cons ?_; generalize hQQ : seqF _ _ = QQ; simp -implicitDefEqProofs [exS, ev, evL, evI, evO, asgT, asgTs, seqOf_tup, seqOf_fl, getVar, permArgs, wipeE, evAnd, wp_bind, wp_ok, ok_bind, wp_evB, tr_bl, Pk07.s66_0]; subst hQQ)
  refine two_ok F.D F.h45 F.h62 F.h63 hS (by decide) (by decide) (by decide) (by decide) (by decide) (by decide) fun r s z a1 b1 c1 r0 r8 rs sz1 sz2 zl => ?_
  ((try generalize hQQ : endsF _ _ = QQ); simp -implicitDefEqProofs [exS, ev, evL, evI, evO, asgT, asgTs, seqOf_tup, seqOf_fl, getVar, permArgs, wipeE, evAnd, wp_bind, wp_ok, ok_bind, wp_evB, tr_bl]; (try subst hQQ))
  simp only [seqF]
  have go : ∀ (s2 : Room) (a2 b2 c2 : Int), size s2 ≤ 7000 → wp (exL P (callN P (k + 11)) [Pk07.s66_2, Pk07.s66_3, Pk07.s66_4, Pk07.s66_5, Pk07.s66_6, Pk07.s66_7, Pk07.s66_8, Pk07.s66_9] [some (.loc n), some (encR r), some (encR s2), some (.fl (z.map .int)), none, none, none, none, none] (S.set n (box a2 b2 c2)))
      (fun fl S1 => match fl with
        | .rt v => wp (gcR 1 S S1 v) Q
        | .nx _ => wp (gcR 1 S S1 .non) Q
        | _ => False) := fun s2 a2 b2 c2 h2 => by
    have cl1 : ∀ S : Store, callB .len false [encR r] S = .ok (.int r.length) S := fun S => by simp [encR, cb_len_tup]
    have cl2 : ∀ S : Store, callB .len false [encR s2] S = .ok (.int s2.length) S := fun S => by simp [encR, cb_len_tup]
    by_cases he : s2.length = r.length
    · have ne : ∀ S : Store, cmpV .ne (.int (s2.length : Int)) (.int (r.length : Int)) S = .ok false S := fun S => by rw [cmp_neI]; simp [he]
      generalize hz1 : (s2.length : Int) = z1 at cl2 ne
      generalize hz2 : (r.length : Int) = z2 at cl1 ne
      (refine wp_cons ?_; generalize hQQ : seqF _ _ = QQ; simp -implicitDefEqProofs [exS, ev, evL, evI, evO, asgT, asgTs, seqOf_tup, seqOf_fl, getVar, permArgs, wipeE, evAnd, wp_bind, wp_ok, ok_bind, wp_evB, tr_bl, Pk07.s66_2, cl1, cl2, ne]; subst hQQ)
      refine wp_nil ?_
      simp only [seqF]
      exact rest7 F hn (by omega) (by omega) (by omega) he.symm q
    · have ne : ∀ S : Store, cmpV .ne (.int (s2.length : Int)) (.int (r.length : Int)) S = .ok true S := fun S => by
        rw [cmp_neI]
        have : ((s2.length : Int) != (r.length : Int)) = true := by simp; omega
        rw [this]
      generalize hz1 : (s2.length : Int) = z1 at cl2 ne
      generalize hz2 : (r.length : Int) = z2 at cl1 ne
      (refine wp_cons ?_; generalize hQQ : seqF _ _ = QQ; simp -implicitDefEqProofs [exS, ev, evL, evI, evO, asgT, asgTs, seqOf_tup, seqOf_fl, getVar, permArgs, wipeE, evAnd, wp_bind, wp_ok, ok_bind, wp_evB, tr_bl, Pk07.s66_2, cl1, cl2, ne]; subst hQQ)
      (refine wp_cons ?_; generalize hQQ : seqF _ _ = QQ; simp -implicitDefEqProofs [exS, ev, evL, evI, evO, asgT, asgTs, seqOf_tup, seqOf_fl, getVar, permArgs, wipeE, evAnd, wp_bind, wp_ok, ok_bind, wp_evB, tr_bl, Pk07.s66_2_0]; subst hQQ)
      refine refused7 (k := k + 8) F.h58 F.h59 F.h65 F.hb (fun e => he e.symm) ?_
      rw [tr_bl, if_neg (by decide), wp_bind, wp_evB]
      refine refused7 (k := k + 8) F.h58 F.h59 F.h65 F.hb he ?_
      rw [tr_bl, wp_ok, tr_bl, if_neg (by decide)]
      refine wp_nil ?_
      simp only [seqF]
      (refine wp_cons ?_; generalize hQQ : seqF _ _ = QQ; simp -implicitDefEqProofs [exS, ev, evL, evI, evO, asgT, asgTs, seqOf_tup, seqOf_fl, getVar, permArgs, wipeE, evAnd, wp_bind, wp_ok, ok_bind, wp_evB, tr_bl, Pk07.s66_2_1]; subst hQQ)
      refine wp_nil ?_
      simp only [seqF]
      exact rest7 F hn (by omega) (by omega) (by omega) rfl q
  (refine wp_cons ?_; generalize hQQ : seqF _ _ = QQ; simp -implicitDefEqProofs [exS, ev, evL, evI, evO, asgT, asgTs, seqOf_tup, seqOf_fl, getVar, permArgs, wipeE, evAnd, wp_bind, wp_ok, ok_bind, wp_evB, tr_bl, Pk07.s66_1]; subst hQQ)
  refine take_ok (m := 4) F.D.h7 (hg a1 b1 c1) (by decide) (by decide) fun w a2 b2 c2 w0 w1 => ?_
  rw [List.set_set, cmp_eq]
  simp only [wp_ok]
  by_cases hw : w = 0
  · subst hw
    simp only [beq_self_eq_true, if_true]
    (refine wp_cons ?_; generalize hQQ : seqF _ _ = QQ; simp -implicitDefEqProofs [exS, ev, evL, evI, evO, asgT, asgTs, seqOf_tup, seqOf_fl, getVar, permArgs, wipeE, evAnd, wp_bind, wp_ok, ok_bind, wp_evB, tr_bl, Pk07.s66_1_0]; subst hQQ)
    refine room_ok F.D.h7 F.D.h12 F.D.h13 (hg a2 b2 c2) (by decide) (by decide) (by decide) (by decide) fun s2 a3 b3 c3 gr2 l02 l82 sz3 => ?_
    rw [List.set_set]
    simp only [seqF, List.set_cons_succ, List.set_cons_zero]
    refine wp_nil ?_
    simp only [seqF]
    exact go s2 a3 b3 c3 (by omega)
  · have hub : (w == 0) = false := by simpa using hw
    rw [hub]
    simp only [Bool.false_eq_true, if_false]
    refine wp_nil ?_
    simp only [seqF]
    exact go s a2 b2 c2 (by omega)
end LC

namespace LC
open G
theorem law07 {P : Prog} (F : FK07 P) {k : Nat} {ns : List Int} (hn : ns.length ≤ 63) : wp (callN P (k + 13) 18 [.scr (ns.map .int)] []) fun v _ => v = .bl true := by
  have h18 := F.h18
  unfold Pk07.d18 at h18
  (refine wp_call h18 rfl ?_; simp only [List.map_cons, List.map_nil, Nat.reduceSub, List.replicate_succ, List.replicate_zero, List.cons_append, List.nil_append])
  (refine wp_cons ?_; generalize hQQ : seqF _ _ = QQ; simp -implicitDefEqProofs [exS, ev, evL, evI, evO, asgT, asgTs, seqOf_tup, seqOf_fl, getVar, permArgs, wipeE, evAnd, wp_bind, wp_ok, ok_bind, wp_evB, tr_bl, Pk07.s18_0]; subst hQQ)
  refine cells_ok F.D.h8 hn (by decide) (by decide) fun l l0 l63 => ?_
  simp only [seqF]
  generalize hz : (l.length : Int) = z
  have c1 : ∀ S : Store, callB .len false [.fl (l.map .int)] S = .ok (.int z) S := fun S => by rw [← hz]; simp [cb_len_fl]
  (refine wp_cons ?_; generalize hQQ : seqF _ _ = QQ; simp -implicitDefEqProofs [exS, ev, evL, evI, evO, asgT, asgTs, seqOf_tup, seqOf_fl, getVar, permArgs, wipeE, evAnd, wp_bind, wp_ok, ok_bind, wp_evB, tr_bl, Pk07.s18_1, c1]; subst hQQ)
  refine wp_rngZ (by omega) (by omega) ?_
  refine wp_for (fun i env S' => ∃ x2 x3 x4, env = [some (.scr (ns.map .int)), some (.fl (l.map .int)), x2, x3, x4]) ⟨none, none, none, rfl⟩ ?_ ?_
  · rintro i x env S' hx ⟨x2, x3, x4, rfl⟩
    obtain ⟨hlt, rfl⟩ := range_at hx
    refine ⟨rfl, ?_⟩
    generalize hxi : (0 + (i : Int)) = xi
    ((try generalize hQQ : endsF _ _ = QQ); simp -implicitDefEqProofs [exS, ev, evL, evI, evO, asgT, asgTs, seqOf_tup, seqOf_fl, getVar, permArgs, wipeE, evAnd, wp_bind, wp_ok, ok_bind, wp_evB, tr_bl]; (try subst hQQ))
    (refine wp_cons ?_; generalize hQQ : seqF _ _ = QQ; simp -implicitDefEqProofs [exS, ev, evL, evI, evO, asgT, asgTs, seqOf_tup, seqOf_fl, getVar, permArgs, wipeE, evAnd, wp_bind, wp_ok, ok_bind, wp_evB, tr_bl, Pk07.s18_1_0]; subst hQQ)
    refine box_ok F.D.h6 (by omega) (by omega) l63 fun a b c => ?_
    simp only [seqF]
    have hS : (S' ++ [box a b c])[S'.length]? = some (box a b c) := get_last
    (refine wp_cons ?_; generalize hQQ : seqF _ _ = QQ; simp -implicitDefEqProofs [exS, ev, evL, evI, evO, asgT, asgTs, seqOf_tup, seqOf_fl, getVar, permArgs, wipeE, evAnd, wp_bind, wp_ok, ok_bind, wp_evB, tr_bl, Pk07.s18_1_1]; subst hQQ)
    refine wp_rng1 (j := 4) (by decide) ?_
    refine wp_comp_tt (fun T => ∃ a b c, T = S' ++ [box a b c]) ⟨a, b, c, rfl⟩ (fun _ _ => rfl) (fun x hx T hT => ?_) fun l T hl hl2 hT => ?_
    · obtain ⟨a, b, c, rfl⟩ := hT
      refine wp_noEx ?_
      ((try generalize hQQ : endsF _ _ = QQ); simp -implicitDefEqProofs [exS, ev, evL, evI, evO, asgT, asgTs, seqOf_tup, seqOf_fl, getVar, permArgs, wipeE, evAnd, wp_bind, wp_ok, ok_bind, wp_evB, tr_bl]; (try subst hQQ))
      refine right7 F get_last fun a' b' c' => ?_
      rw [set_last]
      first
        | exact ⟨rfl, a', b', c', rfl⟩
        | exact wp_val ⟨rfl, a', b', c', rfl⟩
    · obtain ⟨a, b, c, rfl⟩ := hT
      refine wp_fl (by rw [hl, range_len]; decide) ?_
      rw [all_tt hl2]
      simp only [wp_ok, lift, truthy, Bool.not_true, Bool.false_eq_true, if_false]
      rw [if_neg (by decide)]
      refine wp_nil ?_
      simp only [seqF]
      refine wp_nil ?_
      exact ⟨some (.int xi), some (.loc S'.length), x4, rfl⟩
  · rintro env S' ⟨x2, x3, x4, rfl⟩
    refine ⟨rfl, ?_⟩
    simp only [seqF]
    (refine wp_cons ?_; generalize hQQ : seqF _ _ = QQ; simp -implicitDefEqProofs [exS, ev, evL, evI, evO, asgT, asgTs, seqOf_tup, seqOf_fl, getVar, permArgs, wipeE, evAnd, wp_bind, wp_ok, ok_bind, wp_evB, tr_bl, Pk07.s18_2]; subst hQQ)
    simp only [seqF]
    have e : ([] : Store) ++ S' = S' := rfl
    rw [← e]
    exact gc_same rfl rfl
end LC

namespace Pk07
open G LC
theorem law_true (ns : List Int) (h : ns.length ≤ 63) : ∃ S', callN prog 98 18 [.scr (ns.map .int)] [] = .ok (.bl true) S' := by
  obtain ⟨v, S', e, rfl⟩ := (law07 (P := prog) (k := 85) ⟨⟨rfl, rfl, rfl, rfl⟩, ⟨rfl, rfl, rfl, rfl, rfl, rfl, rfl, rfl, rfl⟩, rfl, rfl, rfl, rfl, rfl, rfl, rfl, rfl, rfl, rfl, rfl, rfl, rfl, rfl, rfl, rfl, rfl, rfl⟩ h).ex
  exact ⟨S', e⟩
end Pk07

open PySem PySem.W PySem.Calls PyProof.Rows
set_option maxHeartbeats 0 in
theorem PySem.Challenge.cw_grudgecote_k07_the_first_unlike_line_holds : PySem.Challenge.rw_grudgecote_k07_the_first_unlike_line.Holds := by
  w_on; o_law
  refine HandSHeadRun.head_any (r := OpenLaw.row PySem.Challenge.rw_grudgecote_k07_the_first_unlike_line) (q := view (OpenLaw.row PySem.Challenge.rw_grudgecote_k07_the_first_unlike_line).prog [36]) (H := Pk07.hk) (ob := Pk07.ob) (M := 2000) (loose := Pk07.loose) (d := HandSHeadRun.topDef (OpenLaw.row PySem.Challenge.rw_grudgecote_k07_the_first_unlike_line).prog 36) (kwd := []) Pk07.ob_eq
    (by kernel_rfl) (fun s => by kernel_rfl) Pk07.run (by kernel_rfl) (by kernel_rfl) (by kernel_rfl) (by rfl) (by first | assumption | decide +kernel) (by decide +kernel) ⟨rfl, rfl, rfl, rfl, rfl, by decide +kernel⟩ ?hw ?hc
  case hw => w_witness2
  case hc =>
    refine G.walk_w (l := PySem.Challenge.rw_grudgecote_k07_the_first_unlike_line) (n := 63) (k := 100) (x := "_law_script") rfl (by decide) (by kernel_rfl) ⟨rfl, by decide, by decide⟩ ?F
    intro w mg fa h Y Gm hmg0
    obtain ⟨K, KX, c, d⟩ := Y
    have hmg : mg ("law" : PySem.Str) = some (.ref fa) := by
      have e : (HandSHeadRun.topDef (OpenLaw.row PySem.Challenge.rw_grudgecote_k07_the_first_unlike_line).prog 36).name = ("law" : PySem.Str) := by kernel_rfl
      rw [← e]
      exact hmg0
    obtain ⟨fd, hb, hF⟩ := Pk07.facts (P := (PySem.Challenge.rw_grudgecote_k07_the_first_unlike_line).prog) (w := w) KX Gm hmg c d
    refine ⟨K, fd, _, KX, hb, fun H a ns hl hS => ?_, fun base => hF base⟩
    obtain ⟨S', e⟩ := Pk07.law_true ns hl
    exact G.spec_law hl hS e

