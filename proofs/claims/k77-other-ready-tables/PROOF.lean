import PyProof.Rows.All
import Wide.All
import OpenK.AllK
import Wide.FinOn
import HandS.ForMost
import HandS.ForExc
import HandS.Strs
import HandS.IsInst
import HandS.Deep
import HandS.TupAny
import HandS.Zip
import HandS.Star
import HandS.Style
import HandS.Flow
import KE.KDictPairs
import KE.KSortedM
import HandS.Sort
import HandS.SortInts
import HandS.CallSlots
import KE.GoesEnum
import HandS.Iter
import HandS.SetBool
import HandS.Exc
import HandS.ExcOwn
import HandS.ExcInit
import HandS.ExcIs
import HandS.ExcField
import KE.KExcIs
import HandS.Defaults
import HandS.HeadHook4
import HandS.HeadEnd
import KE.KStateDown
import HandS.WordsExc
import HandS.Head3
import PySem.Challenge.RW_holepartner_k77_other_ready_tables
set_option Elab.async false
-- part EvCore
set_option Elab.async false
set_option linter.all false
/-! A small evaluator of data, lists by places, and what the text's constructs do with them. -/
namespace EV

/-- a value: immutable ones whole, a mutable object by its place in the store (lst: a list that nobody changes, whole; exn: a caught exception) -/
inductive D where
  | non | bl (b : Bool) | int (i : Int) | str (x : List Nat) | tup (xs : List D) | lst (xs : List D) | ref (i : Nat) | exn (c : Nat) (vs : List D)
  deriving Inhabited

/-- what stands in the store -/
inductive O where
  | lst (xs : List D) | frz (xs : List D) | dct (kvs : List (D × D)) | fdc (kvs : List (D × D)) | iset (xs : List Int)
  deriving Inhabited

abbrev Sto := List O
abbrev Env := List (Option D)

structure Exn where
  cls : Nat
  vs : List D

inductive Res (α : Type) where
  | ok (a : α) (st : Sto) | exc (x : Exn) (st : Sto) | bad

def Res.bind {α β : Type} (r : Res α) (f : α → Sto → Res β) : Res β := match r with
  | .ok a st => f a st
  | .exc x st => .exc x st
  | .bad => .bad

abbrev Call := Nat → List D → Sto → Res D
abbrev M (α : Type) := Call → Env → Sto → Res α

/-- the end of a statement -/
inductive SR where
  | nx (env : Env) (st : Sto) | rt (d : D) (st : Sto) | bk (env : Env) (st : Sto) | ct (env : Env) (st : Sto) | exc (x : Exn) (env : Env) (st : Sto) | bad
abbrev S := Call → Env → Sto → SR

def line : Nat := 16777216

/-! ### looks at values -/
mutual
def noRef : D → Bool
  | .tup xs => noRefs xs
  | .ref _ => false
  | .lst xs => noRefs xs
  | .exn _ _ => false
  | _ => true
def noRefs : List D → Bool
  | [] => true
  | d :: ds => noRef d && noRefs ds
end
mutual
/-- every place is below n -/
def below (n : Nat) : D → Bool
  | .tup xs => belows n xs
  | .ref i => Nat.blt i n
  | .lst xs => belows n xs
  | .exn _ _ => false
  | _ => true
def belows (n : Nat) : List D → Bool
  | [] => true
  | d :: ds => below n d && belows n ds
end
mutual
/-- places moved up -/
def shift (n : Nat) : D → D
  | .tup xs => .tup (shifts n xs)
  | .lst xs => .lst (shifts n xs)
  | .ref i => .ref (n + i)
  | d => d
def shifts (n : Nat) : List D → List D
  | [] => []
  | d :: ds => shift n d :: shifts n ds
end
def shiftKV (n : Nat) : List (D × D) → List (D × D)
  | [] => []
  | (k, v) :: r => (shift n k, shift n v) :: shiftKV n r
def O.shift (n : Nat) : O → O
  | .lst xs => .lst (shifts n xs)
  | .frz xs => .frz (shifts n xs)
  | .dct kvs => .dct (shiftKV n kvs)
  | .fdc kvs => .fdc (shiftKV n kvs)
  | .iset xs => .iset xs
def belowKV (n : Nat) : List (D × D) → Bool
  | [] => true
  | (k, v) :: r => below n k && below n v && belowKV n r
def O.below (n : Nat) : O → Bool
  | .lst xs => belows n xs
  | .frz xs => belows n xs
  | .dct kvs => belowKV n kvs
  | .fdc kvs => belowKV n kvs
  | .iset _ => true
def allBelow (n : Nat) : Sto → Bool
  | [] => true
  | o :: st => O.below n o && allBelow n st

def isRef : D → Option Nat
  | .ref i => some i
  | _ => none

def truth (d : D) (st : Sto) : Option Bool := match d with
  | .non => some false
  | .bl b => some b
  | .int i => some (i != 0)
  | .str x => some (!x.isEmpty)
  | .tup xs => some (!xs.isEmpty)
  | .ref i => match st[i]? with
    | some (.lst xs) => some (!xs.isEmpty)
    | some (.frz xs) => some (!xs.isEmpty)
    | some (.dct kvs) => some (!kvs.isEmpty)
    | _ => none
  | _ => none

mutual
/-- == of data -/
def eqT : D → D → Bool
  | .non, .non => true
  | .bl a, .bl b => a == b
  | .bl a, .int j => (if a then 1 else 0) == j
  | .int i, .bl b => i == (if b then 1 else 0)
  | .int i, .int j => i == j
  | .str x, .str y => x == y
  | .lst xs, .lst ys => eqTs xs ys
  | .tup xs, .tup ys => eqTs xs ys
  | _, _ => false
def eqTs : List D → List D → Bool
  | [], [] => true
  | x :: xs, y :: ys => eqT x y && eqTs xs ys
  | _, _ => false
end

/-- a value with its lists written out; at most so deep -/
def tree (st : Sto) : Nat → D → Option D
  | 0, _ => none
  | n + 1, d => match d with
    | .tup xs => (trees (tree st n) xs).map .tup
    | .ref i => match st[i]? with
      | some (.lst xs) => (trees (tree st n) xs).map .lst
      | some (.frz xs) => (trees (tree st n) xs).map .lst
      | _ => none
    | .lst xs => (trees (tree st n) xs).map .lst
    | .exn _ _ => none
    | d => some d
where
  trees (f : D → Option D) : List D → Option (List D)
  | [] => some []
  | d :: ds => match f d with
    | some x => match trees f ds with
      | some xs => some (x :: xs)
      | none => none
    | none => none

def eqD (a b : D) (st : Sto) : Option Bool := match tree st 60 a, tree st 60 b with
  | some x, some y => some (eqT x y)
  | _, _ => none
/-- is one of the items equal -/
def inT (x : D) : List D → Bool
  | [] => false
  | y :: ys => eqT y x || inT x ys
def eqAny (a : D) (st : Sto) (bs : List D) : Option Bool := match tree st 60 a, tree.trees (tree st 59) bs with
  | some x, some ys => some (inT x ys)
  | _, _ => none
/-- the first equal one -/
def placeT (x : D) : Nat → List D → Option Nat
  | _, [] => none
  | n, y :: ys => if eqT y x then some n else placeT x (n + 1) ys
def placeD (a : D) (st : Sto) (bs : List D) : Option Nat := match tree st 60 a, tree.trees (tree st 59) bs with
  | some x, some ys => placeT x 0 ys
  | _, _ => none

/-! ### dicts: keys are intsD and texts -/
def keyOk : D → Bool
  | .int _ => true
  | .str _ => true
  | _ => false
def keyEq : D → D → Bool
  | .int i, .int j => i == j
  | .str x, .str y => x == y
  | _, _ => false
def getK (k : D) : List (D × D) → Option D
  | [] => none
  | (a, v) :: r => if keyEq k a then some v else getK k r
def replK (k v : D) : List (D × D) → List (D × D)
  | [] => []
  | (a, w) :: r => (if keyEq k a then (a, v) else (a, w)) :: replK k v r
def putKV (k v : D) (kvs : List (D × D)) : List (D × D) := if (getK k kvs).isSome then replK k v kvs else kvs ++ [(k, v)]

/-! ### values made -/
def alloc (o : O) (st : Sto) : Res D := .ok (.ref st.length) (st ++ [o])
def strOk (x : List Nat) : Bool := Nat.ble x.length line
def mkTup (xs : List D) (st : Sto) : Res D := if Nat.ble xs.length line then .ok (.tup xs) st else .bad
def mkLst (xs : List D) (st : Sto) : Res D := if Nat.ble xs.length line then alloc (.lst xs) st else .bad
/-- the items of a tuple, a list -/
def seqOf (d : D) (st : Sto) : Option (List D) := match d with
  | .tup xs => some xs
  | .ref i => match st[i]? with
    | some (.lst xs) => some xs
    | some (.frz xs) => some xs
    | _ => none
  | _ => none

/-! ### operators -/
abbrev Op2 := D → D → Sto → Res D
def opAdd : Op2 := fun a b st => match a, b with
  | .int i, .int j => .ok (.int (i + j)) st
  | .str x, .str y => if strOk (x ++ y) then .ok (.str (x ++ y)) st else .bad
  | .tup xs, .tup ys => mkTup (xs ++ ys) st
  | .ref i, .ref j => match st[i]?, st[j]? with
    | some (.lst xs), some (.lst ys) => mkLst (xs ++ ys) st
    | _, _ => .bad
  | _, _ => .bad
def opSub : Op2 := fun a b st => match a, b with
  | .int i, .int j => .ok (.int (i - j)) st
  | _, _ => .bad
def small62 (i : Int) : Bool := decide (-4611686018427387904 ≤ i) && decide (i < 4611686018427387904)
def small64 (i : Int) : Bool := Nat.blt i.natAbs 18446744073709551616
def opMul : Op2 := fun a b st => match a, b with
  | .int i, .int j => if small64 i || small64 j then .ok (.int (i * j)) st else .bad
  | .ref i, .int k => match st[i]? with
    | some (.lst xs) => if small62 k && Nat.ble (xs.length * k.toNat) line then alloc (.lst (List.replicate k.toNat xs).flatten) st else .bad
    | _ => .bad
  | _, _ => .bad
def opFdiv : Op2 := fun a b st => match a, b with
  | .int i, .int j => if decide (0 < j) && decide (j < 1073741824) then .ok (.int (i / j)) st else .bad
  | _, _ => .bad
def opMod : Op2 := fun a b st => match a, b with
  | .int i, .int j => if decide (0 < j) then .ok (.int (i % j)) st else .bad
  | _, _ => .bad
def opPow : Op2 := fun a b st => match a, b with
  | .int i, .int j => if decide (0 ≤ j) && decide (j ≤ 1000000) && small64 i then .ok (.int (i ^ j.toNat)) st else .bad
  | _, _ => .bad

def retB (b : Option Bool) (st : Sto) : Res D := match b with
  | some b => .ok (.bl b) st
  | none => .bad
def opEq : Op2 := fun a b st => retB (eqD a b st) st
def opNe : Op2 := fun a b st => retB ((eqD a b st).map (!·)) st
def opLt : Op2 := fun a b st => match a, b with
  | .int i, .int j => .ok (.bl (decide (i < j))) st
  | .str x, .str y => .ok (.bl (decide (x < y))) st
  | _, _ => .bad
def opLe : Op2 := fun a b st => match a, b with
  | .int i, .int j => .ok (.bl (decide (i ≤ j))) st
  | _, _ => .bad
def opGt : Op2 := fun a b st => match a, b with
  | .int i, .int j => .ok (.bl (decide (j < i))) st
  | _, _ => .bad
def opGe : Op2 := fun a b st => match a, b with
  | .int i, .int j => .ok (.bl (decide (j ≤ i))) st
  | _, _ => .bad
/-- x is None; of truth values -/
def isD : D → D → Option Bool
  | .exn _ _, _ => none
  | .lst _, _ => none
  | .non, .non => some true
  | _, .non => some false
  | .bl a, .bl b => some (decide (a = b))
  | _, _ => none
def opIs : Op2 := fun a b st => retB (isD a b) st
def opIsnt : Op2 := fun a b st => retB ((isD a b).map (!·)) st
def inD (a b : D) (st : Sto) : Option Bool := match a, b with
  | .str [c], .str y => some (y.contains c)
  | .str _, .str _ => none
  | a, .tup xs => eqAny a st xs
  | a, .ref i => match st[i]? with
    | some (.lst xs) => eqAny a st xs
    | some (.frz xs) => eqAny a st xs
    | some (.dct kvs) => if keyOk a then some (getK a kvs).isSome else none
    | some (.fdc kvs) => if keyOk a then some (getK a kvs).isSome else none
    | _ => none
  | _, _ => none
def opIn : Op2 := fun a b st => retB (inD a b st) st
def opNotin : Op2 := fun a b st => retB ((inD a b st).map (!·)) st

def opIx : Op2 := fun a b st => match a, b with
  | .tup xs, .int i => match L2.atI xs i with
    | some d => .ok d st
    | none => .bad
  | .lst xs, .int i => match L2.atI xs i with
    | some d => .ok d st
    | none => .bad
  | .str x, .int i => match L2.atI x i with
    | some c => .ok (.str [c]) st
    | none => .bad
  | .ref r, k => match st[r]?, k with
    | some (.lst xs), .int i => match L2.atI xs i with
      | some d => .ok d st
      | none => .bad
    | some (.frz xs), .int i => match L2.atI xs i with
      | some d => .ok d st
      | none => .bad
    | some (.dct kvs), k => if keyOk k then (match getK k kvs with
      | some d => .ok d st
      | none => .bad) else .bad
    | some (.fdc kvs), k => if keyOk k then (match getK k kvs with
      | some d => .ok d st
      | none => .bad) else .bad
    | _, _ => .bad
  | _, _ => .bad
/-- a slice -/
def cutOf {α : Type} (xs : List α) (lo hi : Option Int) : List α := (xs.drop (HT.sIx xs.length 0 lo)).take (HT.sIx xs.length xs.length hi - HT.sIx xs.length 0 lo)
def opSlice (a : D) (lo hi : Option Int) (st : Sto) : Res D := match a with
  | .tup xs => .ok (.tup (cutOf xs lo hi)) st
  | .lst xs => alloc (.lst (cutOf xs lo hi)) st
  | .str x => .ok (.str (cutOf x lo hi)) st
  | .ref i => match st[i]? with
    | some (.lst xs) => alloc (.lst (cutOf xs lo hi)) st
    | some (.frz xs) => alloc (.lst (cutOf xs lo hi)) st
    | _ => .bad
  | _ => .bad

/-! ### built-in calls by values -/
abbrev BF := List D → Sto → Res D
inductive Ty where
  | int | bool | str | tuple | list | dict
  deriving DecidableEq
def tyOf (d : D) (st : Sto) : Option (Option Ty) := match d with
  | .non => some none
  | .bl _ => some (some .bool)
  | .int _ => some (some .int)
  | .str _ => some (some .str)
  | .tup _ => some (some .tuple)
  | .lst _ => some (some .list)
  | .ref i => match st[i]? with
    | some (.lst _) => some (some .list)
    | some (.frz _) => some (some .list)
    | some (.dct _) => some (some .dict)
    | some (.fdc _) => some (some .dict)
    | _ => none
  | _ => none
def subTy (t : Option Ty) (u : Ty) : Bool := match t with
  | none => false
  | some t => if t = u then true else match t, u with
    | .bool, .int => true
    | _, _ => false
def subAny (t : Option Ty) : List Ty → Bool
  | [] => false
  | u :: us => subTy t u || subAny t us
def bIsinst (us : List Ty) (d : D) (st : Sto) : Res D := match tyOf d st with
  | some t => .ok (.bl (subAny t us)) st
  | none => .bad
def bLen : BF := fun ds st => match ds with
  | [.str x] => .ok (.int x.length) st
  | [.tup xs] => .ok (.int xs.length) st
  | [.lst xs] => .ok (.int xs.length) st
  | [.ref i] => match st[i]? with
    | some (.lst xs) => .ok (.int xs.length) st
    | some (.frz xs) => .ok (.int xs.length) st
    | some (.dct kvs) => .ok (.int kvs.length) st
    | _ => .bad
  | _ => .bad
def bls : List D → Option (List Bool)
  | [] => some []
  | .bl b :: r => (bls r).map (b :: ·)
  | _ => none
def intsD : List D → Option (List Int)
  | [] => some []
  | .int i :: r => (intsD r).map (i :: ·)
  | _ => none
def lstAt (d : D) (st : Sto) : Option (List D) := match d with
  | .ref i => match st[i]? with
    | some (.lst xs) => some xs
    | some (.frz xs) => some xs
    | _ => none
  | _ => none
def bAll : BF := fun ds st => match ds with
  | [d] => match (lstAt d st).bind bls with
    | some bs => .ok (.bl (bs.all id)) st
    | none => .bad
  | _ => .bad
def bAny : BF := fun ds st => match ds with
  | [d] => match (lstAt d st).bind bls with
    | some bs => .ok (.bl (bs.any id)) st
    | none => .bad
  | _ => .bad
def bSum : BF := fun ds st => match ds with
  | [d] => match (lstAt d st).bind intsD with
    | some ns => .ok (.int ns.sum) st
    | none => .bad
  | _ => .bad
def lstF (d : D) (st : Sto) : Res D := match lstAt d st with
  | some xs => .ok (.tup xs) st
  | none => .bad
def tupF (d : D) (st : Sto) : Res D := match d with
  | .tup xs => .ok (.tup xs) st
  | d => lstF d st
def bTuple : BF := fun ds st => match ds with
  | [d] => tupF d st
  | _ => .bad
def bInt : BF := fun ds st => match ds with
  | [.int i] => .ok (.int i) st
  | [.bl b] => .ok (.int (if b then 1 else 0)) st
  | _ => .bad
def bAbs : BF := fun ds st => match ds with
  | [.int i] => .ok (.int (if i < 0 then -i else i)) st
  | _ => .bad
def bMax : BF := fun ds st => match ds with
  | [.int i, .int j] => .ok (.int (if j > i then j else i)) st
  | _ => .bad
def bMin : BF := fun ds st => match ds with
  | [.int i, .int j] => .ok (.int (if j < i then j else i)) st
  | _ => .bad
def insI (i : Int) : List Int → List Int
  | [] => [i]
  | j :: r => if i ≤ j then i :: j :: r else j :: insI i r
def sortI : List Int → List Int
  | [] => []
  | i :: r => insI i (sortI r)
/-- sorted: of a list of intsD, of a set of intsD -/
def bSorted : BF := fun ds st => match ds with
  | [.ref i] => match st[i]? with
    | some (.lst xs) => match intsD xs with
      | some ns => alloc (.lst ((sortI ns).map .int)) st
      | none => .bad
    | some (.iset ns) => if Nat.blt ns.length 64 then alloc (.lst ((sortI ns).map .int)) st else .bad
    | some (.dct kvs) => match intsD (kvs.map (·.1)) with
      | some ns => if Nat.blt ns.length 64 then alloc (.lst ((sortI ns).map .int)) st else .bad
      | none => .bad
    | _ => .bad
  | _ => .bad
def pairs : List D → Option (List (D × D))
  | [] => some []
  | .tup [k, v] :: r => if keyOk k then (pairs r).map ((k, v) :: ·) else none
  | _ => none
def putAll : List (D × D) → List (D × D) → List (D × D)
  | acc, [] => acc
  | acc, (k, v) :: r => putAll (putKV k v acc) r
def seqL (d : D) (st : Sto) : Option (List D) := match d with
  | .tup xs => some xs
  | .ref i => match st[i]? with
    | some (.lst xs) => some xs
    | _ => none
  | _ => none
/-- dict(..) of a list or a tuple of pairs -/
def bDict : BF := fun ds st => match ds with
  | [d] => match (seqL d st).bind pairs with
    | some kvs => alloc (.dct (putAll [] kvs)) st
    | none => .bad
  | _ => .bad
/-! ### what a loop walks -/
inductive It where
  | items (ds : List D) | list (i : Nat) | enum (j : It) | zip (j k : It) | keys (i : Nat)
/-- the n-th item: none: no more of it is known; some none: the end -/
def It.at_ (st : Sto) (n : Nat) : It → Option (Option D)
  | .items ds => some ds[n]?
  | .list i => match st[i]? with
    | some (.lst xs) => some xs[n]?
    | some (.frz xs) => some xs[n]?
    | _ => none
  | .keys i => match st[i]? with
    | some (.fdc kvs) => some (kvs[n]?.map (·.1))
    | _ => none
  | .enum j => match j.at_ st n with
    | some (some d) => some (some (.tup [.int n, d]))
    | some none => some none
    | none => none
  | .zip j k => match j.at_ st n, k.at_ st n with
    | some (some d), some (some e) => some (some (.tup [d, e]))
    | some none, some none => some none
    | _, _ => none
def rangeD (lo : Int) : Nat → List D
  | 0 => []
  | n + 1 => .int lo :: rangeD (lo + 1) n

/-! ### expressions -/
section
variable {α : Type}
def cstM (d : D) : M D := fun _ _ st => .ok d st
def varM (i : Nat) : M D := fun _ env st => match env[i]? with
  | some (some d) => .ok d st
  | _ => .bad
def op2M (f : Op2) (a b : M D) : M D := fun Φ env st => (a Φ env st).bind fun x st1 => (b Φ env st1).bind fun y st2 => f x y st2
def op1M (f : D → Sto → Res D) (a : M D) : M D := fun Φ env st => (a Φ env st).bind fun x st1 => f x st1
def chainM (f g : Op2) (a b c : M D) : M D := fun Φ env st => (a Φ env st).bind fun x st1 => (b Φ env st1).bind fun y st2 => (f x y st2).bind fun z st3 => match z with
  | .bl true => (c Φ env st3).bind fun w st4 => g y w st4
  | .bl false => .ok (.bl false) st3
  | _ => .bad
def negF (d : D) (st : Sto) : Res D := match d with
  | .int i => .ok (.int (-i)) st
  | _ => .bad
def notF (d : D) (st : Sto) : Res D := retB ((truth d st).map (!·)) st
def andM (a b : M D) : M D := fun Φ env st => (a Φ env st).bind fun x st1 => match truth x st1 with
  | some true => b Φ env st1
  | some false => .ok x st1
  | none => .bad
def orM (a b : M D) : M D := fun Φ env st => (a Φ env st).bind fun x st1 => match truth x st1 with
  | some true => .ok x st1
  | some false => b Φ env st1
  | none => .bad
/-! tests -/
def valT (a : M D) : M Bool := fun Φ env st => (a Φ env st).bind fun x st1 => match truth x st1 with
  | some b => .ok b st1
  | none => .bad
/-- a comparison's answer as a test -/
def blT (a : M D) : M Bool := fun Φ env st => (a Φ env st).bind fun x st1 => match x with
  | .bl b => .ok b st1
  | _ => .bad
def notT (a : M Bool) : M Bool := fun Φ env st => (a Φ env st).bind fun x st1 => .ok (!x) st1
def andT (a b : M Bool) : M Bool := fun Φ env st => (a Φ env st).bind fun x st1 => if x then b Φ env st1 else .ok false st1
def orT (a b : M Bool) : M Bool := fun Φ env st => (a Φ env st).bind fun x st1 => if x then .ok true st1 else b Φ env st1
def yesT : M Bool := fun _ _ st => .ok true st
def ifM (t : M Bool) (a b : M D) : M D := fun Φ env st => (t Φ env st).bind fun x st1 => if x then a Φ env st1 else b Φ env st1
/-! arguments -/
def nilA : M (List D) := fun _ _ st => .ok [] st
def consA (a : M D) (r : M (List D)) : M (List D) := fun Φ env st => (a Φ env st).bind fun x st1 => (r Φ env st1).bind fun xs st2 => .ok (x :: xs) st2
def starA (a : M D) (r : M (List D)) : M (List D) := fun Φ env st => (a Φ env st).bind fun x st1 => match seqOf x st1 with
  | some ys => (r Φ env st1).bind fun xs st2 => .ok (ys ++ xs) st2
  | none => .bad
def withA (f : BF) (a : M (List D)) : M D := fun Φ env st => (a Φ env st).bind fun xs st1 => f xs st1
def tupM (a : M (List D)) : M D := withA mkTup a
def lstM (a : M (List D)) : M D := withA mkLst a
def dnewM : M D := fun _ _ st => alloc (.dct []) st
def callM (f n : Nat) (a : M (List D)) : M D := fun Φ env st => (a Φ env st).bind fun xs st1 => if xs.length = n then Φ f xs st1 else .bad
/-- by keywords: those behind the written ones in the parameters' order -/
def pick {α : Type} : List Nat → List α → List α
  | [], _ => []
  | i :: is, ds => (match ds[i]? with | some d => [d] | none => []) ++ pick is ds
def callK (f n np nk : Nat) (is : List Nat) (a b : M (List D)) : M D := fun Φ env st => (a Φ env st).bind fun xs st1 => (b Φ env st1).bind fun ys st2 => if xs.length = np ∧ ys.length = nk ∧ (xs ++ pick is ys).length = n then Φ f (xs ++ pick is ys) st2 else .bad
/-- a bound of a slice -/
def noB : M (Option Int) := fun _ _ st => .ok none st
def someB (a : M D) : M (Option Int) := fun Φ env st => (a Φ env st).bind fun x st1 => match x with
  | .int i => .ok (some i) st1
  | _ => .bad
def sliceM (a : M D) (lo hi : M (Option Int)) : M D := fun Φ env st => (a Φ env st).bind fun x st1 => (lo Φ env st1).bind fun l st2 => (hi Φ env st2).bind fun h st3 => opSlice x l h st3
/-! what is walked -/
def itF (d : D) (st : Sto) : Res It := match d with
  | .tup xs => .ok (.items xs) st
  | .lst xs => .ok (.items xs) st
  | .str x => .ok (.items (x.map fun c => .str [c])) st
  | .ref i => match st[i]? with
    | some (.lst _) => .ok (.list i) st
    | some (.frz _) => .ok (.list i) st
    | some (.fdc _) => .ok (.keys i) st
    | _ => .bad
  | _ => .bad
/-- while the dict that a name holds is locked -/
def lkM {α : Type} (i : Nat) (m : M α) : M α := fun Φ env st => match env[i]? with
  | some (some (.ref r)) => match st[r]? with
    | some (.dct kvs) => (m Φ env (st.set r (.fdc kvs))).bind fun a st1 => match st1[r]? with
      | some (.fdc kvs) => .ok a (st1.set r (.dct kvs))
      | _ => .bad
    | _ => m Φ env st
  | _ => m Φ env st
def itM (a : M D) : M It := fun Φ env st => (a Φ env st).bind itF
def rngF1 (ds : List D) (st : Sto) : Res It := match ds with
  | [.int j] => if small62 j then .ok (.items (rangeD 0 j.toNat)) st else .bad
  | _ => .bad
def rngM1 (a : M (List D)) : M It := fun Φ env st => (a Φ env st).bind rngF1
def rngF2 (ds : List D) (st : Sto) : Res It := match ds with
  | [.int i, .int j] => if small62 i && small62 j then .ok (.items (rangeD i (j - i).toNat)) st else .bad
  | _ => .bad
def rngM2 (a : M (List D)) : M It := fun Φ env st => (a Φ env st).bind rngF2
def enumF (d : D) (st : Sto) : Res It := match d with
  | .tup xs => .ok (.enum (.items xs)) st
  | .ref i => match st[i]? with
    | some (.lst _) => .ok (.enum (.list i)) st
    | some (.frz _) => .ok (.enum (.list i)) st
    | _ => .bad
  | _ => .bad
def enumM (a : M D) : M It := fun Φ env st => (a Φ env st).bind enumF
def zipF (d e : D) (st : Sto) : Res It := match d, e with
  | .tup xs, .tup ys => .ok (.zip (.items xs) (.items ys)) st
  | .ref i, .ref j => match st[i]?, st[j]? with
    | some (.lst _), some (.lst _) => .ok (.zip (.list i) (.list j)) st
    | _, _ => .bad
  | _, _ => .bad
def zipM (a b : M D) : M It := fun Φ env st => (a Φ env st).bind fun x st1 => (b Φ env st1).bind fun y st2 => zipF x y st2
end

/-! ### targets -/
abbrev Tg := D → Env → Sto → Option Env
def setG (i : Nat) : Tg := fun d env _ => some (env.set i (some d))
def tupG (n : Nat) (gs : List D → Env → Sto → Option Env) : Tg := fun d env st => match d with
  | .tup xs => if xs.length = n then gs xs env st else none
  | _ => none
def nilG : List D → Env → Sto → Option Env := fun ds env _ => match ds with
  | [] => some env
  | _ => none
def consG (g : Tg) (gs : List D → Env → Sto → Option Env) : List D → Env → Sto → Option Env := fun ds env st => match ds with
  | d :: r => match g d env st with
    | some env1 => gs r env1 st
    | none => none
  | [] => none

/-! ### comprehensions -/
def wipeE (env : Env) : List Nat → Env
  | [] => env
  | v :: vs => (wipeE env vs).set v none
/-- one walk: step has the item's names set, hands back what it adds -/
def walk (it : It) (g : Tg) (step : Env → Sto → Res (List D)) (env : Env) : Nat → Nat → Sto → Res (List D)
  | 0, _, _ => .bad
  | fuel + 1, n, st => match it.at_ st n with
    | none => .bad
    | some none => .ok [] st
    | some (some d) => match g d env st with
      | none => .bad
      | some env1 => (step env1 st).bind fun xs st1 => (walk it g step env fuel (n + 1) st1).bind fun ys st2 => .ok (xs ++ ys) st2
def wfuel : Nat := 100000
def noExc {α : Type} (r : Res α) : Res α := match r with
  | .ok a st => .ok a st
  | _ => .bad
/-- the items that [e for tg in it if t] makes -/
def compI (it : M It) (own : List Nat) (g : Tg) (t : M Bool) (e : M D) : M (List D) := fun Φ env st => (it Φ env st).bind fun i st1 =>
  noExc (walk i g (fun env1 s => (t Φ env1 s).bind fun b s1 => if b then (e Φ env1 s1).bind fun x s2 => .ok [x] s2 else .ok [] s1) (wipeE env own) wfuel 0 st1)
/-- .. with a second clause -/
def compI2 (it : M It) (own : List Nat) (g : Tg) (t : M Bool) (it1 : M It) (own1 : List Nat) (g1 : Tg) (t1 : M Bool) (e : M D) : M (List D) := fun Φ env st => (it Φ env st).bind fun i st1 =>
  noExc (walk i g (fun env1 s => (t Φ env1 s).bind fun b s1 => if b then (it1 Φ env1 s1).bind fun i1 s2 =>
      walk i1 g1 (fun env2 s => (t1 Φ env2 s).bind fun b s1 => if b then (e Φ env2 s1).bind fun x s2 => .ok [x] s2 else .ok [] s1) (wipeE env1 own1) wfuel 0 s2
    else .ok [] s1) (wipeE env own) wfuel 0 st1)
def compM (c : M (List D)) : M D := fun Φ env st => (c Φ env st).bind fun xs st1 => mkLst xs st1
def addI (i : Int) (xs : List Int) : List Int := if xs.contains i then xs else xs ++ [i]
def setOf : List D → List Int → Option (List Int)
  | [], acc => some acc
  | .int i :: r, acc => setOf r (addI i acc)
  | _, _ => none
/-- a set comprehension of intsD -/
def scompM (c : M (List D)) : M D := fun Φ env st => (c Φ env st).bind fun xs st1 => match setOf xs [] with
  | some ns => if Nat.blt ns.length 4000 then alloc (.iset ns) st1 else .bad
  | none => .bad

/-! ### statements -/
def liftR {α : Type} (env : Env) (r : Res α) (f : α → Sto → SR) : SR := match r with
  | .ok d st => f d st
  | .exc x st => .exc x env st
  | .bad => .bad
def nilS : S := fun _ env st => .nx env st
def seqS (a b : S) : S := fun Φ env st => match a Φ env st with
  | .nx env1 st1 => b Φ env1 st1
  | r => r
def exprS (e : M D) : S := fun Φ env st => liftR env (e Φ env st) fun _ st1 => .nx env st1
def retS (e : M D) : S := fun Φ env st => liftR env (e Φ env st) fun d st1 => .rt d st1
def asgS (g : Tg) (e : M D) : S := fun Φ env st => liftR env (e Φ env st) fun d st1 => match g d env st1 with
  | some env1 => .nx env1 st1
  | none => .bad
/-- a, b = x, y with plain names -/
def par2S (i j : Nat) (m : M (List D)) : S := fun Φ env st => liftR env (m Φ env st) fun ds st1 => match ds with
  | [x, y] => .nx ((env.set i (some x)).set j (some y)) st1
  | _ => .bad
def par3S (i j k : Nat) (m : M (List D)) : S := fun Φ env st => liftR env (m Φ env st) fun ds st1 => match ds with
  | [x, y, z] => .nx (((env.set i (some x)).set j (some y)).set k (some z)) st1
  | _ => .bad
def breakS : S := fun _ env st => .bk env st
def contS : S := fun _ env st => .ct env st
def ifS (t : M Bool) (a b : S) : S := fun Φ env st => liftR env (t Φ env st) fun c st1 => if c then a Φ env st1 else b Φ env st1
/-- o[i] = v, by values -/
def putF (o i v : D) (st : Sto) : Option Sto := match o with
  | .ref r => match st[r]?, i with
    | some (.lst xs), .int i => (L2.ixN xs.length i).map fun j => st.set r (.lst (xs.set j v))
    | some (.dct kvs), k => if keyOk k && Nat.blt kvs.length line then some (st.set r (.dct (putKV k v kvs))) else none
    | _, _ => none
  | _ => none
def putS (o i v : M D) : S := fun Φ env st => liftR env (v Φ env st) fun x st1 => liftR env (o Φ env st1) fun y st2 => liftR env (i Φ env st2) fun z st3 => match putF y z x st3 with
  | some st4 => .nx env st4
  | none => .bad
/-- xs.append(v), a value -/
def appendF (d x : D) (st : Sto) : Res D := match d with
  | .ref r => match st[r]? with
    | some (.lst xs) => if Nat.blt xs.length line then .ok .non (st.set r (.lst (xs ++ [x]))) else .bad
    | _ => .bad
  | _ => .bad
def isLst (d : D) (st : Sto) : Bool := match d with
  | .ref r => match st[r]? with
    | some (.lst _) => true
    | _ => false
  | _ => false
/-- a list's method, by values -/
def methM (f : Op2) (a b : M D) : M D := fun Φ env st => (a Φ env st).bind fun x st1 => if isLst x st1 then (b Φ env st1).bind fun y st2 => f x y st2 else .bad
def indexF (d x : D) (st : Sto) : Res D := match d with
  | .ref r => match st[r]? with
    | some (.lst xs) => match placeD x st xs with
      | some n => .ok (.int n) st
      | none => .bad
    | _ => .bad
  | _ => .bad
def raiseS (c n : Nat) (a : M (List D)) : S := fun Φ env st => liftR env (a Φ env st) fun vs st1 => if vs.length = n then .exc ⟨c, vs⟩ env st1 else .bad
def forGo (it : It) (g : Tg) (body : Env → Sto → SR) : Nat → Nat → Env → Sto → SR
  | 0, _, _, _ => .bad
  | fuel + 1, n, env, st => match it.at_ st n with
    | none => .bad
    | some none => .nx env st
    | some (some d) => match g d env st with
      | none => .bad
      | some env1 => match body env1 st with
        | .nx env2 st2 => forGo it g body fuel (n + 1) env2 st2
        | .ct env2 st2 => forGo it g body fuel (n + 1) env2 st2
        | .bk env2 st2 => .nx env2 st2
        | r => r
def forS (it : M It) (g : Tg) (b : S) : S := fun Φ env st => liftR env (it Φ env st) fun i st1 => forGo i g (b Φ) wfuel 0 env st1
def whileGo (t : Env → Sto → Res Bool) (body : Env → Sto → SR) : Nat → Env → Sto → SR
  | 0, _, _ => .bad
  | fuel + 1, env, st => liftR env (t env st) fun c st1 => if c then (match body env st1 with
      | .nx env2 st2 => whileGo t body fuel env2 st2
      | .ct env2 st2 => whileGo t body fuel env2 st2
      | .bk env2 st2 => .nx env2 st2
      | r => r) else .nx env st1
/-- the statement runs while the dict that a name holds is locked -/
def unlk (r : Nat) (env : Env) (st : Sto) (k : Env → Sto → SR) : SR := match st[r]? with
  | some (.fdc kvs) => k env (st.set r (.dct kvs))
  | _ => .bad
def lkS (i : Nat) (s : S) : S := fun Φ env st => match env[i]? with
  | some (some (.ref r)) => match st[r]? with
    | some (.dct kvs) => match s Φ env (st.set r (.fdc kvs)) with
      | .nx env1 st1 => unlk r env1 st1 .nx
      | .bk env1 st1 => unlk r env1 st1 .bk
      | .ct env1 st1 => unlk r env1 st1 .ct
      | .rt d st1 => unlk r [] st1 fun _ st2 => .rt d st2
      | r => r
    | _ => s Φ env st
  | _ => s Φ env st
def whileS (t : M Bool) (b : S) : S := fun Φ env st => whileGo (t Φ) (b Φ) wfuel env st
mutual
/-- no caught exception in it -/
def noX : D → Bool
  | .tup xs => noXs xs
  | .lst xs => noXs xs
  | .exn _ _ => false
  | _ => true
def noXs : List D → Bool
  | [] => true
  | d :: ds => noX d && noXs ds
end
def noXK : List (D × D) → Bool
  | [] => true
  | (_, v) :: r => noX v && noXK r
def noXO : O → Bool
  | .lst xs => noXs xs
  | .frz xs => noXs xs
  | .dct kvs => noXK kvs
  | .fdc kvs => noXK kvs
  | .iset _ => true
def noXE : Env → Bool
  | [] => true
  | none :: r => noXE r
  | some d :: r => noX d && noXE r
/-- try: body, except C as slot i: suite (sub: which classes C catches) -/
def tryS (body : S) (sub : Nat → Option Bool) (i : Nat) (suite : S) : S := fun Φ env st => match body Φ env st with
  | .exc x env1 st1 => match sub x.cls with
    | some true => (match suite Φ (env1.set i (some (.exn x.cls x.vs))) st1 with
      | .nx env2 st2 => if noXE (env2.set i none) && st2.all noXO then .nx (env2.set i none) st2 else .bad
      | .bk env2 st2 => if noXE (env2.set i none) && st2.all noXO then .bk (env2.set i none) st2 else .bad
      | .ct env2 st2 => if noXE (env2.set i none) && st2.all noXO then .ct (env2.set i none) st2 else .bad
      | .rt d st2 => if noX d && st2.all noXO then .rt d st2 else .bad
      | _ => .bad)
    | some false => .exc x env1 st1
    | none => .bad
  | r => r
/-- e.f, e a caught exception: its n-th value -/
def excF (n : Nat → Option Nat) (d : D) (st : Sto) : Res D := match d with
  | .exn c vs => match (n c).bind (vs[·]?) with
    | some v => .ok v st
    | none => .bad
  | _ => .bad
def excIs (sub : Nat → Option Bool) (d : D) (st : Sto) : Res D := match d with
  | .exn c _ => retB (sub c) st
  | _ => .bad

/-! ### a turn's end: what nobody needs goes -/
def belowE (n : Nat) : Env → Bool
  | [] => true
  | none :: r => belowE n r
  | some d :: r => below n d && belowE n r
/-- behind s the slots vs are forgotten, and the places made in s go where nobody knows them -/
def ownS (vs : List Nat) (s : S) : S := fun Φ env st => match s Φ env st with
  | .nx env1 st1 => if allBelow st.length (st1.take st.length) && belowE st.length (wipeE env1 vs) then .nx (wipeE env1 vs) (st1.take st.length) else .nx env1 st1
  | .ct env1 st1 => if allBelow st.length (st1.take st.length) && belowE st.length (wipeE env1 vs) then .ct (wipeE env1 vs) (st1.take st.length) else .ct env1 st1
  | r => r

/-! ### defs -/
structure Fn where
  slots : Nat
  params : Nat
  body : S
def startE (n : Nat) (ds : List D) : Env := ds.map some ++ List.replicate (n - ds.length) none
def bodyF (F : Fn) (Φ : Call) (ds : List D) (st : Sto) : Res D := if ds.length = F.params then (match F.body Φ (startE F.slots ds) st with
  | .rt d st1 => .ok d st1
  | .nx _ st1 => .ok .non st1
  | .exc x _ st1 => .exc x st1
  | _ => .bad) else .bad
/-- what a call that ran in a store of its own brings into the caller's -/
def bring (d : D) (own st : Sto) : Res D := if noRef d then .ok d st else
  match d with
  | .ref i => match own[i]? with
    | some (.lst xs) => if noRefs xs then .ok (.ref st.length) (st ++ [.lst xs]) else .ok (shift st.length d) (st ++ own.map (O.shift st.length))
    | _ => .ok (shift st.length d) (st ++ own.map (O.shift st.length))
  | _ => .ok (shift st.length d) (st ++ own.map (O.shift st.length))
/-- the places that nobody knows any more go -/
def tidy (n : Nat) (d : D) (st : Sto) : Res D := if allBelow n (st.take n) then
    (if below n d then .ok d (st.take n) else
      match d with
      | .ref i => match st[i]? with
        | some (.lst xs) => if belows n xs then .ok (.ref (st.take n).length) (st.take n ++ [.lst xs]) else .ok d st
        | _ => .ok d st
      | _ => .ok d st)
  else .ok d st
def inOwn (g : List D → Sto → Res D) (ds : List D) (st : Sto) : Res D := if noRefs ds then (match g ds [] with
    | .ok d own => bring d own st
    | .exc x own => if noRefs x.vs then .exc x st else .bad
    | .bad => .bad)
  else match g ds st with
    | .ok d st1 => tidy st.length d st1
    | r => r
def run (fns : List Fn) : Nat → Call
  | 0 => fun _ _ _ => .bad
  | k + 1 => fun f ds st => match fns[f]? with
    | some F => inOwn (bodyF F (run fns k)) ds st
    | none => .bad
end EV

-- part EvRel
set_option Elab.async false
set_option linter.all false
set_option maxRecDepth 100000
/-! What the evaluator's values and store say of the machine's heap. -/
namespace EV
open PySem PySem.Spec PyProof.Rows L2

/-- what stays the same through a law: the written part, the world, the classes by number with their fields; within an except suite the caught exception, its class's number, its dict -/
structure Ctx where
  K : PySem.W.Frag
  w : World
  ca : Nat → Addr
  fl : Nat → List Str
  xa : Option (Addr × Nat × Addr)

abbrev ws (x : List Nat) : Str := ⟨x.toArray⟩

/-- a tuple that stands: made (its object is known: it has no dict), or written -/
def Tp (K : PySem.W.Frag) (H : Hp) (a : Addr) (vs : List V) : Prop :=
  (∃ o, H a = some (.frz o (.tup vs)) ∧ o.dict = none) ∨ ∃ (o : Obj) (its : Array Value) (n : Nat), K.lookup a = some o ∧ o.cls = .type "tuple" ∧ o.dict = none ∧ o.data = .seq its n ∧ its.size ≤ sizeLine ∧ Vals vs its.toList
theorem Tp.sq {K : PySem.W.Frag} {H : Hp} {a : Addr} {vs : List V} (h : Tp K H a vs) : SqT K H a vs := by
  rcases h with ⟨o, h, _⟩ | ⟨o, its, n, h1, h2, _, h3⟩
  · exact .inl (.inr ⟨o, h⟩)
  · exact .inr ⟨o, its, n, h1, h2, h3⟩

/-- a list that stands for good -/
def FL (K : PySem.W.Frag) (H : Hp) (a : Addr) (vs : List V) : Prop :=
  (∃ o, H a = some (.frz o (.lst vs))) ∨ ∃ (o : Obj) (its : Array Value) (n : Nat), K.lookup a = some o ∧ o.cls = .type "list" ∧ o.dict = none ∧ o.data = .seq its n ∧ its.size ≤ sizeLine ∧ Vals vs its.toList
theorem FL.sq {K : PySem.W.Frag} {H : Hp} {a : Addr} {vs : List V} (h : FL K H a vs) : SqL K H a vs := by
  rcases h with ⟨o, h⟩ | h
  · exact .inl (.inr ⟨o, h⟩)
  · exact .inr h
mutual
def RelD (C : Ctx) (ρ : List Addr) (H : Hp) : D → V → Prop
  | .non, v => v = .non
  | .bl b, v => v = .bl b
  | .int i, v => v = .int i
  | .str x, v => v = .str (ws x) ∧ x.length ≤ sizeLine ∧ x.all (Nat.blt · 0x110000) = true
  | .tup ds, v => ∃ a vs, v = .ref a ∧ Tp C.K H a vs ∧ RelDs C ρ H ds vs
  | .lst ds, v => ∃ a vs, v = .ref a ∧ FL C.K H a vs ∧ RelDs C ρ H ds vs
  | .ref i, v => ∃ a, ρ[i]? = some a ∧ v = .ref a
  | .exn c ds, v => ∃ a dd fs vs, C.xa = some (a, c, dd) ∧ v = .ref a ∧ H dd = some (.xd fs) ∧ RelDs C ρ H ds vs ∧ ∀ (i : Nat) (f : Str) (v : V), (C.fl c)[i]? = some f → vs[i]? = some v → fs.lookup f = some v
def RelDs (C : Ctx) (ρ : List Addr) (H : Hp) : List D → List V → Prop
  | [], vs => vs = []
  | d :: ds, vs => ∃ v r, vs = v :: r ∧ RelD C ρ H d v ∧ RelDs C ρ H ds r
end

def RelKey : D → Key → Prop
  | .int i, k => k = .inl i
  | .str x, k => k = .inr (ws x) ∧ x.length ≤ sizeLine ∧ x.all (Nat.blt · 0x110000) = true
  | _, _ => False
def RelKV (C : Ctx) (ρ : List Addr) (H : Hp) : List (D × D) → List (Key × V) → Prop
  | [], vs => vs = []
  | p :: ds, vs => ∃ k v r, vs = (k, v) :: r ∧ RelKey p.1 k ∧ RelD C ρ H p.2 v ∧ RelKV C ρ H ds r

def ObjR (C : Ctx) (ρ : List Addr) (H : Hp) (a : Addr) : O → Prop
  | .lst xs => ∃ vs, H a = some (.lst vs) ∧ RelDs C ρ H xs vs
  | .frz xs => ∃ vs o, H a = some (.frz o (.lst vs)) ∧ RelDs C ρ H xs vs
  | .dct kvs => ∃ kws, H a = some (.dK kws) ∧ RelKV C ρ H kvs kws
  | .fdc kvs => ∃ kws o, H a = some (.frz o (.dK kws)) ∧ RelKV C ρ H kvs kws
  | .iset ns => ∃ S, H a = some (SetO C.w a S ns.length) ∧ ns.Nodup ∧ ∀ k, S k = ns.contains k

structure Rel (C : Ctx) (ρ : List Addr) (H : Hp) (st : Sto) : Prop where
  len : ρ.length = st.length
  nd : ρ.Nodup
  obj : ∀ (i : Nat) (a : Addr) (o : O), ρ[i]? = some a → st[i]? = some o → ObjR C ρ H a o

/-- what is not in the store stays -/
def Ext (ρ : List Addr) (H H' : Hp) : Prop := ∀ a o, H a = some o → (a ∉ ρ ∨ ∃ b u, o = .frz b u) → H' a = some o
/-- what is locked and exceptions' dicts stay -/
structure Keep (H H' : Hp) : Prop where
  frz : ∀ a o u, H a = some (.frz o u) → H' a = some (.frz o u)
  xd : ∀ a fs, H a = some (.xd fs) → H' a = some (.xd fs)
/-- tuples and exceptions' dicts stay -/
structure KeepT (H H' : Hp) : Prop where
  tup : ∀ a o vs, H a = some (.frz o (.tup vs)) → H' a = some (.frz o (.tup vs))
  lst : ∀ a o vs, H a = some (.frz o (.lst vs)) → H' a = some (.frz o (.lst vs))
  xd : ∀ a fs, H a = some (.xd fs) → H' a = some (.xd fs)
theorem Keep.t {H H' : Hp} (k : Keep H H') : KeepT H H' := ⟨fun a o vs h => k.frz a o _ h, fun a o vs h => k.frz a o _ h, k.xd⟩
theorem KeepT.fl {K : PySem.W.Frag} {H H' : Hp} (k : KeepT H H') {a : Addr} {vs : List V} (h : FL K H a vs) : FL K H' a vs := by
  rcases h with ⟨o, h⟩ | h
  · exact .inl ⟨o, k.lst _ _ _ h⟩
  · exact .inr h
theorem KeepT.tp {K : PySem.W.Frag} {H H' : Hp} (k : KeepT H H') {a : Addr} {vs : List V} (h : Tp K H a vs) : Tp K H' a vs := by
  rcases h with ⟨o, h, q⟩ | h
  · exact .inl ⟨o, k.tup _ _ _ h, q⟩
  · exact .inr h
theorem Keep.refl (H : Hp) : Keep H H := ⟨fun _ _ _ h => h, fun _ _ h => h⟩
theorem Keep.trans {H H1 H2 : Hp} (a : Keep H H1) (b : Keep H1 H2) : Keep H H2 := ⟨fun x o y h => b.frz x o y (a.frz x o y h), fun x y h => b.xd x y (a.xd x y h)⟩
theorem Keep.tp {K : PySem.W.Frag} {H H' : Hp} (k : Keep H H') {a : Addr} {vs : List V} (h : Tp K H a vs) : Tp K H' a vs := by
  rcases h with ⟨o, h, q⟩ | h
  · exact .inl ⟨o, k.frz _ _ _ h, q⟩
  · exact .inr h

section
variable {C : Ctx} {ρ ρ' : List Addr} {H H' : Hp}
/-- the places of ρ stay what they are -/
def Pre (ρ ρ' : List Addr) : Prop := ∀ (i : Nat) (a : Addr), ρ[i]? = some a → ρ'[i]? = some a
theorem Pre.refl (ρ : List Addr) : Pre ρ ρ := fun _ _ h => h
theorem Pre.trans {a b c : List Addr} (x : Pre a b) (y : Pre b c) : Pre a c := fun i z h => y i z (x i z h)
theorem Pre.add (ρ l : List Addr) : Pre ρ (ρ ++ l) := fun i a h => by
  have hi := (List.getElem?_eq_some_iff.mp h).1
  rw [List.getElem?_append_left hi]
  exact h
theorem Pre.mem (p : Pre ρ ρ') {a : Addr} (h : a ∈ ρ) : a ∈ ρ' := by
  obtain ⟨i, hi⟩ := List.getElem?_of_mem h
  exact List.mem_of_getElem? (p i a hi)

mutual
theorem RelD.monoT (p : Pre ρ ρ') (k : KeepT H H') : ∀ (d : D) (v : V), RelD C ρ H d v → RelD C ρ' H' d v
  | .non, v, h => by simpa only [RelD] using h
  | .bl b, v, h => by simpa only [RelD] using h
  | .int i, v, h => by simpa only [RelD] using h
  | .str x, v, h => by simpa only [RelD] using h
  | .tup ds, v, h => by
    simp only [RelD] at h ⊢
    obtain ⟨a, vs, e, t, r⟩ := h
    exact ⟨a, vs, e, k.tp t, RelDs.monoT p k ds vs r⟩
  | .lst ds, v, h => by
    simp only [RelD] at h ⊢
    obtain ⟨a, vs, e, t, r⟩ := h
    exact ⟨a, vs, e, k.fl t, RelDs.monoT p k ds vs r⟩
  | .ref i, v, h => by
    simp only [RelD] at h ⊢
    obtain ⟨a, e, q⟩ := h
    exact ⟨a, p i a e, q⟩
  | .exn c ds, v, h => by
    simp only [RelD] at h ⊢
    obtain ⟨a, dd, fs, vs, e1, e2, e3, r, q⟩ := h
    exact ⟨a, dd, fs, vs, e1, e2, k.xd _ _ e3, RelDs.monoT p k ds vs r, q⟩
theorem RelDs.monoT (p : Pre ρ ρ') (k : KeepT H H') : ∀ (ds : List D) (vs : List V), RelDs C ρ H ds vs → RelDs C ρ' H' ds vs
  | [], vs, h => by simpa only [RelDs] using h
  | d :: ds, vs, h => by
    simp only [RelDs] at h ⊢
    obtain ⟨v, r, e, a, b⟩ := h
    exact ⟨v, r, e, RelD.monoT p k d v a, RelDs.monoT p k ds r b⟩
end
theorem RelKV.monoT (p : Pre ρ ρ') (k : KeepT H H') : ∀ (ds : List (D × D)) (vs : List (Key × V)), RelKV C ρ H ds vs → RelKV C ρ' H' ds vs
  | [], vs, h => h
  | q :: ds, vs, h => by
    obtain ⟨a, v, r, e, ra, rv, rr⟩ := h
    exact ⟨a, v, r, e, ra, RelD.monoT p k _ _ rv, RelKV.monoT p k ds r rr⟩
/-- an object whose own place stays -/
theorem ObjR.monoT {a : Addr} {o : O} (p : Pre ρ ρ') (k : KeepT H H') (e : H' a = H a) (h : ObjR C ρ H a o) : ObjR C ρ' H' a o := by
  cases o with
  | lst xs =>
    obtain ⟨vs, ha, r⟩ := h
    exact ⟨vs, e.trans ha, RelDs.monoT p k _ _ r⟩
  | frz xs =>
    obtain ⟨vs, o, ha, r⟩ := h
    exact ⟨vs, o, e.trans ha, RelDs.monoT p k _ _ r⟩
  | dct kvs =>
    obtain ⟨vs, ha, r⟩ := h
    exact ⟨vs, e.trans ha, RelKV.monoT p k _ _ r⟩
  | fdc kvs =>
    obtain ⟨vs, o, ha, r⟩ := h
    exact ⟨vs, o, e.trans ha, RelKV.monoT p k _ _ r⟩
  | iset ns =>
    obtain ⟨S, ha, r⟩ := h
    exact ⟨S, e.trans ha, r⟩
theorem RelD.mono (p : Pre ρ ρ') (k : Keep H H') (d : D) (v : V) (h : RelD C ρ H d v) : RelD C ρ' H' d v := RelD.monoT p k.t d v h
theorem RelDs.mono (p : Pre ρ ρ') (k : Keep H H') (ds : List D) (vs : List V) (h : RelDs C ρ H ds vs) : RelDs C ρ' H' ds vs := RelDs.monoT p k.t ds vs h
theorem RelKV.mono (p : Pre ρ ρ') (k : Keep H H') (ds : List (D × D)) (vs : List (Key × V)) (h : RelKV C ρ H ds vs) : RelKV C ρ' H' ds vs := RelKV.monoT p k.t ds vs h
theorem ObjR.mono {a : Addr} {o : O} (p : Pre ρ ρ') (k : Keep H H') (e : H' a = H a) (h : ObjR C ρ H a o) : ObjR C ρ' H' a o := ObjR.monoT p k.t e h
/-- what a stored thing is not -/
theorem ObjR.is {a : Addr} {o : O} (h : ObjR C ρ H a o) : ∃ u, H a = some u ∧ (∀ o vs, u ≠ .frz o (.tup vs)) ∧ (∀ fs, u ≠ .xd fs) := by
  cases o with
  | lst xs =>
    obtain ⟨vs, ha, r⟩ := h
    exact ⟨_, ha, fun _ _ z => (by cases z), fun _ z => (by cases z)⟩
  | frz xs =>
    obtain ⟨vs, o, ha, r⟩ := h
    exact ⟨_, ha, fun _ _ z => (by cases z), fun _ z => (by cases z)⟩
  | dct kvs =>
    obtain ⟨vs, ha, r⟩ := h
    exact ⟨_, ha, fun _ _ z => (by cases z), fun _ z => (by cases z)⟩
  | fdc kvs =>
    obtain ⟨vs, o, ha, r⟩ := h
    exact ⟨_, ha, fun _ _ z => (by cases z), fun _ z => (by cases z)⟩
  | iset ns =>
    obtain ⟨S, ha, r⟩ := h
    refine ⟨_, ha, fun _ _ z => ?_, fun _ z => ?_⟩
    · have z' : HO.ext _ = HO.frz _ _ := z
      cases z'
    · have z' : HO.ext _ = HO.xd _ := z
      cases z'
end

section
variable {C : Ctx} {ρ ρ' ρ1 ρ2 : List Addr} {H H' H1 H2 : Hp} {st st' st1 st2 : Sto}
theorem Rel.mem (R : Rel C ρ H st) {a : Addr} (h : a ∈ ρ) : ∃ (i : Nat) (o : O), ρ[i]? = some a ∧ st[i]? = some o ∧ ObjR C ρ H a o := by
  obtain ⟨i, hi⟩ := List.getElem?_of_mem h
  have hl := (List.getElem?_eq_some_iff.mp hi).1
  rw [R.len] at hl
  exact ⟨i, st[i], hi, List.getElem?_eq_getElem hl, R.obj i a _ hi (List.getElem?_eq_getElem hl)⟩
theorem Rel.there (R : Rel C ρ H st) {a : Addr} (h : a ∈ ρ) : ∃ u, H a = some u ∧ (∀ o vs, u ≠ .frz o (.tup vs)) ∧ (∀ fs, u ≠ .xd fs) := by
  obtain ⟨i, o, _, _, q⟩ := R.mem h
  exact q.is
theorem Rel.keep (R : Rel C ρ H st) (e : Ext ρ H H') : Keep H H' := by
  refine ⟨fun a o u h => e a _ h (.inr ⟨o, u, rfl⟩), fun a fs h => e a _ h (.inl fun m => ?_)⟩
  obtain ⟨u, hu, _, q⟩ := R.there m
  rw [h] at hu
  cases hu
  exact q _ rfl
theorem Rel.ne_none (R : Rel C ρ H st) {a : Addr} (h : H a = none) : a ∉ ρ := fun m => by
  obtain ⟨u, hu, _⟩ := R.there m
  rw [h] at hu
  cases hu

/-- from one store to a later one -/
structure Step (C : Ctx) (ρ : List Addr) (H : Hp) (ρ' : List Addr) (H' : Hp) (st' : Sto) : Prop where
  pre : Pre ρ ρ'
  rel : Rel C ρ' H' st'
  ext : Ext ρ H H'
  new : ∀ a, a ∈ ρ' → a ∉ ρ → H a = none
theorem Step.refl (R : Rel C ρ H st) : Step C ρ H ρ H st := ⟨Pre.refl _, R, fun _ _ h _ => h, fun _ h n => absurd h n⟩
theorem Step.trans (a : Step C ρ H ρ1 H1 st1) (b : Step C ρ1 H1 ρ2 H2 st2) : Step C ρ H ρ2 H2 st2 := by
  refine ⟨a.pre.trans b.pre, b.rel, fun x o h n => b.ext x o (a.ext x o h n) ?_, fun x h n => ?_⟩
  · rcases n with n | n
    · refine .inl fun m => ?_
      rw [a.new x m n] at h
      cases h
    · exact .inr n
  · by_cases m : x ∈ ρ1
    · exact a.new x m n
    · have q := b.new x h m
      cases e : H x with
      | none => rfl
      | some o =>
        rw [a.ext x o e (.inl n)] at q
        cases q
/-- the store as it is, the tracked heap grown -/
theorem Step.grow (R : Rel C ρ H st) (e : ∀ a o, H a = some o → H' a = some o) : Step C ρ H ρ H' st := by
  have k : Keep H H' := ⟨fun a o vs h => e a _ h, fun a vs h => e a _ h⟩
  refine ⟨Pre.refl _, ⟨R.len, R.nd, fun i a o h1 h2 => ?_⟩, fun a o h _ => e a o h, fun _ h n => absurd h n⟩
  have q := R.obj i a o h1 h2
  obtain ⟨u, hu, _⟩ := q.is
  exact q.mono (Pre.refl _) k ((e a u hu).trans hu.symm)
theorem grow_upd {a : Addr} {o : HO} (n : H a = none) : ∀ b u, H b = some u → upd H a o b = some u := fun b u h => by
  rw [upd_ne (ne_of_none h n)]
  exact h
/-- a new object in the store -/
theorem Step.alloc {a : Addr} {o : HO} {ob : O} (R : Rel C ρ H st) (n : H a = none) (h : ∀ ρ', Pre ρ ρ' → Keep H (upd H a o) → ObjR C ρ' (upd H a o) a ob) : Step C ρ H (ρ ++ [a]) (upd H a o) (st ++ [ob]) := by
  have k : Keep H (upd H a o) := ⟨fun b u vs q => grow_upd n b _ q, fun b vs q => grow_upd n b _ q⟩
  have na := R.ne_none n
  refine ⟨Pre.add _ _, ⟨by simp [R.len], ?_, fun i b ob' h1 h2 => ?_⟩, fun b u q _ => grow_upd n b u q, fun b m q => ?_⟩
  · rw [List.nodup_append]
    refine ⟨R.nd, by simp, fun x hx y hy => ?_⟩
    have e : y = a := by simpa using hy
    rw [e]
    rintro rfl
    exact na hx
  · by_cases hi : i < ρ.length
    · rw [List.getElem?_append_left hi] at h1
      rw [List.getElem?_append_left (by rw [← R.len]; exact hi)] at h2
      have q := R.obj i b ob' h1 h2
      have nb : b ≠ a := fun e => na (e ▸ List.mem_of_getElem? h1)
      exact q.mono (Pre.add _ _) k (upd_ne nb)
    · have hi2 : i = ρ.length := by
        have := (List.getElem?_eq_some_iff.mp h1).1
        simp at this
        omega
      subst hi2
      have e1 : a = b := by simpa using h1
      have e2 : ob = ob' := by rw [R.len] at h2; simpa using h2
      subst e1 e2
      exact h _ (Pre.add _ _) k
  · have e : b = a := by
      rcases List.mem_append.mp m with m | m
      · exact absurd m q
      · simpa using m
    rw [e]
    exact n
/-- an object of the store written -/
theorem Step.write {i : Nat} {a : Addr} {o : HO} {ob : O} (R : Rel C ρ H st) (ha : ρ[i]? = some a) (nf : ∀ b u, H a ≠ some (.frz b u)) (h : Keep H (upd H a o) → ObjR C ρ (upd H a o) a ob) : Step C ρ H ρ (upd H a o) (st.set i ob) := by
  have ma : a ∈ ρ := List.mem_of_getElem? ha
  obtain ⟨u, hu, q1, q2⟩ := R.there ma
  have k : Keep H (upd H a o) := by
    refine ⟨fun b u vs q => ?_, fun b vs q => ?_⟩
    · rw [upd_ne]
      · exact q
      · rintro rfl
        exact nf _ _ q
    · rw [upd_ne]
      · exact q
      · rintro rfl
        rw [q] at hu
        cases hu
        exact q2 _ rfl
  refine ⟨Pre.refl _, ⟨by simp [R.len], R.nd, fun j b ob' h1 h2 => ?_⟩, fun b u q n => ?_, fun _ m q => absurd m q⟩
  · by_cases hj : j = i
    · subst hj
      rw [ha] at h1
      cases h1
      have hl : j < st.length := by
        rw [← R.len]
        exact (List.getElem?_eq_some_iff.mp ha).1
      rw [List.getElem?_set_self hl] at h2
      cases h2
      exact h k
    · rw [List.getElem?_set_ne (Ne.symm hj)] at h2
      have nb : b ≠ a := fun e => by
        subst e
        obtain ⟨l1, e1⟩ := List.getElem?_eq_some_iff.mp h1
        obtain ⟨l2, e2⟩ := List.getElem?_eq_some_iff.mp ha
        exact hj ((List.getElem_inj R.nd).mp (e1.trans e2.symm))
      exact (R.obj j b ob' h1 h2).mono (Pre.refl _) k (upd_ne nb)
  · rw [upd_ne]
    · exact q
    · rintro rfl
      rcases n with n | ⟨b, z, rfl⟩
      · exact n ma
      · exact nf _ _ q
end

/-! ### the names' slots -/
def EnvR (C : Ctx) (ρ : List Addr) (H : Hp) (env : Env) (σ : L2.St) : Prop := env.length = σ.length ∧ ∀ (i : Nat) (d : D), env[i]? = some (some d) → ∃ v, σ[i]? = some (some v) ∧ RelD C ρ H d v
theorem EnvR.mono {C : Ctx} {ρ ρ' : List Addr} {H H' : Hp} {env : Env} {σ : L2.St} (h : EnvR C ρ H env σ) (p : Pre ρ ρ') (k : Keep H H') : EnvR C ρ' H' env σ :=
  ⟨h.1, fun i d e => let ⟨v, q, r⟩ := h.2 i d e; ⟨v, q, RelD.mono p k d v r⟩⟩
theorem EnvR.set {C : Ctx} {ρ : List Addr} {H : Hp} {env : Env} {σ : L2.St} {i : Nat} {d : D} {v : V} (h : EnvR C ρ H env σ) (r : RelD C ρ H d v) : EnvR C ρ H (env.set i (some d)) (σ.set i (some v)) := by
  refine ⟨by simp [h.1], fun j e q => ?_⟩
  by_cases hj : i = j
  · subst hj
    by_cases hl : i < env.length
    · rw [List.getElem?_set_self hl] at q
      cases q
      exact ⟨v, List.getElem?_set_self (by rw [← h.1]; exact hl), r⟩
    · rw [List.getElem?_eq_none (by simpa using hl)] at q
      cases q
  · rw [List.getElem?_set_ne hj] at q ⊢
    exact h.2 j e q
theorem EnvR.unset {C : Ctx} {ρ : List Addr} {H : Hp} {env : Env} {σ : L2.St} {i : Nat} {o : Option V} (h : EnvR C ρ H env σ) : EnvR C ρ H (env.set i none) (σ.set i o) := by
  refine ⟨by simp [h.1], fun j e q => ?_⟩
  by_cases hj : i = j
  · subst hj
    by_cases hl : i < env.length
    · rw [List.getElem?_set_self hl] at q
      cases q
    · rw [List.getElem?_eq_none (by simpa using hl)] at q
      cases q
  · rw [List.getElem?_set_ne hj] at q ⊢
    exact h.2 j e q
theorem EnvR.wipe {C : Ctx} {ρ : List Addr} {H : Hp} {env : Env} {σ : L2.St} (h : EnvR C ρ H env σ) : ∀ vs : List Nat, EnvR C ρ H (wipeE env vs) (wipe σ vs)
  | [] => h
  | v :: vs => by
    unfold wipeE L2.wipe
    exact EnvR.unset (EnvR.wipe h vs)
theorem Step.env {C : Ctx} {ρ ρ' : List Addr} {H H' : Hp} {st st' : Sto} {env : Env} {σ : L2.St} (s : Step C ρ H ρ' H' st') (R : Rel C ρ H st) (h : EnvR C ρ H env σ) : EnvR C ρ' H' env σ := h.mono s.pre (R.keep s.ext)
theorem Step.val {C : Ctx} {ρ ρ' : List Addr} {H H' : Hp} {st st' : Sto} {d : D} {v : V} (s : Step C ρ H ρ' H' st') (R : Rel C ρ H st) (h : RelD C ρ H d v) : RelD C ρ' H' d v := h.mono s.pre (R.keep s.ext) d v
theorem Step.vals {C : Ctx} {ρ ρ' : List Addr} {H H' : Hp} {st st' : Sto} {ds : List D} {vs : List V} (s : Step C ρ H ρ' H' st') (R : Rel C ρ H st) (h : RelDs C ρ H ds vs) : RelDs C ρ' H' ds vs := h.mono s.pre (R.keep s.ext) ds vs

/-! ### what an evaluation says -/
def ExcR (C : Ctx) (ρ : List Addr) (H : Hp) (x : Exn) (dx : Addr) : Prop := ∃ fs vs, H dx = some (.xd fs) ∧ RelDs C ρ H x.vs vs ∧ ∀ (i : Nat) (f : Str) (v : V), (C.fl x.cls)[i]? = some f → vs[i]? = some v → fs.lookup f = some v
/-- whatever it ends with is wanted -/
def Post {α β : Type} (C : Ctx) (ρ : List Addr) (H : Hp) (rel : List Addr → Hp → Sto → α → β → Prop) (Q : β → Hp → Prop) (W : XK) : Res α → Prop
  | .ok a st' => ∀ b H' ρ', Step C ρ H ρ' H' st' → rel ρ' H' st' a b → Q b H'
  | .exc x st' => ∀ dx H' ρ', Step C ρ H ρ' H' st' → ExcR C ρ' H' x dx → W (.ref (C.ca x.cls)) (some dx) H'
  | .bad => False
section
variable {α β : Type} {C : Ctx} {ρ ρ1 : List Addr} {H H1 : Hp} {st1 : Sto} {rel : List Addr → Hp → Sto → α → β → Prop} {Q Q' : β → Hp → Prop} {W : XK} {r : Res α}
theorem Post.at_ (h : Post C ρ H rel Q W r) (s : Step C ρ H ρ1 H1 st1) : Post C ρ1 H1 rel Q W r := by
  cases r with
  | ok a st' => exact fun b H' ρ' s' q => h b H' ρ' (s.trans s') q
  | exc x st' => exact fun dx H' ρ' s' q => h dx H' ρ' (s.trans s') q
  | bad => exact h
theorem Post.imp (h : Post C ρ H rel Q W r) (k : ∀ b H', Q b H' → Q' b H') : Post C ρ H rel Q' W r := by
  cases r with
  | ok a st' => exact fun b H' ρ' s' q => k _ _ (h b H' ρ' s' q)
  | exc x st' => exact h
  | bad => exact h
end
abbrev relV (C : Ctx) : List Addr → Hp → Sto → D → V → Prop := fun ρ H _ d v => RelD C ρ H d v
abbrev relB : List Addr → Hp → Sto → Bool → Bool → Prop := fun _ _ _ a b => a = b
abbrev relA (C : Ctx) : List Addr → Hp → Sto → List D → List V → Prop := fun ρ H _ ds vs => RelDs C ρ H ds vs
/-- first one, then the other -/
theorem Post.bind {α β α' β' : Type} {C : Ctx} {ρ : List Addr} {H : Hp} {rel : List Addr → Hp → Sto → α → β → Prop} {rel' : List Addr → Hp → Sto → α' → β' → Prop} {Q : β' → Hp → Prop} {W : XK} {r : Res α} {f : α → Sto → Res α'}
    (h : Post C ρ H rel' Q W (r.bind f)) : Post C ρ H rel (fun b H1 => ∃ a st1 ρ1, Step C ρ H ρ1 H1 st1 ∧ rel ρ1 H1 st1 a b ∧ r = .ok a st1 ∧ Post C ρ1 H1 rel' Q W (f a st1)) W r := by
  cases r with
  | ok a st' => exact fun b H' ρ' s q => ⟨a, st', ρ', s, q, rfl, Post.at_ h s⟩
  | exc x st' => exact h
  | bad => exact h
end EV

-- part EvTup
set_option Elab.async false
set_option linter.all false
set_option maxRecDepth 100000
/-! Tuples whose object is known from their making. -/
namespace EV
open PySem PySem.Spec PyProof.Rows L2
section
variable {X : Cx} {es : List Expr} {t : TA} {pos : Pos}
/-- a new tuple: what every place and object without a dict does -/
def NewT (vs : List V) (H : Hp) (Q : VK) : Prop := ∀ (p : Addr) (o : Obj), H p = none → o.dict = none → Q (.ref p) (upd H p (.frz o (.tup vs)))
theorem laidT {pins : List (Addr × Obj)} {σ : L2.St} {H : Hp} {s : Shared} {vs : List V} {us : List Value} {h' : Heap} {tk n : Nat} (I : Inv X pins σ H s) (hz : vs.length ≤ sizeLine) (r : Vals vs us) (kp : ∀ b o, s.heap.get? b = some o → h'.get? b = some o) {p : Addr} (hp : s.heap.objs.size ≤ p)
    (e : h'.get? p = some { cls := .type "tuple", data := .seq us.toArray n }) : Inv X pins σ (upd H p (.frz { cls := .type "tuple", data := .seq us.toArray n } (.tup vs))) { s with heap := h', toks := tk } :=
  I.laid (t' := tk) kp hp ⟨e, hz, us, r, ⟨_, e, rfl, _, rfl⟩⟩
def tTupF (t : TA) : TE := fun σ H Q => t σ H fun xs H1 => xs.length ≤ sizeLine ∧ NewT xs H1 Q
theorem pe_tupF {x1} (h : PA X es t) : PE X (.Tuple es x1 pos) (tTupF t) := by
  refine ⟨fun pins s σ H Q I hq => ?_⟩
  refine wpAny_Tuple_spliced (thn (h.run pos pins s σ H _ I hq) fun us s1 ⟨xs, H1, I1, r, z, q⟩ => ⟨by rw [← r.length]; exact z, ?_⟩)
  refine ⟨.ref s1.heap.objs.size, _, laidT (tk := s1.toks) I1 z r (fun b u e => Heap.get?_push_of_some _ e) (Nat.le_refl _) (Heap.get?_push_size _ rfl), rfl, q _ _ (I1.hok.fresh (Nat.le_refl _)) rfl⟩
theorem call_tupleF : CallR X (.type "tuple") (fun xs H Q => ∃ p ys, xs = [.ref p] ∧ ((SqL X.K H p ys ∧ NewT ys H Q) ∨ (SqT X.K H p ys ∧ Q (.ref p) H))) := by
  intro pins s σ H xs us Q I r h
  obtain ⟨p, ys, rfl, h⟩ := h
  rcases h with ⟨hq, q⟩ | ⟨hq, q⟩
  · obtain ⟨u, rfl, rx⟩ := vals1 r
    cases rx
    obtain ⟨its, rv, pl, hz⟩ := I.list hq
    have len := rv.length
    refine call_tuple_list pl.isList (fun hp kp => ?_) (by simp only [List.size_toArray] <;> omega)
    have J := I.kept (h' := hp) (t' := s.toks) kp
    exact ⟨.ref hp.objs.size, _, laidT (tk := s.toks) J hz rv (fun b o e => Heap.get?_push_of_some _ e) (Nat.le_refl _) (Heap.get?_push_size _ rfl), rfl, q _ _ (J.hok.fresh (Nat.le_refl _)) rfl⟩
  · exact call_tuple_of pins s σ H _ us Q I r ⟨p, ys, rfl, .inr ⟨hq, q⟩⟩
def rCatF (K : PySem.W.Frag) : R2 := fun x y H Q => ∃ a b xs ys, x = .ref a ∧ y = .ref b ∧ SqT K H a xs ∧ SqT K H b ys ∧ xs.length + ys.length ≤ sizeLine ∧
  (xs = [] → Q (.ref b) H) ∧ (xs ≠ [] → ys = [] → Q (.ref a) H) ∧ (xs ≠ [] → ys ≠ [] → NewT (xs ++ ys) H Q)
theorem op_catF : OpR X (binaryOp .Add) (rCatF X.K) := by
  intro pins s σ H x y v u Q I rx ry h
  obtain ⟨a, b, xs, ys, rfl, rfl, ha, hb, hz, q0, q1, q2⟩ := h
  by_cases hx : xs = []
  · exact op_catA pins s σ H _ _ v u Q I rx ry ⟨a, b, xs, ys, rfl, rfl, ha, hb, hz, q0, fun z => absurd hx z, fun z => absurd hx z⟩
  · by_cases hy : ys = []
    · exact op_catA pins s σ H _ _ v u Q I rx ry ⟨a, b, xs, ys, rfl, rfl, ha, hb, hz, q0, q1, fun _ z => absurd hy z⟩
    · cases rx
      cases ry
      obtain ⟨its, r1, p1, _⟩ := I.tuple ha
      obtain ⟨jts, r2, p2, _⟩ := I.tuple hb
      have hl : (xs ++ ys).length ≤ sizeLine := by rw [List.length_append]; exact hz
      refine HT.cat_tup p1 p2 (fun z => hx (r1.nil_iff.mp z)) (fun z => absurd (r2.nil_iff.mp z) hy) (fun z => ?_) (by rw [← r1.length, ← r2.length]; exact hz)
      exact ⟨.ref s.heap.objs.size, _, laidT (tk := s.toks) I hl (r1.append r2) (fun b ob q => Heap.get?_push_of_some _ q) (Nat.le_refl _) (Heap.get?_push_size _ rfl), rfl, q2 hx hy _ _ (I.hok.fresh (Nat.le_refl _)) rfl⟩
def rSlF (K : PySem.W.Frag) : V → Option Int → Option Int → Hp → VK → Prop := fun x lo hi H Q => ∃ a xs, x = .ref a ∧ SqT K H a xs ∧
  (HT.sIx xs.length 0 lo = 0 ∧ HT.sIx xs.length xs.length hi = xs.length → Q (.ref a) H) ∧ (¬ (HT.sIx xs.length 0 lo = 0 ∧ HT.sIx xs.length xs.length hi = xs.length) → NewT (cutV xs lo hi) H Q)
theorem sl_tupF : SlR X (rSlF X.K) := by
  intro pins s σ H x v vl vu lo hi sl Q I rx hs pl pu h
  obtain ⟨a, xs, rfl, hx, q1, q2⟩ := h
  by_cases hw : HT.sIx xs.length 0 lo = 0 ∧ HT.sIx xs.length xs.length hi = xs.length
  · exact sl_tupA pins s σ H _ v vl vu lo hi sl Q I rx hs pl pu ⟨a, xs, rfl, hx, q1, fun z => absurd hw z⟩
  · cases rx
    obtain ⟨its, r, ht, hz⟩ := I.tuple hx
    have hn : its.toArray.size = xs.length := by rw [List.size_toArray]; exact r.length.symm
    refine ⟨"tuple", _, PyProof.Rows.slot_tuple_getitem.lookup, ht.typeIs, HT.getItem_tuple_cut ht hs pl pu (by rw [hn]; exact hw) ?_ (by rw [hn]; exact hz)⟩
    rw [hn]
    exact ⟨.ref s.heap.objs.size, _, laidT (tk := s.toks) I (Nat.le_trans (cutV_length xs lo hi) hz) ((r.drop _).take _) (fun b ob q => Heap.get?_push_of_some _ q) (Nat.le_refl _) (Heap.get?_push_size _ rfl), rfl, q2 hw _ _ (I.hok.fresh (Nat.le_refl _)) rfl⟩
end
end EV

-- part EvOps
set_option Elab.async false
set_option linter.all false
set_option maxRecDepth 100000
/-! The operators by values. -/
namespace EV
open PySem PySem.Spec PyProof.Rows L2

section
variable {C : Ctx} {ρ : List Addr} {H : Hp} {st : Sto} {Q : VK} {W : XK} {d : D} {v : V} {xs ys : List D} {vs ws' : List V}
theorem Post.here (R : Rel C ρ H st) (r : RelD C ρ H d v) (p : Post C ρ H (relV C) Q W (.ok d st)) : Q v H := p v H ρ (Step.refl R) r
theorem Post.lst (R : Rel C ρ H st) (r : RelDs C ρ H xs vs) (p : Post C ρ H (relV C) Q W (alloc (.lst xs) st)) (a : Addr) (n : H a = none) : Q (.ref a) (upd H a (.lst vs)) :=
  p (.ref a) _ (ρ ++ [a]) (Step.alloc R n fun ρ' pr k => ⟨vs, upd_same, RelDs.mono pr k _ _ r⟩) (by simp only [RelD]; exact ⟨a, by rw [← R.len]; simp, rfl⟩)
theorem Post.tup (R : Rel C ρ H st) (r : RelDs C ρ H xs vs) (p : Post C ρ H (relV C) Q W (.ok (.tup xs) st)) (a : Addr) (n : H a = none) (o : Obj) (ho : o.dict = none) : Q (.ref a) (upd H a (.frz o (.tup vs))) :=
  p (.ref a) _ ρ (Step.grow R (grow_upd n)) (by
    simp only [RelD]
    exact ⟨a, vs, rfl, .inl ⟨o, upd_same, ho⟩, RelDs.mono (Pre.refl _) ⟨fun b u z q => grow_upd n b _ q, fun b z q => grow_upd n b _ q⟩ _ _ r⟩)
theorem RelDs.length : ∀ {xs : List D} {vs : List V}, RelDs C ρ H xs vs → xs.length = vs.length
  | [], vs, h => by simp only [RelDs] at h; rw [h] <;> rfl
  | d :: ds, vs, h => by
    simp only [RelDs] at h
    obtain ⟨v, r, rfl, _, q⟩ := h
    simp [RelDs.length q]
theorem RelDs.append : ∀ {xs ys : List D} {vs us : List V}, RelDs C ρ H xs vs → RelDs C ρ H ys us → RelDs C ρ H (xs ++ ys) (vs ++ us)
  | [], ys, vs, us, h, q => by
    simp only [RelDs] at h
    subst h
    exact q
  | d :: ds, ys, vs, us, h, q => by
    simp only [RelDs] at h
    obtain ⟨v, r, rfl, a, b⟩ := h
    show RelDs C ρ H (d :: (ds ++ ys)) (v :: r ++ us)
    simp only [RelDs]
    exact ⟨v, r ++ us, rfl, a, RelDs.append b q⟩
theorem RelDs.get : ∀ {xs : List D} {vs : List V} {i : Nat} {d : D}, RelDs C ρ H xs vs → xs[i]? = some d → ∃ v, vs[i]? = some v ∧ RelD C ρ H d v
  | [], vs, i, d, h, e => by simp at e
  | x :: r, vs, 0, d, h, e => by
    simp only [RelDs] at h
    obtain ⟨v, t, rfl, a, b⟩ := h
    have e' : x = d := by simpa using e
    subst e'
    exact ⟨v, rfl, a⟩
  | x :: r, vs, i + 1, d, h, e => by
    simp only [RelDs] at h
    obtain ⟨v, t, rfl, a, b⟩ := h
    exact RelDs.get (i := i) b (by simpa using e)
theorem RelDs.take : ∀ {xs : List D} {vs : List V} (n : Nat), RelDs C ρ H xs vs → RelDs C ρ H (xs.take n) (vs.take n)
  | xs, vs, 0, h => by simp [RelDs]
  | [], vs, n + 1, h => by simp only [RelDs] at h; subst h; simp [RelDs]
  | x :: r, vs, n + 1, h => by
    simp only [RelDs] at h
    obtain ⟨v, t, rfl, a, b⟩ := h
    simp only [List.take_succ_cons, RelDs]
    exact ⟨v, _, rfl, a, RelDs.take n b⟩
theorem RelDs.drop : ∀ {xs : List D} {vs : List V} (n : Nat), RelDs C ρ H xs vs → RelDs C ρ H (xs.drop n) (vs.drop n)
  | xs, vs, 0, h => h
  | [], vs, n + 1, h => by simp only [RelDs] at h; subst h; simp [RelDs]
  | x :: r, vs, n + 1, h => by
    simp only [RelDs] at h
    obtain ⟨v, t, rfl, a, b⟩ := h
    exact RelDs.drop n b
theorem RelDs.cut {lo hi : Option Int} (h : RelDs C ρ H xs vs) : RelDs C ρ H (cutOf xs lo hi) (cutV vs lo hi) := by
  have e := h.length
  unfold cutOf cutV
  rw [e]
  exact RelDs.take _ (RelDs.drop _ h)
theorem RelDs.set : ∀ {xs : List D} {vs : List V} (i : Nat), RelDs C ρ H xs vs → RelD C ρ H d v → RelDs C ρ H (xs.set i d) (vs.set i v)
  | [], vs, i, h, q => by simp only [RelDs] at h; subst h; simp [RelDs]
  | x :: r, vs, 0, h, q => by
    simp only [RelDs] at h
    obtain ⟨w, t, rfl, a, b⟩ := h
    simp only [List.set_cons_zero, RelDs]
    exact ⟨v, t, rfl, q, b⟩
  | x :: r, vs, i + 1, h, q => by
    simp only [RelDs] at h
    obtain ⟨w, t, rfl, a, b⟩ := h
    simp only [List.set_cons_succ, RelDs]
    exact ⟨w, _, rfl, a, RelDs.set i b q⟩
theorem RelDs.one (h : RelD C ρ H d v) : RelDs C ρ H [d] [v] := by
  simp only [RelDs]
  exact ⟨v, [], rfl, h, rfl⟩
theorem RelDs.at_ {i : Int} {d : D} (h : RelDs C ρ H xs vs) (e : L2.atI xs i = some d) : ∃ v, L2.atI vs i = some v ∧ RelD C ρ H d v := by
  unfold L2.atI at e ⊢
  rw [← h.length]
  cases q : L2.ixN xs.length i with
  | none => rw [q] at e; cases e
  | some j =>
    rw [q] at e
    exact h.get e
theorem Rel.lst {i : Nat} {a : Addr} (R : Rel C ρ H st) (ha : ρ[i]? = some a) (hs : st[i]? = some (.lst xs)) : ∃ vs, H a = some (.lst vs) ∧ RelDs C ρ H xs vs := R.obj i a _ ha hs
theorem Rel.frz {i : Nat} {a : Addr} (R : Rel C ρ H st) (ha : ρ[i]? = some a) (hs : st[i]? = some (.frz xs)) : ∃ vs o, H a = some (.frz o (.lst vs)) ∧ RelDs C ρ H xs vs := R.obj i a _ ha hs
theorem Rel.dctR {i : Nat} {a : Addr} {kvs : List (D × D)} (R : Rel C ρ H st) (ha : ρ[i]? = some a) (hs : st[i]? = some (.dct kvs) ∨ st[i]? = some (.fdc kvs)) : ∃ vs, Rd H a (.dK vs) ∧ RelKV C ρ H kvs vs := by
  rcases hs with hs | hs
  · obtain ⟨vs, h, r⟩ := R.obj i a _ ha hs
    exact ⟨vs, .inl h, r⟩
  · obtain ⟨vs, o, h, r⟩ := R.obj i a _ ha hs
    exact ⟨vs, .inr ⟨o, h⟩, r⟩
theorem Rel.dct {i : Nat} {a : Addr} {kvs : List (D × D)} (R : Rel C ρ H st) (ha : ρ[i]? = some a) (hs : st[i]? = some (.dct kvs)) : ∃ vs, H a = some (.dK vs) ∧ RelKV C ρ H kvs vs := R.obj i a _ ha hs
/-- a list that is read -/
theorem Rel.sq {i : Nat} {a : Addr} {K : PySem.W.Frag} (R : Rel C ρ H st) (ha : ρ[i]? = some a) (hs : st[i]? = some (.lst xs) ∨ st[i]? = some (.frz xs)) : ∃ vs, SqL K H a vs ∧ RelDs C ρ H xs vs := by
  rcases hs with hs | hs
  · obtain ⟨vs, h1, h2⟩ := R.lst ha hs
    exact ⟨vs, SqL.of h1, h2⟩
  · obtain ⟨vs, o, h1, h2⟩ := R.frz ha hs
    exact ⟨vs, .inl (.inr ⟨o, h1⟩), h2⟩
theorem Rel.here {i : Nat} {a : Addr} {o : O} (R : Rel C ρ H st) (hs : st[i]? = some o) : ∃ a, ρ[i]? = some a := by
  have := (List.getElem?_eq_some_iff.mp hs).1
  rw [← R.len] at this
  exact ⟨_, List.getElem?_eq_getElem this⟩
end

/-! ### readings by values -/
def rF2 (C : Ctx) (f : Op2) : R2 := fun x y H Q => ∃ (W : XK) (ρ : List Addr) (st : Sto) (a b : D), RelD C ρ H a x ∧ RelD C ρ H b y ∧ Rel C ρ H st ∧ Post C ρ H (relV C) Q W (f a b st)
def rF1 (C : Ctx) (f : D → Sto → Res D) : V → Hp → VK → Prop := fun x H Q => ∃ (W : XK) (ρ : List Addr) (st : Sto) (a : D), RelD C ρ H a x ∧ Rel C ρ H st ∧ Post C ρ H (relV C) Q W (f a st)
def rFn (C : Ctx) (f : BF) : List V → Hp → VK → Prop := fun xs H Q => ∃ (W : XK) (ρ : List Addr) (st : Sto) (ds : List D), RelDs C ρ H ds xs ∧ Rel C ρ H st ∧ Post C ρ H (relV C) Q W (f ds st)

section
variable {X : Cx} {C : Ctx}
theorem rel_int {C : Ctx} {ρ : List Addr} {H : Hp} {i : Int} : RelD C ρ H (.int i) (.int i) := by simp only [RelD]
theorem rel_bl {C : Ctx} {ρ : List Addr} {H : Hp} {b : Bool} : RelD C ρ H (.bl b) (.bl b) := by simp only [RelD]
theorem rel_non {C : Ctx} {ρ : List Addr} {H : Hp} : RelD C ρ H .non .non := by simp only [RelD]
theorem opI_ok {op : Operator} {f : Op2} {g : Int → Int → Int} {P : Int → Int → Bool} (hf : ∀ i j st, f (.int i) (.int j) st = if P i j then .ok (.int (g i j)) st else .bad)
    {r : R2} (ho : OpR X (binaryOp op) r) (hr : ∀ i j H (Q : VK), P i j = true → Q (.int (g i j)) H → r (.int i) (.int j) H Q)
    (hn : ∀ a b st, (∀ i j, ¬ (a = .int i ∧ b = .int j)) → f a b st = .bad) : OpR X (binaryOp op) (rF2 C f) := by
  intro pins s σ H x y v u Q I rx ry h
  obtain ⟨W, ρ, st, a, b, ra, rb, R, p⟩ := h
  by_cases q : ∃ i j, a = .int i ∧ b = .int j
  · obtain ⟨i, j, rfl, rfl⟩ := q
    rw [hf] at p
    by_cases c : P i j = true
    · rw [if_pos c] at p
      simp only [RelD] at ra rb
      subst ra rb
      exact ho pins s σ H _ _ v u Q I rx ry (hr i j H Q c (p.here R rel_int))
    · rw [if_neg c] at p
      exact p.elim
  · rw [hn a b st fun i j e => q ⟨i, j, e⟩] at p
    exact p.elim

theorem opSub_ok : OpR X (binaryOp .Sub) (rF2 C opSub) := opI_ok (P := fun _ _ => true) (g := fun i j => i - j) (fun _ _ _ => rfl) op_sub (fun i j H Q _ q => ⟨i, j, rfl, rfl, q⟩)
  (fun a b st h => by cases a <;> cases b <;> first | rfl | exact absurd ⟨rfl, rfl⟩ (h _ _))
theorem opFdiv_ok : OpR X (binaryOp .FloorDiv) (rF2 C opFdiv) := opI_ok (P := fun _ j => decide (0 < j) && decide (j < 1073741824)) (g := fun i j => i / j) (fun _ _ _ => rfl) op_fdiv
  (fun i j H Q c q => by
    rw [Bool.and_eq_true, decide_eq_true_eq, decide_eq_true_eq] at c
    exact ⟨i, j, rfl, rfl, c, q⟩)
  (fun a b st h => by cases a <;> cases b <;> first | rfl | exact absurd ⟨rfl, rfl⟩ (h _ _))
theorem opMod_ok : OpR X (binaryOp .Mod) (rF2 C opMod) := opI_ok (P := fun _ j => decide (0 < j)) (g := fun i j => i % j) (fun _ _ _ => rfl) op_mod
  (fun i j H Q c q => ⟨i, j, rfl, rfl, of_decide_eq_true c, q⟩)
  (fun a b st h => by cases a <;> cases b <;> first | rfl | exact absurd ⟨rfl, rfl⟩ (h _ _))
theorem small64_of {i : Int} (h : small64 i = true) : i.natAbs < 2 ^ 64 := by
  have := Nat.blt_eq.mp h
  omega
theorem opPow_ok : OpR X (binaryOp .Pow) (rF2 C opPow) := opI_ok (P := fun i j => decide (0 ≤ j) && decide (j ≤ 1000000) && small64 i) (g := fun i j => i ^ j.toNat) (fun _ _ _ => rfl) op_pow
  (fun i j H Q c q => by
    rw [Bool.and_eq_true, Bool.and_eq_true, decide_eq_true_eq, decide_eq_true_eq] at c
    exact ⟨i, j, rfl, rfl, ⟨c.1.1, c.1.2, small64_of c.2⟩, q⟩)
  (fun a b st h => by cases a <;> cases b <;> first | rfl | exact absurd ⟨rfl, rfl⟩ (h _ _))

theorem rel_str {C : Ctx} {ρ : List Addr} {H : Hp} {x : List Nat} (h1 : x.length ≤ sizeLine) (h2 : x.all (Nat.blt · 0x110000) = true) : RelD C ρ H (.str x) (.str (ws x)) := by
  simp only [RelD]
  exact ⟨trivial, h1, h2⟩
theorem ws_append (x y : List Nat) : ws x ++ ws y = ws (x ++ y) := by
  show Str.mk (x.toArray ++ y.toArray) = Str.mk (x ++ y).toArray
  simp
theorem ws_length (x : List Nat) : (ws x).length = x.length := by
  show x.toArray.size = _
  simp
theorem line_eq : line = sizeLine := sizeLine_eq.symm
theorem le_line {n : Nat} (h : Nat.ble n line = true) : n ≤ sizeLine := by
  rw [← line_eq]
  exact Nat.le_of_ble_eq_true h
theorem rel_tup_iff {ρ : List Addr} {H : Hp} {xs : List D} {v : V} : RelD C ρ H (.tup xs) v ↔ ∃ a vs, v = .ref a ∧ Tp C.K H a vs ∧ RelDs C ρ H xs vs := by simp only [RelD]
theorem rel_lst_iff {ρ : List Addr} {H : Hp} {xs : List D} {v : V} : RelD C ρ H (.lst xs) v ↔ ∃ a vs, v = .ref a ∧ FL C.K H a vs ∧ RelDs C ρ H xs vs := by simp only [RelD]
theorem rel_ref_iff {ρ : List Addr} {H : Hp} {i : Nat} {v : V} : RelD C ρ H (.ref i) v ↔ ∃ a, ρ[i]? = some a ∧ v = .ref a := by simp only [RelD]
theorem rel_str_iff {ρ : List Addr} {H : Hp} {x : List Nat} {v : V} : RelD C ρ H (.str x) v ↔ v = .str (ws x) ∧ x.length ≤ sizeLine ∧ x.all (Nat.blt · 0x110000) = true := by simp only [RelD]
theorem rel_int_iff {ρ : List Addr} {H : Hp} {i : Int} {v : V} : RelD C ρ H (.int i) v ↔ v = .int i := by simp only [RelD]
theorem rel_bl_iff {ρ : List Addr} {H : Hp} {i : Bool} {v : V} : RelD C ρ H (.bl i) v ↔ v = .bl i := by simp only [RelD]
theorem rel_non_iff {ρ : List Addr} {H : Hp} {v : V} : RelD C ρ H .non v ↔ v = .non := by simp only [RelD]
/-- the cases of a matched store -/
theorem opAdd_ok (hK : X.K = C.K) : OpR X (binaryOp .Add) (rF2 C opAdd) := by
  intro pins s σ H x y v u Q I rx ry h
  obtain ⟨W, ρ, st, a, b, ra, rb, R, p⟩ := h
  cases a with
  | int i =>
    cases b with
    | int j =>
      rw [rel_int_iff] at ra rb
      subst ra rb
      exact op_add pins s σ H _ _ v u Q I rx ry ⟨i, j, rfl, rfl, p.here R rel_int⟩
    | _ => exact p.elim
  | str a =>
    cases b with
    | str b =>
      rw [rel_str_iff] at ra rb
      obtain ⟨rfl, a1, a2⟩ := ra
      obtain ⟨rfl, b1, b2⟩ := rb
      have p' : Post C ρ H (relV C) Q W (if strOk (a ++ b) then .ok (.str (a ++ b)) st else .bad) := p
      split at p'
      · rename_i hz
        have hz' := le_line hz
        refine op_add_str pins s σ H _ _ v u Q I rx ry ⟨ws a, ws b, rfl, rfl, ?_, ?_⟩
        · rw [ws_length, ws_length, ← List.length_append]
          exact hz'
        · rw [ws_append]
          refine p'.here R (rel_str hz' ?_)
          rw [List.all_append, a2, b2] <;> rfl
      · exact p'.elim
    | _ => exact p.elim
  | tup xs =>
    cases b with
    | tup ys =>
      rw [rel_tup_iff] at ra rb
      obtain ⟨a, vs, rfl, ta, da⟩ := ra
      obtain ⟨b, us, rfl, tb, db⟩ := rb
      have p' : Post C ρ H (relV C) Q W (if Nat.ble (xs ++ ys).length line then .ok (.tup (xs ++ ys)) st else .bad) := p
      split at p'
      · rename_i hz
        have hz' := le_line hz
        rw [List.length_append, da.length, db.length] at hz'
        refine op_catF pins s σ H _ _ v u Q I rx ry ⟨a, b, vs, us, rfl, rfl, by rw [hK]; exact ta.sq, by rw [hK]; exact tb.sq, hz', fun e => ?_, fun _ e => ?_, fun _ _ q o hq ho => p'.tup R (da.append db) q hq o ho⟩
        · subst e
          have e0 : xs = [] := List.length_eq_zero_iff.mp da.length
          subst e0
          exact p'.here R (rel_tup_iff.mpr ⟨b, us, rfl, tb, db⟩)
        · subst e
          have e0 : ys = [] := List.length_eq_zero_iff.mp db.length
          subst e0
          rw [List.append_nil] at p'
          exact p'.here R (rel_tup_iff.mpr ⟨a, vs, rfl, ta, da⟩)
      · exact p'.elim
    | _ => exact p.elim
  | ref i =>
    cases b with
    | ref j =>
      rw [rel_ref_iff] at ra rb
      obtain ⟨a, ha, rfl⟩ := ra
      obtain ⟨b, hb, rfl⟩ := rb
      have p' : Post C ρ H (relV C) Q W (match st[i]?, st[j]? with
        | some (.lst xs), some (.lst ys) => mkLst (xs ++ ys) st
        | _, _ => .bad) := p
      split at p'
      · rename_i xs ys e1 e2
        obtain ⟨vs, h1, d1⟩ := R.lst ha e1
        obtain ⟨us, h2, d2⟩ := R.lst hb e2
        unfold mkLst at p'
        split at p'
        · rename_i hz
          have hz' := le_line hz
          rw [List.length_append, d1.length, d2.length] at hz'
          exact op_cat pins s σ H _ _ v u Q I rx ry ⟨a, b, vs, us, rfl, rfl, h1, h2, hz', p'.lst R (d1.append d2)⟩
        · exact p'.elim
      · exact p'.elim
    | _ => exact p.elim
  | _ => cases b <;> exact p.elim
theorem RelDs.rep {ρ : List Addr} {H : Hp} {xs : List D} {vs : List V} (h : RelDs C ρ H xs vs) : ∀ n : Nat, RelDs C ρ H (List.replicate n xs).flatten (List.replicate n vs).flatten
  | 0 => by simp [RelDs]
  | n + 1 => by
    rw [List.replicate_succ, List.replicate_succ, List.flatten_cons, List.flatten_cons]
    exact h.append (RelDs.rep h n)
theorem small62_of {i : Int} (h : small62 i = true) : -4611686018427387904 ≤ i ∧ i < 4611686018427387904 := by
  unfold small62 at h
  rw [Bool.and_eq_true, decide_eq_true_eq, decide_eq_true_eq] at h
  exact h
theorem opMul_ok (hK : X.K = C.K) : OpR X (binaryOp .Mult) (rF2 C opMul) := by
  intro pins s σ H x y v u Q I rx ry h
  obtain ⟨W, ρ, st, a, b, ra, rb, R, p⟩ := h
  cases a with
  | int i =>
    cases b with
    | int j =>
      rw [rel_int_iff] at ra rb
      subst ra rb
      have p' : Post C ρ H (relV C) Q W (if small64 i || small64 j then .ok (.int (i * j)) st else .bad) := p
      split at p'
      · rename_i hc
        refine op_mul pins s σ H _ _ v u Q I rx ry ⟨i, j, rfl, rfl, ?_, p'.here R rel_int⟩
        rcases Bool.or_eq_true_iff.mp hc with z | z
        · have := small64_of z
          exact .inl (by omega)
        · have := small64_of z
          exact .inr (by omega)
      · exact p'.elim
    | _ => exact p.elim
  | ref i =>
    cases b with
    | int k =>
      rw [rel_ref_iff] at ra
      rw [rel_int_iff] at rb
      obtain ⟨a, ha, rfl⟩ := ra
      subst rb
      have p' : Post C ρ H (relV C) Q W (match st[i]? with
        | some (.lst xs) => if small62 k && Nat.ble (xs.length * k.toNat) line then alloc (.lst (List.replicate k.toNat xs).flatten) st else .bad
        | _ => .bad) := p
      split at p'
      · rename_i xs e1
        obtain ⟨vs, h1, d1⟩ := R.lst ha e1
        split at p'
        · rename_i hc
          rw [Bool.and_eq_true] at hc
          have hz := le_line hc.2
          have hk := small62_of hc.1
          rw [d1.length] at hz
          exact op_rep pins s σ H _ _ v u Q I rx ry ⟨a, k, vs, rfl, rfl, h1, by omega, by omega, hz, p'.lst R (d1.rep _)⟩
        · exact p'.elim
      · exact p'.elim
    | _ => exact p.elim
  | _ => cases b <;> exact p.elim

/-! ### data as a whole -/
mutual
def py : D → PyData
  | .non => .none
  | .bl b => .bool b
  | .int i => .int i
  | .str x => .str (ws x)
  | .tup xs => .tuple (pys xs)
  | .lst xs => .list (pys xs)
  | .ref _ => .none
  | .exn _ _ => .none
def pys : List D → List PyData
  | [] => []
  | d :: ds => py d :: pys ds
end
mutual
def isT : D → Bool
  | .tup xs => isTs xs
  | .lst xs => isTs xs
  | .ref _ => false
  | .exn _ _ => false
  | _ => true
def isTs : List D → Bool
  | [] => true
  | d :: ds => isT d && isTs ds
end
theorem ws_beq (x y : List Nat) : (x == y) = (ws x == ws y) := by
  by_cases e : x = y
  · subst e
    simp
  · have e' : ¬ ws x = ws y := fun q => e (by have := congrArg (fun z : Str => z.cps.toList) q; simpa using this)
    rw [beq_eq_false_iff_ne.mpr e, beq_eq_false_iff_ne.mpr e']
mutual
theorem eqT_py : ∀ a b : D, isT a = true → isT b = true → eqT a b = PyData.eqv (py a) (py b)
  | .non, b, h, q => by cases b <;> simp_all [eqT, py, PyData.eqv, isT]
  | .bl a, b, h, q => by cases b <;> simp_all [eqT, py, PyData.eqv, isT]
  | .int a, b, h, q => by cases b <;> simp_all [eqT, py, PyData.eqv, isT]
  | .str a, b, h, q => by
    cases b with
    | str b => simp only [eqT, py, PyData.eqv, ws_beq]
    | _ => simp_all [eqT, py, PyData.eqv, isT]
  | .tup xs, b, h, q => by
    cases b with
    | tup ys =>
      simp only [eqT, py, PyData.eqv]
      exact eqTs_py xs ys (by simpa only [isT] using h) (by simpa only [isT] using q)
    | _ => simp_all [eqT, py, PyData.eqv, isT]
  | .lst xs, b, h, q => by
    cases b with
    | lst ys =>
      simp only [eqT, py, PyData.eqv]
      exact eqTs_py xs ys (by simpa only [isT] using h) (by simpa only [isT] using q)
    | _ => simp_all [eqT, py, PyData.eqv, isT]
  | .ref _, b, h, q => by simp [isT] at h
  | .exn _ _, b, h, q => by simp [isT] at h
theorem eqTs_py : ∀ a b : List D, isTs a = true → isTs b = true → eqTs a b = PyData.eqvAll (pys a) (pys b)
  | [], [], _, _ => by simp [eqTs, pys, PyData.eqvAll]
  | [], _ :: _, _, _ => by simp [eqTs, pys, PyData.eqvAll]
  | _ :: _, [], _, _ => by simp [eqTs, pys, PyData.eqvAll]
  | x :: xs, y :: ys, h, q => by
    simp only [isTs, Bool.and_eq_true] at h q
    simp only [eqTs, pys, PyData.eqvAll]
    rw [eqT_py x y h.1 q.1, eqTs_py xs ys h.2 q.2]
end
theorem inT_py (x : D) (hx : isT x = true) : ∀ ys : List D, isTs ys = true → inT x ys = (pys ys).any fun z => PyData.eqv z (py x)
  | [], _ => rfl
  | y :: ys, h => by
    simp only [isTs, Bool.and_eq_true] at h
    simp only [inT, pys, List.any_cons]
    rw [eqT_py y x h.1 hx, inT_py x hx ys h.2]
/-- what stands, as data: not deeper than the look -/
def DpT (C : Ctx) (H : Hp) (n : Nat) (v : V) (t : D) : Prop := Dp C.K H v (py t) ∧ (py t).canLay0 = true ∧ (py t).depth ≤ n ∧ isT t = true
def DpTs (C : Ctx) (H : Hp) (n : Nat) (vs : List V) (ts : List D) : Prop := DpAll C.K H vs (pys ts) ∧ PyData.canLayAll0 (pys ts) = true ∧ PyData.depthAll (pys ts) ≤ n ∧ isTs ts = true
theorem trees_dp {ρ : List Addr} {H : Hp} {st : Sto} {f : D → Option D} {n : Nat} (hf : ∀ d t v, f d = some t → RelD C ρ H d v → DpT C H n v t) :
    ∀ (ds ts : List D) (vs : List V), tree.trees f ds = some ts → RelDs C ρ H ds vs → DpTs C H n vs ts
  | [], ts, vs, e, r => by
    simp only [tree.trees] at e
    simp only [RelDs] at r
    cases e
    subst r
    exact ⟨.nil, by simp [pys, PyData.canLayAll0], by simp [pys, PyData.depthAll], by simp [isTs]⟩
  | d :: ds, ts, vs, e, r => by
    simp only [RelDs] at r
    obtain ⟨v, rs, rfl, r1, r2⟩ := r
    simp only [tree.trees] at e
    split at e
    · rename_i x ex
      split at e
      · rename_i xs exs
        cases e
        obtain ⟨a1, a2, a3, a4⟩ := hf d x v ex r1
        obtain ⟨b1, b2, b3, b4⟩ := trees_dp (st := st) hf ds xs rs exs r2
        refine ⟨.cons a1 b1, ?_, ?_, ?_⟩
        · simp [pys, PyData.canLayAll0, a2, b2]
        · simp only [pys, PyData.depthAll]
          exact Nat.max_le.mpr ⟨a3, b3⟩
        · simp [isTs, a4, b4]
      · cases e
    · cases e
theorem tree_dp {ρ : List Addr} {H : Hp} {st : Sto} (R : Rel C ρ H st) : ∀ (n : Nat) (d t : D) (v : V), tree st n d = some t → RelD C ρ H d v → DpT C H n v t
  | 0, d, t, v, e, r => by simp [tree] at e
  | n + 1, d, t, v, e, r => by
    have ih := fun d t v => tree_dp R n d t v
    cases d with
    | non =>
      simp only [tree, RelD] at e r
      cases e
      subst r
      exact ⟨.non, by simp [py, PyData.canLay0], by simp [py, PyData.depth], rfl⟩
    | bl b =>
      simp only [tree, RelD] at e r
      cases e
      subst r
      exact ⟨.bl b, by simp [py, PyData.canLay0], by simp [py, PyData.depth], rfl⟩
    | int b =>
      simp only [tree, RelD] at e r
      cases e
      subst r
      exact ⟨.int b, by simp [py, PyData.canLay0], by simp [py, PyData.depth], rfl⟩
    | str x =>
      simp only [tree, RelD] at e r
      cases e
      obtain ⟨rfl, _, r2⟩ := r
      refine ⟨.str _, ?_, by simp [py, PyData.depth], rfl⟩
      simp only [py, PyData.canLay0, PyData.strOk, ws]
      rw [List.all_eq_true] at r2
      rw [Array.all_eq_true]
      intro i hi
      have hi' : i < x.length := by simpa using hi
      have q := r2 x[i] (List.getElem_mem hi')
      have q2 := Nat.blt_eq.mp q
      simp only [List.getElem_toArray]
      exact decide_eq_true q2
    | tup xs =>
      rw [rel_tup_iff] at r
      obtain ⟨a, vs, rfl, ta, da⟩ := r
      simp only [tree] at e
      cases q : tree.trees (tree st n) xs with
      | none => rw [q] at e; cases e
      | some ts =>
        rw [q] at e
        cases e
        obtain ⟨b1, b2, b3, b4⟩ := trees_dp (st := st) ih xs ts vs q da
        refine ⟨.tup ta.sq b1, by simp [py, PyData.canLay0, b2], ?_, by simp [isT, b4]⟩
        simp only [py, PyData.depth]
        omega
    | ref i =>
      rw [rel_ref_iff] at r
      obtain ⟨a, ha, rfl⟩ := r
      have key : ∀ xs, (st[i]? = some (.lst xs) ∨ st[i]? = some (.frz xs)) → (tree.trees (tree st n) xs).map D.lst = some t → DpT C H (n + 1) (.ref a) t := fun xs hs e => by
        obtain ⟨vs, sq, da⟩ := R.sq (K := C.K) ha hs
        cases q : tree.trees (tree st n) xs with
        | none => rw [q] at e; cases e
        | some ts =>
          rw [q] at e
          cases e
          obtain ⟨b1, b2, b3, b4⟩ := trees_dp (st := st) ih xs ts vs q da
          refine ⟨.lst sq b1, by simp [py, PyData.canLay0, b2], ?_, by simp [isT, b4]⟩
          simp only [py, PyData.depth]
          omega
      simp only [tree] at e
      split at e
      · rename_i xs hs
        exact key xs (.inl hs) e
      · rename_i xs hs
        exact key xs (.inr hs) e
      · cases e
    | lst xs =>
      rw [rel_lst_iff] at r
      obtain ⟨a, vs, rfl, ta, da⟩ := r
      simp only [tree] at e
      cases q : tree.trees (tree st n) xs with
      | none => rw [q] at e; cases e
      | some ts =>
        rw [q] at e
        cases e
        obtain ⟨b1, b2, b3, b4⟩ := trees_dp (st := st) ih xs ts vs q da
        refine ⟨.lst ta.sq b1, by simp [py, PyData.canLay0, b2], ?_, by simp [isT, b4]⟩
        simp only [py, PyData.depth]
        omega
    | exn c vs => simp [tree] at e
theorem shaped_of {t : D} {n : Nat} (h : (py t).canLay0 = true) (d : (py t).depth ≤ n) (hn : n ≤ 64) : SeqAt.shaped (py t) = true := by
  unfold SeqAt.shaped
  rw [h, Bool.true_and]
  exact decide_eq_true (Nat.le_trans d hn)
theorem eqD_ok {ρ : List Addr} {H : Hp} {st : Sto} (R : Rel C ρ H st) {a b : D} {x y : V} {c : Bool} (ra : RelD C ρ H a x) (rb : RelD C ρ H b y) (e : eqD a b st = some c) :
    ∃ d e, Dp C.K H x d ∧ Dp C.K H y e ∧ SeqAt.shaped d = true ∧ SeqAt.shaped e = true ∧ PyData.eqv d e = c := by
  unfold eqD at e
  split at e
  · rename_i t u e1 e2
    cases e
    obtain ⟨a1, a2, a3, a4⟩ := tree_dp R 60 a t x e1 ra
    obtain ⟨b1, b2, b3, b4⟩ := tree_dp R 60 b u y e2 rb
    exact ⟨_, _, a1, b1, shaped_of a2 a3 (by decide), shaped_of b2 b3 (by decide), (eqT_py t u a4 b4).symm⟩
  · cases e
theorem retB_elim {ρ : List Addr} {H : Hp} {st : Sto} {Q : VK} {W : XK} {o : Option Bool} (R : Rel C ρ H st) (p : Post C ρ H (relV C) Q W (retB o st)) : ∃ b, o = some b ∧ Q (.bl b) H := by
  cases o with
  | none => exact p.elim
  | some b => exact ⟨b, rfl, Post.here (d := .bl b) R rel_bl p⟩
theorem opEq_ok (hK : X.K = C.K) (hu : X.A.units + 64 < cLine) : OpR X (compareOp .Eq) (rF2 C opEq) := by
  intro pins s σ H x y v u Q I rx ry h
  obtain ⟨W, ρ, st, a, b, ra, rb, R, p⟩ := h
  obtain ⟨c, e, q⟩ := retB_elim R p
  obtain ⟨d, f, h1, h2, h3, h4, h5⟩ := eqD_ok R ra rb e
  rw [← h5] at q
  exact op_eqD hu pins s σ H x y v u Q I rx ry ⟨d, f, by rw [hK]; exact h1, by rw [hK]; exact h2, h3, h4, q⟩
theorem map_not {o : Option Bool} {b : Bool} (h : o.map (!·) = some b) : ∃ c, o = some c ∧ b = !c := by
  cases o with
  | none => cases h
  | some c =>
    cases h
    exact ⟨c, rfl, rfl⟩
theorem opNe_ok (hK : X.K = C.K) (hu : X.A.units + 64 < cLine) : OpR X (compareOp .NotEq) (rF2 C opNe) := by
  intro pins s σ H x y v u Q I rx ry h
  obtain ⟨W, ρ, st, a, b, ra, rb, R, p⟩ := h
  obtain ⟨c, e, q⟩ := retB_elim R p
  obtain ⟨c', e2, rfl⟩ := map_not e
  obtain ⟨d, f, h1, h2, h3, h4, h5⟩ := eqD_ok R ra rb e2
  rw [← h5] at q
  exact op_neD hu pins s σ H x y v u Q I rx ry ⟨d, f, by rw [hK]; exact h1, by rw [hK]; exact h2, h3, h4, q⟩
theorem opC_ok {op : CmpOp} {f : Op2} {g : Int → Int → Bool} (hf : ∀ i j st, f (.int i) (.int j) st = .ok (.bl (g i j)) st) (ho : OpR X (compareOp op) (rI0 fun i j => .bl (g i j)))
    (hn : ∀ a b st, (∀ i j, ¬ (a = .int i ∧ b = .int j)) → f a b st = .bad) : OpR X (compareOp op) (rF2 C f) := by
  intro pins s σ H x y v u Q I rx ry h
  obtain ⟨W, ρ, st, a, b, ra, rb, R, p⟩ := h
  by_cases q : ∃ i j, a = .int i ∧ b = .int j
  · obtain ⟨i, j, rfl, rfl⟩ := q
    rw [hf] at p
    rw [rel_int_iff] at ra rb
    subst ra rb
    exact ho pins s σ H _ _ v u Q I rx ry ⟨i, j, rfl, rfl, p.here R rel_bl⟩
  · rw [hn a b st fun i j e => q ⟨i, j, e⟩] at p
    exact p.elim
theorem opLe_ok : OpR X (compareOp .LtE) (rF2 C opLe) := opC_ok (g := fun i j => decide (i ≤ j)) (fun _ _ _ => rfl) op_le (fun a b st h => by cases a <;> cases b <;> first | rfl | exact absurd ⟨rfl, rfl⟩ (h _ _))
theorem opGt_ok : OpR X (compareOp .Gt) (rF2 C opGt) := opC_ok (g := fun i j => decide (j < i)) (fun _ _ _ => rfl) op_gt (fun a b st h => by cases a <;> cases b <;> first | rfl | exact absurd ⟨rfl, rfl⟩ (h _ _))
theorem opGe_ok : OpR X (compareOp .GtE) (rF2 C opGe) := opC_ok (g := fun i j => decide (j ≤ i)) (fun _ _ _ => rfl) op_ge (fun a b st h => by cases a <;> cases b <;> first | rfl | exact absurd ⟨rfl, rfl⟩ (h _ _))
theorem opLt_ok : OpR X (compareOp .Lt) (rF2 C opLt) := by
  intro pins s σ H x y v u Q I rx ry h
  obtain ⟨W, ρ, st, a, b, ra, rb, R, p⟩ := h
  cases a with
  | int i =>
    cases b with
    | int j =>
      rw [rel_int_iff] at ra rb
      subst ra rb
      exact op_lt pins s σ H _ _ v u Q I rx ry ⟨i, j, rfl, rfl, p.here R rel_bl⟩
    | _ => exact p.elim
  | str i =>
    cases b with
    | str j =>
      rw [rel_str_iff] at ra rb
      obtain ⟨rfl, _⟩ := ra
      obtain ⟨rfl, _⟩ := rb
      refine op_lt_str pins s σ H _ _ v u Q I rx ry ⟨ws i, ws j, rfl, rfl, ?_⟩
      have q : Q (.bl (decide (i < j))) H := p.here R rel_bl
      simpa using q
    | _ => exact p.elim
  | _ => cases b <;> exact p.elim
end
end EV

-- part EvOps2
set_option Elab.async false
set_option linter.all false
set_option maxRecDepth 100000
/-! Further operators by values. -/
namespace EV
open PySem PySem.Spec PyProof.Rows L2
section
variable {X : Cx} {C : Ctx}
theorem isD_ok {ρ : List Addr} {H : Hp} {a b : D} {x y : V} {c : Bool} (ra : RelD C ρ H a x) (rb : RelD C ρ H b y) (e : isD a b = some c) :
    (y = .non ∧ decide (x = .non) = c) ∨ ∃ i j, x = .bl i ∧ y = .bl j ∧ decide (i = j) = c := by
  have non : ∀ {z : V}, (∃ w, z = V.ref w) ∨ (∃ w, z = V.str w) → decide (z = V.non) = false := fun h => by
    rcases h with ⟨w, rfl⟩ | ⟨w, rfl⟩ <;> simp
  cases b with
  | non =>
    rw [rel_non_iff] at rb
    subst rb
    refine .inl ⟨rfl, ?_⟩
    cases a with
    | non => rw [rel_non_iff] at ra; subst ra; simp only [isD] at e; cases e; simp
    | bl i => rw [rel_bl_iff] at ra; subst ra; simp only [isD] at e; cases e; simp
    | int i => rw [rel_int_iff] at ra; subst ra; simp only [isD] at e; cases e; simp
    | str i => rw [rel_str_iff] at ra; simp only [isD] at e; cases e; exact non (.inr ⟨_, ra.1⟩)
    | tup i => rw [rel_tup_iff] at ra; obtain ⟨w, _, h, _⟩ := ra; simp only [isD] at e; cases e; exact non (.inl ⟨_, h⟩)
    | ref i => rw [rel_ref_iff] at ra; obtain ⟨w, _, h⟩ := ra; simp only [isD] at e; cases e; exact non (.inl ⟨_, h⟩)
    | lst i => simp [isD] at e
    | exn i j => simp [isD] at e
  | bl j =>
    rw [rel_bl_iff] at rb
    subst rb
    cases a with
    | bl i => rw [rel_bl_iff] at ra; subst ra; simp only [isD] at e; exact .inr ⟨i, j, rfl, rfl, Option.some.inj e⟩
    | _ => simp [isD] at e
  | _ => cases a <;> simp [isD] at e
theorem opIs_ok : OpR X (compareOp .Is) (rF2 C opIs) := by
  intro pins s σ H x y v u Q I rx ry h
  obtain ⟨W, ρ, st, a, b, ra, rb, R, p⟩ := h
  obtain ⟨c, e, q⟩ := retB_elim R p
  rcases isD_ok ra rb e with ⟨h1, h2⟩ | ⟨i, j, h1, h2, h3⟩
  · exact op_isN pins s σ H x y v u Q I rx ry ⟨h1, by rw [h2]; exact q⟩
  · exact op_isBl pins s σ H x y v u Q I rx ry ⟨i, j, h1, h2, by rw [h3]; exact q⟩
theorem opIsnt_ok : OpR X (compareOp .IsNot) (rF2 C opIsnt) := by
  intro pins s σ H x y v u Q I rx ry h
  obtain ⟨W, ρ, st, a, b, ra, rb, R, p⟩ := h
  obtain ⟨c, e, q⟩ := retB_elim R p
  obtain ⟨c', e2, rfl⟩ := map_not e
  rcases isD_ok ra rb e2 with ⟨h1, h2⟩ | ⟨i, j, h1, h2, h3⟩
  · exact op_notN pins s σ H x y v u Q I rx ry ⟨h1, by rw [h2]; exact q⟩
  · exact op_notBl pins s σ H x y v u Q I rx ry ⟨i, j, h1, h2, by rw [h3]; exact q⟩

/-! ### in -/
theorem eqAny_ok {ρ : List Addr} {H : Hp} {st : Sto} (R : Rel C ρ H st) {a : D} {x : V} {bs : List D} {vs : List V} {c : Bool} (ra : RelD C ρ H a x) (rb : RelDs C ρ H bs vs) (e : eqAny a st bs = some c) :
    ∃ d ds, Dp C.K H x d ∧ DpAll C.K H vs ds ∧ SeqAt.shaped d = true ∧ SeqAt.shaped (.list ds) = true ∧ (ds.any fun z => PyData.eqv z d) = c := by
  unfold eqAny at e
  split at e
  · rename_i t ts e1 e2
    cases e
    obtain ⟨a1, a2, a3, a4⟩ := tree_dp R 60 a t x e1 ra
    obtain ⟨b1, b2, b3, b4⟩ := trees_dp (st := st) (tree_dp R 59) bs ts vs e2 rb
    refine ⟨_, _, a1, b1, shaped_of a2 a3 (by decide), ?_, (inT_py t a4 ts b4).symm⟩
    unfold SeqAt.shaped
    rw [Bool.and_eq_true]
    refine ⟨by simp only [PyData.canLay0]; exact b2, decide_eq_true ?_⟩
    simp only [PyData.depth]
    omega
  · cases e
theorem canLay_list {ds : List PyData} (h : SeqAt.shaped (.list ds) = true) : PyData.canLayAll0 ds = true := by
  have := SeqAt.canLay_of_shaped h
  simpa only [PyData.canLay0] using this
theorem keyOk_rel {ρ : List Addr} {H : Hp} {a : D} {x : V} (h : keyOk a = true) (ra : RelD C ρ H a x) : ∃ k, x = kV k ∧ RelKey a k := by
  cases a with
  | int i =>
    rw [rel_int_iff] at ra
    exact ⟨.inl i, ra, rfl⟩
  | str i =>
    rw [rel_str_iff] at ra
    exact ⟨.inr (ws i), ra.1, rfl, ra.2⟩
  | _ => simp [keyOk] at h
theorem keyEq_rel {a b : D} {k l : Key} (ha : RelKey a k) (hb : RelKey b l) : keyEq a b = decide (l = k) := by
  cases a with
  | int i =>
    cases b with
    | int j =>
      have e1 : k = .inl i := ha
      have e2 : l = .inl j := hb
      subst e1 e2
      simp only [keyEq]
      by_cases z : i = j
      · subst z; simp
      · have z1 : ¬ (Sum.inl j : Key) = .inl i := fun q => z (Sum.inl.inj q).symm
        rw [decide_eq_false z1, beq_eq_false_iff_ne.mpr z]
    | str j =>
      have e1 : k = .inl i := ha
      obtain ⟨e2, _⟩ := hb
      subst e1 e2
      simp [keyEq]
    | _ => exact hb.elim
  | str i =>
    cases b with
    | int j =>
      obtain ⟨e1, _⟩ := ha
      have e2 : l = .inl j := hb
      subst e1 e2
      simp [keyEq]
    | str j =>
      obtain ⟨e1, _⟩ := ha
      obtain ⟨e2, _⟩ := hb
      subst e1 e2
      simp only [keyEq]
      rw [ws_beq]
      by_cases z : ws i = ws j
      · rw [z]; simp
      · have z1 : ¬ (Sum.inr (ws j) : Key) = .inr (ws i) := fun q => z (Sum.inr.inj q).symm
        rw [decide_eq_false z1, beq_eq_false_iff_ne.mpr z]
    | _ => exact hb.elim
  | _ => exact ha.elim
theorem getK_rel {ρ : List Addr} {H : Hp} {a : D} {k : Key} (ha : RelKey a k) : ∀ {kvs : List (D × D)} {vs : List (Key × V)}, RelKV C ρ H kvs vs →
    (getK a kvs = none ∧ valV vs k = none) ∨ ∃ d v, getK a kvs = some d ∧ valV vs k = some v ∧ RelD C ρ H d v
  | [], vs, h => by
    have e : vs = [] := h
    subst e
    exact .inl ⟨rfl, rfl⟩
  | (b, d) :: r, vs, h => by
    obtain ⟨l, v, t, rfl, h1, h2, h3⟩ := h
    have q := keyEq_rel ha h1
    by_cases z : l = k
    · rw [decide_eq_true z] at q
      refine .inr ⟨d, v, ?_, valV_pos z, h2⟩
      simp only [getK]
      rw [q, if_pos rfl]
    · rw [decide_eq_false z] at q
      have e1 : getK a ((b, d) :: r) = getK a r := by
        simp only [getK]
        rw [q, if_neg Bool.false_ne_true]
      rw [e1, valV_neg (p := (l, v)) z]
      exact getK_rel ha h3
theorem inD_ok {pins : List (Addr × Obj)} {s : Shared} {σ : L2.St} {ρ : List Addr} {H : Hp} {st : Sto} (hK : X.K = C.K) (hu : X.A.units + 65 < cLine) (I : Inv X pins σ H s) (R : Rel C ρ H st) {a b : D} {x y : V} {v u : Value} {c : Bool} (ra : RelD C ρ H a x) (rb : RelD C ρ H b y) (rx : RelV x v) (ry : RelV y u) (e : inD a b st = some c) :
    (∀ Q : VK, Q (.bl c) H → wpAny (model X.prog X.w) X.A (compareOp .In v u) (EP X pins σ Q) X.xe s) ∧
    ∀ Q : VK, Q (.bl (!c)) H → wpAny (model X.prog X.w) X.A (compareOp .NotIn v u) (EP X pins σ Q) X.xe s := by
  have seq : ∀ (xs : List D) (i : Nat), b = .ref i → (st[i]? = some (.lst xs) ∨ st[i]? = some (.frz xs)) → eqAny a st xs = some c →
      (∀ Q : VK, Q (.bl c) H → wpAny (model X.prog X.w) X.A (compareOp .In v u) (EP X pins σ Q) X.xe s) ∧ ∀ Q : VK, Q (.bl (!c)) H → wpAny (model X.prog X.w) X.A (compareOp .NotIn v u) (EP X pins σ Q) X.xe s := fun xs i eb hs e2 => by
    subst eb
    rw [rel_ref_iff] at rb
    obtain ⟨l, hl, rfl⟩ := rb
    obtain ⟨vs, sq, ds⟩ := R.sq (K := C.K) hl hs
    obtain ⟨d, es, h1, h2, h3, h4, h5⟩ := eqAny_ok R ra ds e2
    refine ⟨fun Q q => op_inD hu pins s σ H x _ v u Q I rx ry ⟨d, es, by rw [hK]; exact h1, by rw [hK]; exact .lst sq h2, h3, h4, by rw [h5]; exact q⟩, fun Q q => op_notInD hu pins s σ H x _ v u Q I rx ry ⟨d, es, by rw [hK]; exact h1, by rw [hK]; exact .lst sq h2, h3, h4, by rw [h5]; exact q⟩⟩
  have tup : ∀ (xs : List D), b = .tup xs → eqAny a st xs = some c →
      (∀ Q : VK, Q (.bl c) H → wpAny (model X.prog X.w) X.A (compareOp .In v u) (EP X pins σ Q) X.xe s) ∧ ∀ Q : VK, Q (.bl (!c)) H → wpAny (model X.prog X.w) X.A (compareOp .NotIn v u) (EP X pins σ Q) X.xe s := fun xs eb e2 => by
    subst eb
    rw [rel_tup_iff] at rb
    obtain ⟨l, vs, rfl, tp, ds⟩ := rb
    obtain ⟨d, es, h1, h2, h3, h4, h5⟩ := eqAny_ok R ra ds e2
    have g1 : Dp X.K H x d := by rw [hK]; exact h1
    have g2 : Dp X.K H (.ref l) (.tuple es) := by rw [hK]; exact .tup tp.sq h2
    obtain ⟨as, r1⟩ := Dp.reads I d x v g1 rx
    obtain ⟨bs, r2⟩ := Dp.reads I (.tuple es) _ u g2 ry
    have room := room_in_shaped (A := X.A) (xs := es) h3 hu
    exact ⟨fun Q q => SeqAt.in_tuple_reads r2 r1 (canLay_list h4) (SeqAt.canLay_of_shaped h3) room ⟨.bl _, H, I, rfl, by rw [h5]; exact q⟩,
      fun Q q => SeqAt.notIn_tuple_reads r2 r1 (canLay_list h4) (SeqAt.canLay_of_shaped h3) room ⟨.bl _, H, I, rfl, by rw [h5]; exact q⟩⟩
  have ref : ∀ i, b = .ref i → (match st[i]? with
    | some (.lst xs) => eqAny a st xs
    | some (.frz xs) => eqAny a st xs
    | some (.dct kvs) => if keyOk a then some (getK a kvs).isSome else none
    | some (.fdc kvs) => if keyOk a then some (getK a kvs).isSome else none
    | _ => none) = some c → (∀ Q : VK, Q (.bl c) H → wpAny (model X.prog X.w) X.A (compareOp .In v u) (EP X pins σ Q) X.xe s) ∧
    ∀ Q : VK, Q (.bl (!c)) H → wpAny (model X.prog X.w) X.A (compareOp .NotIn v u) (EP X pins σ Q) X.xe s := fun i eb e2 => by
    split at e2
    · rename_i xs hs
      exact seq xs i eb (.inl hs) e2
    · rename_i xs hs
      exact seq xs i eb (.inr hs) e2
    · rename_i kvs hs
      split at e2
      · rename_i hk
        subst eb
        rw [rel_ref_iff] at rb
        obtain ⟨l, hl, rfl⟩ := rb
        obtain ⟨vs, hv, kv⟩ := R.dctR hl (.inl hs)
        obtain ⟨k, rfl, rk⟩ := keyOk_rel hk ra
        cases ry
        have es : (getK a kvs).isSome = (valV vs k).isSome := by
          rcases getK_rel rk kv with ⟨h1, h2⟩ | ⟨d, w, h1, h2, _⟩ <;> rw [h1, h2] <;> rfl
        have ec : (valV vs k).isSome = c := es.symm.trans (Option.some.inj e2)
        exact ⟨fun Q q => d_in (by omega) I (.inl ⟨vs, k, hv, rfl, rfl⟩) rx fun s3 I3 => ⟨.bl _, H, I3, rfl, by rw [ec]; exact q⟩, fun Q q => d_notIn (by omega) I (.inl ⟨vs, k, hv, rfl, rfl⟩) rx fun s3 I3 => ⟨.bl _, H, I3, rfl, by rw [ec]; exact q⟩⟩
      · cases e2
    · rename_i kvs hs
      split at e2
      · rename_i hk
        subst eb
        rw [rel_ref_iff] at rb
        obtain ⟨l, hl, rfl⟩ := rb
        obtain ⟨vs, hv, kv⟩ := R.dctR hl (.inr hs)
        obtain ⟨k, rfl, rk⟩ := keyOk_rel hk ra
        cases ry
        have es : (getK a kvs).isSome = (valV vs k).isSome := by
          rcases getK_rel rk kv with ⟨h1, h2⟩ | ⟨d, w, h1, h2, _⟩ <;> rw [h1, h2] <;> rfl
        have ec : (valV vs k).isSome = c := es.symm.trans (Option.some.inj e2)
        exact ⟨fun Q q => d_in (by omega) I (.inl ⟨vs, k, hv, rfl, rfl⟩) rx fun s3 I3 => ⟨.bl _, H, I3, rfl, by rw [ec]; exact q⟩, fun Q q => d_notIn (by omega) I (.inl ⟨vs, k, hv, rfl, rfl⟩) rx fun s3 I3 => ⟨.bl _, H, I3, rfl, by rw [ec]; exact q⟩⟩
      · cases e2
    · cases e2
  cases b with
  | tup xs =>
    cases a with
    | str w => rcases w with _ | ⟨k, _ | ⟨k2, r⟩⟩ <;> exact tup xs rfl e
    | _ => exact tup xs rfl e
  | ref i =>
    cases a with
    | str w => rcases w with _ | ⟨k, _ | ⟨k2, r⟩⟩ <;> exact ref i rfl e
    | _ => exact ref i rfl e
  | str z =>
    cases a with
    | str w =>
      cases w with
      | nil => simp [inD] at e
      | cons k r =>
        cases r with
        | cons _ _ => simp [inD] at e
        | nil =>
          rw [rel_str_iff] at ra rb
          obtain ⟨rfl, _⟩ := ra
          obtain ⟨rfl, _⟩ := rb
          have ec : z.contains k = c := Option.some.inj e
          have ed : decide (k ∈ (ws z).cps.toList) = c := by
            rw [← ec]
            simp
          exact ⟨fun Q q => op_in_sign pins s σ H _ _ v u Q I rx ry ⟨k, ws z, rfl, rfl, by rw [ed]; exact q⟩, fun Q q => op_notIn_sign pins s σ H _ _ v u Q I rx ry ⟨k, ws z, rfl, rfl, by rw [ed]; exact q⟩⟩
    | _ => simp [inD] at e
  | _ => cases a <;> simp [inD] at e
theorem opIn_ok (hK : X.K = C.K) (hu : X.A.units + 65 < cLine) : OpR X (compareOp .In) (rF2 C opIn) := by
  intro pins s σ H x y v u Q I rx ry h
  obtain ⟨W, ρ, st, a, b, ra, rb, R, p⟩ := h
  obtain ⟨c, e, q⟩ := retB_elim R p
  exact (inD_ok hK hu I R ra rb rx ry e).1 Q q
theorem opNotin_ok (hK : X.K = C.K) (hu : X.A.units + 65 < cLine) : OpR X (compareOp .NotIn) (rF2 C opNotin) := by
  intro pins s σ H x y v u Q I rx ry h
  obtain ⟨W, ρ, st, a, b, ra, rb, R, p⟩ := h
  obtain ⟨c, e, q⟩ := retB_elim R p
  obtain ⟨c', e2, rfl⟩ := map_not e
  exact (inD_ok hK hu I R ra rb rx ry e2).2 Q q

/-! ### subscripts -/
theorem opIx_ok (hK : X.K = C.K) (hu : X.A.units + 65 < cLine) : IxR X (rF2 C opIx) := by
  intro value slice pins s σ H x y v u Q I rx ry h hs
  obtain ⟨W, ρ, st, a, b, ra, rb, R, p⟩ := h
  cases a with
  | tup xs =>
    cases b with
    | int i =>
      rw [rel_tup_iff] at ra
      rw [rel_int_iff] at rb
      obtain ⟨l, vs, rfl, tp, ds⟩ := ra
      subst rb
      have p' : Post C ρ H (relV C) Q W (match L2.atI xs i with
        | some d => .ok d st
        | none => .bad) := p
      split at p'
      · rename_i d e
        obtain ⟨w, hw, rw'⟩ := ds.at_ e
        exact ix_tup value slice pins s σ H _ _ v u Q I rx ry ⟨l, vs, i, w, rfl, rfl, by rw [hK]; exact tp.sq, hw, p'.here R rw'⟩ hs
      · exact p'.elim
    | _ => exact p.elim
  | str z =>
    cases b with
    | int i =>
      rw [rel_str_iff] at ra
      rw [rel_int_iff] at rb
      obtain ⟨rfl, z1, z2⟩ := ra
      subst rb
      have p' : Post C ρ H (relV C) Q W (match L2.atI z i with
        | some c => .ok (.str [c]) st
        | none => .bad) := p
      split at p'
      · rename_i c e
        refine ix_str value slice pins s σ H _ _ v u Q I rx ry ⟨ws z, i, c, rfl, rfl, by rw [ws_length]; exact z1, by simpa using e, p'.here R (rel_str ?_ ?_)⟩ hs
        · show 1 ≤ sizeLine
          rw [sizeLine_eq]
          decide
        · have hm : c ∈ z := by
            unfold L2.atI at e
            cases q : L2.ixN z.length i with
            | none => rw [q] at e; cases e
            | some j =>
              rw [q] at e
              exact List.mem_of_getElem? e
          simp only [List.all_cons, List.all_nil, Bool.and_true]
          exact List.all_eq_true.mp z2 c hm
      · exact p'.elim
    | _ => exact p.elim
  | lst xs =>
    rw [rel_lst_iff] at ra
    obtain ⟨l, vs, rfl, fl, ds⟩ := ra
    cases b with
    | int i =>
      rw [rel_int_iff] at rb
      subst rb
      have p' : Post C ρ H (relV C) Q W (match L2.atI xs i with
        | some d => .ok d st
        | none => .bad) := p
      split at p'
      · rename_i d e
        obtain ⟨w, hw, rw'⟩ := ds.at_ e
        exact ix_list value slice pins s σ H _ _ v u Q I rx ry ⟨l, vs, i, w, rfl, rfl, by rw [hK]; exact fl.sq, hw, p'.here R rw'⟩ hs
      · exact p'.elim
    | _ => exact p.elim
  | ref r =>
    rw [rel_ref_iff] at ra
    obtain ⟨l, hl, rfl⟩ := ra
    have lst : ∀ xs i, (st[r]? = some (.lst xs) ∨ st[r]? = some (.frz xs)) → b = .int i → Post C ρ H (relV C) Q W (match L2.atI xs i with
        | some d => .ok d st
        | none => .bad) → wpAny (model X.prog X.w) X.A (subscriptTail value slice v u) (EP X pins σ Q) X.xe s := fun xs i h1 h2 p' => by
      subst h2
      rw [rel_int_iff] at rb
      subst rb
      obtain ⟨vs, sq, ds⟩ := R.sq (K := C.K) hl h1
      split at p'
      · rename_i d e
        obtain ⟨w, hw, rw'⟩ := ds.at_ e
        exact ix_list value slice pins s σ H _ _ v u Q I rx ry ⟨l, vs, i, w, rfl, rfl, by rw [hK]; exact sq, hw, p'.here R rw'⟩ hs
      · exact p'.elim
    have p' := p
    simp only [opIx] at p'
    split at p'
    · rename_i xs i h1
      exact lst xs i (.inl h1) rfl p'
    · rename_i xs i h1
      exact lst xs i (.inr h1) rfl p'
    · rename_i kvs h1
      split at p'
      · rename_i hk
        obtain ⟨k, rfl, rk⟩ := keyOk_rel hk rb
        obtain ⟨vs, hv, kv⟩ := R.dctR hl (.inl h1)
        cases rx
        rcases getK_rel rk kv with ⟨g1, g2⟩ | ⟨d, w, g1, g2, g3⟩
        · rw [g1] at p'
          exact p'.elim
        · rw [g1] at p'
          have g : DGet H l (kV k) (some w) := by
            rw [← g2]
            exact .inl ⟨vs, k, hv, rfl, rfl⟩
          exact tail_any (dict_typeIs I g) PySem.F.slot_dict_getitem.lookup (d_getItem (by omega) I g ry fun w' s3 I3 rw' => ⟨w, H, I3, rw', p'.here R g3⟩) hs
      · exact p'.elim
    · rename_i kvs h1
      split at p'
      · rename_i hk
        obtain ⟨k, rfl, rk⟩ := keyOk_rel hk rb
        obtain ⟨vs, hv, kv⟩ := R.dctR hl (.inr h1)
        cases rx
        rcases getK_rel rk kv with ⟨g1, g2⟩ | ⟨d, w, g1, g2, g3⟩
        · rw [g1] at p'
          exact p'.elim
        · rw [g1] at p'
          have g : DGet H l (kV k) (some w) := by
            rw [← g2]
            exact .inl ⟨vs, k, hv, rfl, rfl⟩
          exact tail_any (dict_typeIs I g) PySem.F.slot_dict_getitem.lookup (d_getItem (by omega) I g ry fun w' s3 I3 rw' => ⟨w, H, I3, rw', p'.here R g3⟩) hs
      · exact p'.elim
    · exact p'.elim
  | _ => cases b <;> exact p.elim
/-- a slice by values -/
def rFs (C : Ctx) : V → Option Int → Option Int → Hp → VK → Prop := fun x lo hi H Q => ∃ (W : XK) (ρ : List Addr) (st : Sto) (a : D), RelD C ρ H a x ∧ Rel C ρ H st ∧ Post C ρ H (relV C) Q W (opSlice a lo hi st)
theorem opSlice_ok (hK : X.K = C.K) : SlR X (rFs C) := by
  intro pins s σ H x v vl vu lo hi sl Q I rx hs pl pu h
  obtain ⟨W, ρ, st, a, ra, R, p⟩ := h
  cases a with
  | tup xs =>
    rw [rel_tup_iff] at ra
    obtain ⟨l, vs, rfl, tp, ds⟩ := ra
    have p' : Post C ρ H (relV C) Q W (.ok (.tup (cutOf xs lo hi)) st) := p
    refine sl_tupF pins s σ H _ v vl vu lo hi sl Q I rx hs pl pu ⟨l, vs, rfl, by rw [hK]; exact tp.sq, fun hw => ?_, fun _ q o hq ho => p'.tup R ds.cut q hq o ho⟩
    have e : cutOf xs lo hi = xs := by
      unfold cutOf
      rw [ds.length, hw.1, hw.2, List.drop_zero, Nat.sub_zero, ← ds.length, List.take_length]
    rw [e] at p'
    exact p'.here R (rel_tup_iff.mpr ⟨l, vs, rfl, tp, ds⟩)
  | str z =>
    rw [rel_str_iff] at ra
    obtain ⟨rfl, z1, z2⟩ := ra
    have p' : Post C ρ H (relV C) Q W (.ok (.str (cutOf z lo hi)) st) := p
    have e : cutS (ws z) lo hi = ws (cutOf z lo hi) := by
      unfold cutS cutOf
      rw [ws_length]
    refine sl_str pins s σ H _ v vl vu lo hi sl Q I rx hs pl pu ⟨ws z, rfl, by rw [ws_length]; exact z1, ?_⟩
    rw [e]
    refine p'.here R (rel_str ?_ ?_)
    · unfold cutOf
      rw [List.length_take, List.length_drop]
      omega
    · rw [List.all_eq_true] at z2 ⊢
      intro c hc
      unfold cutOf at hc
      exact z2 c (List.mem_of_mem_drop (List.mem_of_mem_take hc))
  | lst xs =>
    rw [rel_lst_iff] at ra
    obtain ⟨l, vs, rfl, fl, ds⟩ := ra
    exact sl_list pins s σ H _ v vl vu lo hi sl Q I rx hs pl pu ⟨l, vs, rfl, by rw [hK]; exact fl.sq, p.lst R ds.cut⟩
  | ref i =>
    rw [rel_ref_iff] at ra
    obtain ⟨l, hl, rfl⟩ := ra
    have p' : Post C ρ H (relV C) Q W (match st[i]? with
      | some (.lst xs) => alloc (.lst (cutOf xs lo hi)) st
      | some (.frz xs) => alloc (.lst (cutOf xs lo hi)) st
      | _ => .bad) := p
    split at p'
    · rename_i xs h1
      obtain ⟨vs, sq, ds⟩ := R.sq (K := C.K) hl (.inl h1)
      exact sl_list pins s σ H _ v vl vu lo hi sl Q I rx hs pl pu ⟨l, vs, rfl, by rw [hK]; exact sq, p'.lst R ds.cut⟩
    · rename_i xs h1
      obtain ⟨vs, sq, ds⟩ := R.sq (K := C.K) hl (.inr h1)
      exact sl_list pins s σ H _ v vl vu lo hi sl Q I rx hs pl pu ⟨l, vs, rfl, by rw [hK]; exact sq, p'.lst R ds.cut⟩
    · exact p'.elim
  | _ => exact p.elim
end
end EV

-- part EvBlt
set_option Elab.async false
set_option linter.all false
set_option maxRecDepth 100000
/-! Built-in calls by values. -/
namespace EV
open PySem PySem.Spec PyProof.Rows L2

section
variable {X : Cx} {C : Ctx} {ρ : List Addr} {H : Hp} {st : Sto}
theorem rels_nil_iff {vs : List V} : RelDs C ρ H [] vs ↔ vs = [] := by simp only [RelDs]
theorem rels_cons_iff {d : D} {ds : List D} {vs : List V} : RelDs C ρ H (d :: ds) vs ↔ ∃ v r, vs = v :: r ∧ RelD C ρ H d v ∧ RelDs C ρ H ds r := by simp only [RelDs]
theorem rels_one {d : D} {vs : List V} (h : RelDs C ρ H [d] vs) : ∃ v, vs = [v] ∧ RelD C ρ H d v := by
  rw [rels_cons_iff] at h
  obtain ⟨v, r, rfl, h1, h2⟩ := h
  rw [rels_nil_iff] at h2
  subst h2
  exact ⟨v, rfl, h1⟩
theorem rels_two {d e : D} {vs : List V} (h : RelDs C ρ H [d, e] vs) : ∃ v w, vs = [v, w] ∧ RelD C ρ H d v ∧ RelD C ρ H e w := by
  rw [rels_cons_iff] at h
  obtain ⟨v, r, rfl, h1, h2⟩ := h
  obtain ⟨w, rfl, h3⟩ := rels_one h2
  exact ⟨v, w, rfl, h1, h3⟩
theorem bls_rel : ∀ {xs : List D} {bs : List Bool} {vs : List V}, bls xs = some bs → RelDs C ρ H xs vs → vs = bs.map V.bl
  | [], bs, vs, e, r => by
    simp only [bls] at e
    cases e
    exact rels_nil_iff.mp r
  | d :: ds, bs, vs, e, r => by
    rw [rels_cons_iff] at r
    obtain ⟨v, t, rfl, h1, h2⟩ := r
    cases d with
    | bl b =>
      simp only [bls] at e
      cases q : bls ds with
      | none => rw [q] at e; cases e
      | some cs =>
        rw [q] at e
        cases e
        rw [rel_bl_iff] at h1
        rw [h1, bls_rel q h2] <;> rfl
    | _ => simp [bls] at e
theorem ints_rel : ∀ {xs : List D} {ns : List Int} {vs : List V}, intsD xs = some ns → RelDs C ρ H xs vs → vs = ns.map V.int
  | [], ns, vs, e, r => by
    simp only [intsD] at e
    cases e
    exact rels_nil_iff.mp r
  | d :: ds, ns, vs, e, r => by
    rw [rels_cons_iff] at r
    obtain ⟨v, t, rfl, h1, h2⟩ := r
    cases d with
    | int b =>
      simp only [intsD] at e
      cases q : intsD ds with
      | none => rw [q] at e; cases e
      | some cs =>
        rw [q] at e
        cases e
        rw [rel_int_iff] at h1
        rw [h1, ints_rel q h2] <;> rfl
    | _ => simp [intsD] at e
theorem rels_ints : ∀ ns : List Int, RelDs C ρ H (ns.map .int) (ns.map V.int)
  | [] => by simp [RelDs]
  | n :: ns => by
    rw [List.map_cons, List.map_cons, rels_cons_iff]
    exact ⟨_, _, rfl, rel_int, rels_ints ns⟩
theorem lstAt_ok {K : PySem.W.Frag} (R : Rel C ρ H st) {d : D} {v : V} {xs : List D} (h : RelD C ρ H d v) (e : lstAt d st = some xs) : ∃ a vs, v = .ref a ∧ SqL K H a vs ∧ RelDs C ρ H xs vs := by
  cases d with
  | ref i =>
    rw [rel_ref_iff] at h
    obtain ⟨a, ha, rfl⟩ := h
    simp only [lstAt] at e
    split at e
    · rename_i ys hs
      cases e
      obtain ⟨vs, h1, h2⟩ := R.sq (K := K) ha (.inl hs)
      exact ⟨a, vs, rfl, h1, h2⟩
    · rename_i ys hs
      cases e
      obtain ⟨vs, h1, h2⟩ := R.sq (K := K) ha (.inr hs)
      exact ⟨a, vs, rfl, h1, h2⟩
    · cases e
  | _ => simp [lstAt] at e
theorem insI_perm (i : Int) : ∀ l : List Int, (insI i l).Perm (i :: l)
  | [] => List.Perm.refl _
  | j :: r => by
    unfold insI
    split
    · exact List.Perm.refl _
    · exact ((insI_perm i r).cons j).trans (List.Perm.swap i j r)
theorem insI_sorted (i : Int) : ∀ l : List Int, l.Pairwise (· ≤ ·) → (insI i l).Pairwise (· ≤ ·)
  | [], _ => by simp [insI]
  | j :: r, h => by
    unfold insI
    split
    · rename_i hij
      refine List.pairwise_cons.mpr ⟨fun x hx => ?_, h⟩
      rcases List.mem_cons.mp hx with rfl | hx
      · exact hij
      · exact Int.le_trans hij ((List.pairwise_cons.mp h).1 x hx)
    · rename_i hij
      refine List.pairwise_cons.mpr ⟨fun x hx => ?_, insI_sorted i r (List.pairwise_cons.mp h).2⟩
      rcases List.mem_cons.mp ((insI_perm i r).mem_iff.mp hx) with rfl | hx
      · omega
      · exact (List.pairwise_cons.mp h).1 x hx
theorem sortI_perm : ∀ l : List Int, (sortI l).Perm l
  | [] => List.Perm.refl _
  | i :: r => (insI_perm i _).trans ((sortI_perm r).cons i)
theorem sortI_sorted : ∀ l : List Int, (sortI l).Pairwise (· ≤ ·)
  | [] => List.Pairwise.nil
  | i :: r => insI_sorted i _ (sortI_sorted r)

/-! ### dicts -/
theorem replK_rel {k v : D} {l : Key} {w : V} (hk : RelKey k l) (hv : RelD C ρ H v w) : ∀ {kvs : List (D × D)} {vs : List (Key × V)}, RelKV C ρ H kvs vs → RelKV C ρ H (replK k v kvs) (vs.map fun kv => if kv.1 = l then (kv.1, w) else kv)
  | [], vs, h => by
    have e : vs = [] := h
    subst e
    exact rfl
  | (a, d) :: r, vs, h => by
    obtain ⟨m, u, t, rfl, h1, h2, h3⟩ := h
    have q := keyEq_rel hk h1
    simp only [replK, List.map_cons]
    rw [q]
    by_cases z : m = l
    · rw [if_pos z, decide_eq_true z, if_pos rfl]
      exact ⟨m, w, _, rfl, h1, hv, replK_rel hk hv h3⟩
    · rw [if_neg z, decide_eq_false z, if_neg Bool.false_ne_true]
      exact ⟨m, u, _, rfl, h1, h2, replK_rel hk hv h3⟩
theorem addKV_rel {k v : D} {l : Key} {w : V} (hk : RelKey k l) (hv : RelD C ρ H v w) : ∀ {kvs : List (D × D)} {vs : List (Key × V)}, RelKV C ρ H kvs vs → RelKV C ρ H (kvs ++ [(k, v)]) (vs ++ [(l, w)])
  | [], vs, h => by
    have e : vs = [] := h
    subst e
    exact ⟨l, w, [], rfl, hk, hv, rfl⟩
  | (a, d) :: r, vs, h => by
    obtain ⟨m, u, t, rfl, h1, h2, h3⟩ := h
    exact ⟨m, u, _, rfl, h1, h2, addKV_rel hk hv h3⟩
theorem putKV_rel {k v : D} {l : Key} {w : V} (hk : RelKey k l) (hv : RelD C ρ H v w) {kvs : List (D × D)} {vs : List (Key × V)} (h : RelKV C ρ H kvs vs) : RelKV C ρ H (putKV k v kvs) (putK vs l w) := by
  unfold putKV putK
  have e : (getK k kvs).isSome = (vs.any fun kv => decide (kv.1 = l)) := by
    rw [valV_any]
    rcases getK_rel hk h with ⟨h1, h2⟩ | ⟨d, u, h1, h2, _⟩ <;> rw [h1, h2] <;> rfl
  rw [e]
  split
  · exact replK_rel hk hv h
  · exact addKV_rel hk hv h
theorem putAll_rel : ∀ {more acc : List (D × D)} {ms as : List (Key × V)}, RelKV C ρ H more ms → RelKV C ρ H acc as → RelKV C ρ H (putAll acc more) (mergeK as ms)
  | [], acc, ms, as, h, q => by
    have e : ms = [] := h
    subst e
    exact q
  | (k, v) :: r, acc, ms, as, h, q => by
    obtain ⟨m, u, t, rfl, h1, h2, h3⟩ := h
    exact putAll_rel (more := r) (ms := t) h3 (putKV_rel h1 h2 q)
theorem pairs_rel : ∀ {ds : List D} {kvs : List (D × D)} {vs : List V}, pairs ds = some kvs → RelDs C ρ H ds vs →
    ∃ (bs : List Addr) (kws : List (Key × V)), vs = bs.map V.ref ∧ RelKV C ρ H kvs kws ∧ Paired (fun (p : Addr) (kv : Key × V) => SqT C.K H p [kV kv.1, kv.2]) bs kws
  | [], kvs, vs, e, r => by
    simp only [pairs] at e
    cases e
    rw [rels_nil_iff] at r
    exact ⟨[], [], r, rfl, .nil⟩
  | d :: ds, kvs, vs, e, r => by
    rw [rels_cons_iff] at r
    obtain ⟨v, t, rfl, h1, h2⟩ := r
    match d, e, h1 with
    | .tup [k, w], e, h1 =>
      simp only [pairs] at e
      split at e
      · rename_i hk
        cases q : pairs ds with
        | none => rw [q] at e; cases e
        | some ks =>
          rw [q] at e
          cases e
          obtain ⟨bs, kws, rfl, h3, h4⟩ := pairs_rel q h2
          rw [rel_tup_iff] at h1
          obtain ⟨a, us, rfl, tp, du⟩ := h1
          obtain ⟨x, y, rfl, rx, ry⟩ := rels_two du
          obtain ⟨l, rfl, rl⟩ := keyOk_rel hk rx
          exact ⟨a :: bs, (l, y) :: kws, rfl, ⟨l, y, kws, rfl, rl, ry, h3⟩, .cons tp.sq h4⟩
      · cases e
theorem pairs_ps {pins : List (Addr × Obj)} {σ : L2.St} {s : Shared} (I : Inv X pins σ H s) : ∀ {bs : List Addr} {kws : List (Key × V)}, Paired (fun p kv => SqT X.K H p [kV kv.1, kv.2]) bs kws →
    ∃ (prs : List (Key × Value)) (ps : List (Value × Value)), KV kws prs ∧ ps.length = bs.length ∧ prs.length = bs.length ∧
      ∀ (j : Nat) (u v : Value), ps[j]? = some (u, v) → ∃ b k, bs[j]? = some b ∧ IsTup s.heap b #[u, v] ∧ prs[j]? = some (k, v) ∧ keyIs k u = true
  | _, _, .nil => ⟨[], [], .nil, rfl, rfl, fun j u v e => by simp at e⟩
  | _, _, .cons (a := p) (b := kv) h t => by
    obtain ⟨prs, ps, r, h1, h2, h3⟩ := pairs_ps I t
    obtain ⟨its, rv, ht, _⟩ := I.tuple h
    obtain ⟨u, y, ei, ru, ry⟩ := vals2 rv
    subst ei
    refine ⟨(kv.1, y) :: prs, (u, y) :: ps, .cons ⟨rfl, ry⟩ r, by simp [h1], by simp [h2], fun j a b e => ?_⟩
    cases j with
    | zero =>
      have e' : (u, y) = (a, b) := Option.some.inj e
      cases e'
      exact ⟨p, kv.1, rfl, ht, rfl, kV_is (P := X.prog) (w := X.w) ru⟩
    | succ j =>
      obtain ⟨c, k, q1, q2, q3, q4⟩ := h3 j a b (by simpa using e)
      exact ⟨c, k, by simpa using q1, q2, by simpa using q3, q4⟩
theorem dict_of {pins : List (Addr × Obj)} {σ : L2.St} {s : Shared} {Q : VK} (hc : X.calm = true) (I : Inv X pins σ H s) {a : Addr} {bs : List Addr} {kws : List (Key × V)}
    (hp : Paired (fun p kv => SqT X.K H p [kV kv.1, kv.2]) bs kws) {its : List Value} (ei : its = bs.map Value.ref) (hz : bs.length ≤ sizeLine)
    (hq : (∃ o n, s.heap.get? a = some o ∧ o.cls = .type "list" ∧ o.dict = none ∧ o.data = .seq its.toArray n) ∨ ∃ o n, s.heap.get? a = some o ∧ o.cls = .type "tuple" ∧ o.dict = none ∧ o.data = .seq its.toArray n)
    (q : ∀ p, H p = none → Q (.ref p) (upd H p (.dK (mergeK [] kws)))) : wpAny (model X.prog X.w) X.A (call (.type "dict") [.ref a]) (EP X pins σ Q) X.xe s := by
  obtain ⟨prs, ps, r, h1, h2, h3⟩ := pairs_ps I hp
  have items : PairItems s.heap its.toArray (fun j => bs.getD j 0) ps := by
    refine ⟨by rw [ei]; simp [h1], fun j u v e => ?_⟩
    obtain ⟨b, k, e1, e2, _⟩ := h3 j u v e
    have eb : bs.getD j 0 = b := by rw [List.getD_eq_getElem?_getD, e1]; rfl
    show its.toArray[j]? = some (Value.ref (bs.getD j 0)) ∧ PairAt s.heap (bs.getD j 0) u v
    rw [eb]
    refine ⟨?_, .inl e2⟩
    rw [ei]
    simp [e1]
  have have_ : PairsHave (mixKind X.prog X.w) ps.length (PairRel ps) prs := by
    refine ⟨h2.trans h1.symm, fun i u v e => ?_⟩
    obtain ⟨b, k, _, _, e3, e4⟩ := h3 i u v e
    exact ⟨k, e3, e4⟩
  have fin : ∀ h' tk, h'.DictOf (mixKind X.prog X.w) s.heap.objs.size (merged [] prs) → (∀ b o, s.heap.get? b = some o → h'.get? b = some o) → EP X pins σ Q (.ref s.heap.objs.size) { s with heap := h', toks := tk } := fun h' tk hd kp => by
    have hm : (s.heap.objs.size == sysModules) = false := beq_eq_false_iff_ne.mpr (Nat.ne_of_gt I.big)
    have hlen : (mergeK [] kws).length ≤ sizeLine := by
      refine Nat.le_trans (length_mergeK kws []) ?_
      rw [List.length_nil, Nat.zero_add, r.length, h2]
      exact hz
    exact ⟨.ref s.heap.objs.size, _, I.laid (t' := tk) kp (Nat.le_refl _) (show ObjOk X.prog X.w _ _ _ (.dK (mergeK [] kws)) from ⟨hlen, hm, merged [] prs, KV.merge r .nil, hd⟩), rfl, q _ (I.hok.fresh (Nat.le_refl _))⟩
  rcases hq with hq | hq
  · exact PySem.call_dict_pairs (knd := mixKind X.prog X.w) (PairArg.list a its.toArray (fun j => bs.getD j 0) ps) (I.ok.hd hc) ⟨hq, items⟩ have_ (by rw [h1]; exact hz) fun h' tk hd kp => fin h' tk hd fun b o e => kp b o (by simp) e
  · exact PySem.call_dict_pairs (knd := mixKind X.prog X.w) (PairArg.tuple a its.toArray (fun j => bs.getD j 0) ps) (I.ok.hd hc) ⟨hq, items⟩ have_ (by rw [h1]; exact hz) fun h' tk hd kp => fin h' tk hd fun b o e => kp b o (by simp) e
theorem Post.dct {Q : VK} {W : XK} {kvs : List (D × D)} {vs : List (Key × V)} (R : Rel C ρ H st) (r : RelKV C ρ H kvs vs) (p : Post C ρ H (relV C) Q W (alloc (.dct kvs) st)) (a : Addr) (n : H a = none) : Q (.ref a) (upd H a (.dK vs)) :=
  p (.ref a) _ (ρ ++ [a]) (Step.alloc R n fun ρ' pr k => ⟨vs, upd_same, RelKV.mono pr k _ _ r⟩) (by simp only [RelD]; exact ⟨a, by rw [← R.len]; simp, rfl⟩)
/-- a tuple that stands: its object, without a dict -/
theorem Tp.obj {pins : List (Addr × Obj)} {σ : L2.St} {s : Shared} (I : Inv X pins σ H s) {a : Addr} {vs : List V} (h : Tp X.K H a vs) : ∃ (its : List Value) (o : Obj) (n : Nat), Vals vs its ∧ vs.length ≤ sizeLine ∧ s.heap.get? a = some o ∧ o.cls = .type "tuple" ∧ o.dict = none ∧ o.data = .seq its.toArray n := by
  rcases h with ⟨o, h, hd⟩ | ⟨o, its, n, h1, h2, h3, h4, h5, h6⟩
  · obtain ⟨e, z, its, r, o2, e2, c2, n, d2⟩ := (show ObjOk X.prog X.w H s.heap a (.frz o (.tup vs)) from I.hok a _ h)
    rw [e] at e2
    cases e2
    exact ⟨its, o, n, r, z, e, c2, hd, d2⟩
  · refine ⟨its.toList, o, n, h6, ?_, I.kIn a o h1, h2, h3, by simpa using h4⟩
    rw [h6.length]
    simpa using h5

/-! ### the calls -/
theorem bLen_ok (hK : X.K = C.K) : CallR X (.builtin "len") (rFn C bLen) := by
  intro pins s σ H xs us Q I r h
  obtain ⟨W, ρ, st, ds, rd, R, p⟩ := h
  match ds, rd, p with
  | [], rd, p => exact p.elim
  | _ :: _ :: _, rd, p =>
    rename_i a b c
    cases a <;> exact p.elim
  | [d], rd, p =>
    obtain ⟨v, rfl, rv⟩ := rels_one rd
    cases d with
    | str z =>
      rw [rel_str_iff] at rv
      obtain ⟨rfl, z1, _⟩ := rv
      refine call_len pins s σ H _ us Q I r ⟨_, z.length, rfl, ⟨by rw [ws_length]; exact z1, (ws_length z).symm⟩, Post.here (d := .int z.length) R rel_int p⟩
    | tup ts =>
      rw [rel_tup_iff] at rv
      obtain ⟨a, vs, rfl, tp, du⟩ := rv
      exact call_len pins s σ H _ us Q I r ⟨_, ts.length, rfl, .inr ⟨vs, by rw [hK]; exact tp.sq, du.length⟩, Post.here (d := .int ts.length) R rel_int p⟩
    | lst ts =>
      rw [rel_lst_iff] at rv
      obtain ⟨a, vs, rfl, fl, du⟩ := rv
      exact call_len pins s σ H _ us Q I r ⟨_, ts.length, rfl, .inl ⟨vs, by rw [hK]; exact fl.sq, du.length⟩, Post.here (d := .int ts.length) R rel_int p⟩
    | ref i =>
      rw [rel_ref_iff] at rv
      obtain ⟨a, ha, rfl⟩ := rv
      simp only [bLen] at p
      split at p
      · rename_i ts hs
        obtain ⟨vs, sq, du⟩ := R.sq (K := C.K) ha (.inl hs)
        exact call_len pins s σ H _ us Q I r ⟨_, ts.length, rfl, .inl ⟨vs, by rw [hK]; exact sq, du.length⟩, Post.here (d := .int ts.length) R rel_int p⟩
      · rename_i ts hs
        obtain ⟨vs, sq, du⟩ := R.sq (K := C.K) ha (.inr hs)
        exact call_len pins s σ H _ us Q I r ⟨_, ts.length, rfl, .inl ⟨vs, by rw [hK]; exact sq, du.length⟩, Post.here (d := .int ts.length) R rel_int p⟩
      · rename_i kvs hs
        obtain ⟨vs, hv, kv⟩ := R.dct ha hs
        have el : kvs.length = vs.length := by
          clear hv hs p
          induction kvs generalizing vs with
          | nil => rw [show vs = [] from kv] <;> rfl
          | cons q t ih =>
            obtain ⟨k, w, r, rfl, _, _, h3⟩ := kv
            simp [ih r h3]
        have q := Post.here (d := .int kvs.length) R rel_int p
        rw [el] at q
        exact call_lenD pins s σ H _ us Q I r ⟨a, vs, rfl, hv, q⟩
      · exact p.elim
    | _ => exact p.elim
theorem bOne {f : BF} {g : D → Sto → Res D} (hf : ∀ d st, f [d] st = g d st) (h0 : ∀ st, f [] st = .bad) (h2 : ∀ a b c st, f (a :: b :: c) st = .bad) {xs : List V} {Q : VK} (h : rFn C f xs H Q) :
    ∃ (W : XK) (ρ : List Addr) (st : Sto) (d : D) (v : V), xs = [v] ∧ RelD C ρ H d v ∧ Rel C ρ H st ∧ Post C ρ H (relV C) Q W (g d st) := by
  obtain ⟨W, ρ, st, ds, rd, R, p⟩ := h
  match ds, rd, p with
  | [], rd, p => rw [h0] at p; exact p.elim
  | _ :: _ :: _, rd, p => rw [h2] at p; exact p.elim
  | [d], rd, p =>
    obtain ⟨v, rfl, rv⟩ := rels_one rd
    rw [hf] at p
    exact ⟨W, ρ, st, d, v, rfl, rv, R, p⟩
theorem bAll_ok (hK : X.K = C.K) (hc : X.calm = true) : CallR X (.builtin "all") (rFn C bAll) := by
  intro pins s σ H xs us Q I r h
  obtain ⟨W, ρ, st, d, v, rfl, rv, R, p⟩ := bOne (g := fun d st => match (lstAt d st).bind bls with | some bs => .ok (.bl (bs.all id)) st | none => .bad) (fun _ _ => rfl) (fun _ => rfl) (fun _ _ _ _ => rfl) h
  cases e : lstAt d st with
  | none => simp only [e, Option.bind_none] at p; exact p.elim
  | some ts =>
    simp only [e, Option.bind_some] at p
    cases e2 : bls ts with
    | none => simp only [e2] at p; exact p.elim
    | some bs =>
      simp only [e2] at p
      obtain ⟨a, vs, rfl, sq, du⟩ := lstAt_ok (K := C.K) R rv e
      rw [bls_rel e2 du] at sq
      exact cr_all hc pins s σ H _ us Q I r ⟨a, bs, rfl, by rw [hK]; exact sq, Post.here (d := .bl _) R rel_bl p⟩
theorem bAny_ok (hK : X.K = C.K) (hc : X.calm = true) : CallR X (.builtin "any") (rFn C bAny) := by
  intro pins s σ H xs us Q I r h
  obtain ⟨W, ρ, st, d, v, rfl, rv, R, p⟩ := bOne (g := fun d st => match (lstAt d st).bind bls with | some bs => .ok (.bl (bs.any id)) st | none => .bad) (fun _ _ => rfl) (fun _ => rfl) (fun _ _ _ _ => rfl) h
  cases e : lstAt d st with
  | none => simp only [e, Option.bind_none] at p; exact p.elim
  | some ts =>
    simp only [e, Option.bind_some] at p
    cases e2 : bls ts with
    | none => simp only [e2] at p; exact p.elim
    | some bs =>
      simp only [e2] at p
      obtain ⟨a, vs, rfl, sq, du⟩ := lstAt_ok (K := C.K) R rv e
      rw [bls_rel e2 du] at sq
      exact cr_any hc pins s σ H _ us Q I r ⟨a, bs, rfl, by rw [hK]; exact sq, Post.here (d := .bl _) R rel_bl p⟩
theorem bSum_ok (hK : X.K = C.K) (hc : X.calm = true) : CallR X (.builtin "sum") (rFn C bSum) := by
  intro pins s σ H xs us Q I r h
  obtain ⟨W, ρ, st, d, v, rfl, rv, R, p⟩ := bOne (g := fun d st => match (lstAt d st).bind intsD with | some ns => .ok (.int ns.sum) st | none => .bad) (fun _ _ => rfl) (fun _ => rfl) (fun _ _ _ _ => rfl) h
  cases e : lstAt d st with
  | none => simp only [e, Option.bind_none] at p; exact p.elim
  | some ts =>
    simp only [e, Option.bind_some] at p
    cases e2 : intsD ts with
    | none => simp only [e2] at p; exact p.elim
    | some ns =>
      simp only [e2] at p
      obtain ⟨a, vs, rfl, sq, du⟩ := lstAt_ok (K := C.K) R rv e
      rw [ints_rel e2 du] at sq
      exact cr_sum hc pins s σ H _ us Q I r ⟨a, ns, rfl, by rw [hK]; exact sq, Post.here (d := .int _) R rel_int p⟩
theorem bTuple_ok (hK : X.K = C.K) : CallR X (.type "tuple") (rFn C bTuple) := by
  intro pins s σ H xs us Q I r h
  obtain ⟨W, ρ, st, d, v, rfl, rv, R, p⟩ := bOne (g := tupF) (fun _ _ => rfl) (fun _ => rfl) (fun _ _ _ _ => rfl) h
  have lst : tupF d st = lstF d st → wpAny (model X.prog X.w) X.A (call (.type "tuple") us) (EP X pins σ Q) X.xe s := fun z => by
    rw [z] at p
    unfold lstF at p
    cases e : lstAt d st with
    | none => simp only [e] at p; exact p.elim
    | some ts =>
      simp only [e] at p
      obtain ⟨a, vs, rfl, sq, du⟩ := lstAt_ok (K := C.K) R rv e
      exact call_tupleF pins s σ H _ us Q I r ⟨a, vs, rfl, .inl ⟨by rw [hK]; exact sq, fun q o hq ho => p.tup R du q hq o ho⟩⟩
  cases d with
  | tup ts =>
    have rv' := rv
    rw [rel_tup_iff] at rv
    obtain ⟨a, vs, rfl, tp, du⟩ := rv
    exact call_tupleF pins s σ H _ us Q I r ⟨a, vs, rfl, .inr ⟨by rw [hK]; exact tp.sq, Post.here (d := .tup ts) R rv' p⟩⟩
  | _ => exact lst rfl
theorem bInt_ok : CallR X (.type "int") (rFn C bInt) := by
  intro pins s σ H xs us Q I r h
  obtain ⟨W, ρ, st, d, v, rfl, rv, R, p⟩ := bOne (g := fun d st => bInt [d] st) (fun _ _ => rfl) (fun _ => rfl) (fun a _ _ _ => by cases a <;> rfl) h
  cases d with
  | int i =>
    rw [rel_int_iff] at rv
    subst rv
    exact call_int1 pins s σ H _ us Q I r (.inl ⟨i, rfl, Post.here (d := .int i) R rel_int p⟩)
  | bl b =>
    rw [rel_bl_iff] at rv
    subst rv
    exact call_int1 pins s σ H _ us Q I r (.inr ⟨b, rfl, Post.here (d := .int _) R rel_int p⟩)
  | _ => exact p.elim
theorem bAbs_ok : CallR X (.builtin "abs") (rFn C bAbs) := by
  intro pins s σ H xs us Q I r h
  obtain ⟨W, ρ, st, d, v, rfl, rv, R, p⟩ := bOne (g := fun d st => bAbs [d] st) (fun _ _ => rfl) (fun _ => rfl) (fun a _ _ _ => by cases a <;> rfl) h
  cases d with
  | int i =>
    rw [rel_int_iff] at rv
    subst rv
    exact call_abs pins s σ H _ us Q I r ⟨i, rfl, Post.here (d := .int _) R rel_int p⟩
  | _ => exact p.elim
theorem bTwo {f : BF} {g : Int → Int → Int} (hf : ∀ i j st, f [.int i, .int j] st = .ok (.int (g i j)) st) (hn : ∀ ds st, (∀ i j, ds ≠ [.int i, .int j]) → f ds st = .bad) {xs : List V} {Q : VK} (h : rFn C f xs H Q) :
    ∃ i j, xs = [.int i, .int j] ∧ Q (.int (g i j)) H := by
  obtain ⟨W, ρ, st, ds, rd, R, p⟩ := h
  by_cases q : ∃ i j, ds = [.int i, .int j]
  · obtain ⟨i, j, rfl⟩ := q
    obtain ⟨v, w, rfl, rv, rw'⟩ := rels_two rd
    rw [rel_int_iff] at rv rw'
    subst rv rw'
    rw [hf] at p
    exact ⟨i, j, rfl, Post.here (d := .int _) R rel_int p⟩
  · rw [hn ds st fun i j e => q ⟨i, j, e⟩] at p
    exact p.elim
theorem two_bad {f : BF} (h0 : ∀ st, f [] st = .bad) (h1 : ∀ a st, f [a] st = .bad) (h3 : ∀ a b c d st, f (a :: b :: c :: d) st = .bad) (h2 : ∀ a b st, (∀ i j, ¬ (a = .int i ∧ b = .int j)) → f [a, b] st = .bad) (ds : List D) (st : Sto) (h : ∀ i j, ds ≠ [.int i, .int j]) : f ds st = .bad := by
  match ds, h with
  | [], _ => exact h0 st
  | [a], _ => exact h1 a st
  | [a, b], h => exact h2 a b st fun i j e => h i j (by rw [e.1, e.2])
  | a :: b :: c :: d, _ => exact h3 a b c d st
theorem bMax_ok (hc : X.calm = true) : CallR X (.builtin "max") (rFn C bMax) := by
  intro pins s σ H xs us Q I r h
  exact call_max2 hc pins s σ H xs us Q I r (bTwo (g := fun i j => if j > i then j else i) (fun _ _ _ => rfl) (two_bad (fun _ => rfl) (fun a _ => by cases a <;> rfl) (fun a b _ _ _ => by cases a <;> cases b <;> rfl) (fun a b st h => by cases a <;> cases b <;> first | rfl | exact absurd ⟨rfl, rfl⟩ (h _ _))) h)
theorem bMin_ok (hc : X.calm = true) : CallR X (.builtin "min") (rFn C bMin) := by
  intro pins s σ H xs us Q I r h
  exact call_min2 hc pins s σ H xs us Q I r (bTwo (g := fun i j => if j < i then j else i) (fun _ _ _ => rfl) (two_bad (fun _ => rfl) (fun a _ => by cases a <;> rfl) (fun a b _ _ _ => by cases a <;> cases b <;> rfl) (fun a b st h => by cases a <;> cases b <;> first | rfl | exact absurd ⟨rfl, rfl⟩ (h _ _))) h)
theorem kv_ints {ρ : List Addr} {H : Hp} : ∀ {kvs : List (D × D)} {vs : List (Key × V)} {ns : List Int}, intsD (kvs.map (·.1)) = some ns → RelKV C ρ H kvs vs → vs.map (·.1) = ns.map Sum.inl
  | [], vs, ns, e, r => by
    cases e
    rw [show vs = [] from r]
    rfl
  | (k, v) :: kvs, vs, ns, e, r => by
    obtain ⟨l, v, t, rfl, rk, _, rr⟩ := r
    cases k with
    | int i =>
      simp only [List.map_cons, intsD, Option.map_eq_some_iff] at e
      obtain ⟨ms, e1, rfl⟩ := e
      have h1 : l = .inl i := rk
      rw [List.map_cons, List.map_cons, kv_ints e1 rr, h1]
    | _ => simp [intsD] at e
theorem bSorted_ok (hK : X.K = C.K) (hw : X.w = C.w) (hc : X.calm = true) : CallR X (.builtin "sorted") (rFn C bSorted) := by
  intro pins s σ H xs us Q I r h
  obtain ⟨W, ρ, st, d, v, rfl, rv, R, p⟩ := bOne (g := fun d st => bSorted [d] st) (fun _ _ => rfl) (fun _ => rfl) (fun a _ _ _ => by cases a <;> rfl) h
  cases d with
  | ref i =>
    rw [rel_ref_iff] at rv
    obtain ⟨a, ha, rfl⟩ := rv
    simp only [bSorted] at p
    split at p
    · rename_i ts hs
      cases e2 : intsD ts with
      | none => simp only [e2] at p; exact p.elim
      | some ns =>
        simp only [e2] at p
        obtain ⟨vs, sq, du⟩ := R.sq (K := C.K) ha (.inl hs)
        rw [ints_rel e2 du] at sq
        refine cr_sortedI pins s σ H _ us Q I r ⟨a, ns, rfl, by rw [hK]; exact sq, fun ns' q pm so hq => ?_⟩
        have e : ns' = sortI ns := PySem.W.ksm_same (pm.trans (sortI_perm ns).symm) so (sortI_sorted ns)
        rw [e]
        exact p.lst R (rels_ints _) q hq
    · rename_i ns hs
      split at p
      · rename_i hz
        obtain ⟨S, hS, nd, hk⟩ := (show ObjR C ρ H a (.iset ns) from R.obj i a _ ha hs)
        refine cr_sortedSet hc pins s σ H _ us Q I r ⟨a, S, ns.length, rfl, by rw [hw]; exact hS, Nat.blt_eq.mp hz, fun ms q so hm hl hq => ?_⟩
        have e : ms = sortI ns := by
          refine PySem.W.ksm_same ?_ (so.imp fun h => Int.le_of_lt h) (sortI_sorted ns)
          refine List.Perm.trans ?_ (sortI_perm ns).symm
          refine (List.perm_ext_iff_of_nodup (so.imp fun h => Int.ne_of_lt h) nd).mpr fun k => ?_
          rw [hm, hk]
          simp
        rw [e]
        exact p.lst R (rels_ints _) q hq
      · exact p.elim
    · rename_i kvs hs
      cases e2 : intsD (kvs.map (·.1)) with
      | none => simp only [e2] at p; exact p.elim
      | some ns =>
        simp only [e2] at p
        split at p
        · rename_i hz
          obtain ⟨vs, hv, rk⟩ := R.dct ha hs
          refine call_sortedDI hc pins s σ H _ us Q I r ⟨a, vs, ns, rfl, .of hv, kv_ints e2 rk, Nat.blt_eq.mp hz, fun ys q pm so hq => ?_⟩
          have e : ys = sortI ns := PySem.W.ksm_same (pm.trans (sortI_perm ns).symm) so (sortI_sorted ns)
          rw [e]
          exact p.lst R (rels_ints _) q hq
        · exact p.elim
    · exact p.elim
  | _ => exact p.elim
theorem bDict_ok (hK : X.K = C.K) (hc : X.calm = true) : CallR X (.type "dict") (rFn C bDict) := by
  intro pins s σ H xs us Q I r h
  obtain ⟨W, ρ, st, d, v, rfl, rv, R, p⟩ := bOne (g := fun d st => match (seqL d st).bind pairs with | some kvs => alloc (.dct (putAll [] kvs)) st | none => .bad) (fun _ _ => rfl) (fun _ => rfl) (fun _ _ _ _ => rfl) h
  obtain ⟨u, rfl, ru⟩ := vals1 r
  have nil : RelKV C ρ H [] [] := rfl
  have lst : ∀ i ts, d = .ref i → (st[i]? = some (.lst ts)) → wpAny (model X.prog X.w) X.A (call (.type "dict") [u]) (EP X pins σ Q) X.xe s := fun i ts ed hs => by
    subst ed
    rw [rel_ref_iff] at rv
    obtain ⟨a, ha, rfl⟩ := rv
    cases ru
    have e : seqL (.ref i) st = some ts := by simp [seqL, hs]
    simp only [e, Option.bind_some] at p
    cases e2 : pairs ts with
    | none => simp only [e2] at p; exact p.elim
    | some kvs =>
      simp only [e2] at p
      obtain ⟨vs, hv, du⟩ := R.lst ha hs
      obtain ⟨bs, kws, rfl, hr, hp⟩ := pairs_rel e2 du
      obtain ⟨its, rw', ⟨o, n, ho, hcl, hd, hdt⟩, hz⟩ := I.list (SqL.of (K := X.K) hv)
      rw [List.length_map] at hz
      exact dict_of hc I (by rw [hK]; exact hp) (refs_at rw') hz (.inl ⟨o, n, ho, hcl, hd, hdt⟩) fun q hq => p.dct R (putAll_rel hr nil) q hq
  cases d with
  | tup ts =>
    rw [rel_tup_iff] at rv
    obtain ⟨a, vs, rfl, tp, du⟩ := rv
    cases ru
    have e : seqL (.tup ts) st = some ts := rfl
    simp only [e, Option.bind_some] at p
    cases e2 : pairs ts with
    | none => simp only [e2] at p; exact p.elim
    | some kvs =>
      simp only [e2] at p
      obtain ⟨bs, kws, rfl, hr, hp⟩ := pairs_rel e2 du
      obtain ⟨its, o, n, rw', hz, ho, hcl, hd, hdt⟩ := Tp.obj I (by rw [hK]; exact tp)
      rw [List.length_map] at hz
      exact dict_of hc I (by rw [hK]; exact hp) (refs_at rw') hz (.inr ⟨o, n, ho, hcl, hd, hdt⟩) fun q hq => p.dct R (putAll_rel hr nil) q hq
  | ref i =>
    cases e : st[i]? with
    | none => simp [seqL, e] at p; exact p.elim
    | some o =>
      cases o with
      | lst ts => exact lst i ts rfl e
      | _ => simp [seqL, e] at p; exact p.elim
  | _ => exact p.elim
end
end EV

-- part EvComp
set_option Elab.async false
set_option linter.all false
set_option maxRecDepth 100000
/-! From the text's syntax to what the evaluator does. -/
namespace EV
open PySem

/-- what a module's name stands for -/
inductive GV where
  | fn (f : Nat) (ps : List Str) | cst (d : D) | cls (c : Nat) (r : Bool)
/-- the text's names -/
structure Gs where
  tab : List (Str × GV)
  sub : Nat → Nat → Option Bool
  fld : Nat → List Str
  kws : List (Str × Nat × List Str × List Nat)
  free : List Str
  dead : List (Nat × Nat × List Nat)

/-- what nobody needs behind the statement of a line (k = 0), behind a turn of its loop (k = 1) -/
def deadOf (l k : Nat) : List (Nat × Nat × List Nat) → Option (List Nat)
  | [] => none
  | (m, j, vs) :: r => if Nat.beq l m && Nat.beq k j then some vs else deadOf l k r
def ownO (o : Option (List Nat)) (s : S) : S := match o with
  | some vs => ownS vs s
  | none => s
/-- the order of a call's keywords -/
def kwOf (x : Str) (n : Nat) (ks : List Str) : List (Str × Nat × List Str × List Nat) → Option (List Nat)
  | [] => none
  | (y, m, js, is) :: r => if x == y && m == n && decide (ks = js) then some is else kwOf x n ks r
def codes (x : Str) : List Nat := x.cps.toList
def strFits (x : List Nat) : Bool := Nat.ble x.length line && x.all (Nat.blt · 0x110000)
def plainName (x : Str) : Bool := !(x == ("__debug__" : Str)) && !(x == ("__classdict__" : Str)) && !(x == ("__name__" : Str))

/-- the place of a name among the def's names -/
def slotOf (x : Str) : List Str → Nat → Option Nat
  | [], _ => none
  | y :: ys, n => if x == y then some n else slotOf x ys (n + 1)
def visible (sc : Scope) (x : Str) : Bool := match sc.names.lookup x with
  | some .local => true
  | some .cell => true
  | some .free => true
  | _ => false
def isGlob (sc : Scope) (x : Str) : Bool := match sc.names.lookup x with
  | some .globalImplicit => true
  | _ => false
def gvOf (x : Str) : List (Str × GV) → Option GV
  | [] => none
  | (y, v) :: r => if x == y then some v else gvOf x r

/-- a built-in function or class that is called with values -/
structure Blt where
  name : Str
  isTy : Bool
  id : String
  calm : Bool
  f : BF
def bltTab : List Blt := [⟨"len", false, "len", false, bLen⟩, ⟨"tuple", true, "tuple", false, bTuple⟩, ⟨"all", false, "all", true, bAll⟩, ⟨"any", false, "any", true, bAny⟩, ⟨"int", true, "int", false, bInt⟩,
  ⟨"abs", false, "abs", false, bAbs⟩, ⟨"max", false, "max", true, bMax⟩, ⟨"min", false, "min", true, bMin⟩, ⟨"sum", false, "sum", true, bSum⟩, ⟨"sorted", false, "sorted", true, bSorted⟩, ⟨"dict", true, "dict", true, bDict⟩]
def bltOf (x : Str) : List Blt → Option Blt
  | [] => none
  | b :: r => if x == b.name then some b else bltOf x r
def tyTab : List (Str × Ty) := [("int", .int), ("bool", .bool), ("str", .str), ("tuple", .tuple), ("list", .list), ("dict", .dict)]
def tyNm : Ty → String
  | .int => "int" | .bool => "bool" | .str => "str" | .tuple => "tuple" | .list => "list" | .dict => "dict"
def tyOfName (x : Str) : List (Str × Ty) → Option Ty
  | [] => none
  | (y, t) :: r => if x == y then some t else tyOfName x r

/-- where one is: the names' slots, the scope, which names' cells are the block's own, within an except suite, in a block -/
structure Wh where
  N : List Str
  sc : Scope
  fb : Str → Bool
  hot : Bool
/-- a name that no text has -/
def freeB (G : Gs) (W : Wh) (x : Str) : Bool := isGlob W.sc x && G.free.contains x && plainName x

def op2Of : Operator → Option Op2
  | .Add => some opAdd
  | .Sub => some opSub
  | .Mult => some opMul
  | .FloorDiv => some opFdiv
  | .Mod => some opMod
  | .Pow => some opPow
  | _ => none
def cmpOf : CmpOp → Option Op2
  | .Eq => some opEq
  | .NotEq => some opNe
  | .Lt => some opLt
  | .LtE => some opLe
  | .Gt => some opGt
  | .GtE => some opGe
  | .Is => some opIs
  | .IsNot => some opIsnt
  | .In => some opIn
  | .NotIn => some opNotin
def notStar : Expr → Bool
  | .Starred _ _ => false
  | _ => true
def notSlice : Expr → Bool
  | .Slice _ _ _ _ => false
  | _ => true
def notComp : Expr → Bool
  | .ListComp _ _ _ _ => false
  | .SetComp _ _ _ _ => false
  | .DictComp _ _ _ _ _ => false
  | _ => true
/-- what may stand ahead of a dot, and be walked -/
def plainE : Expr → Bool
  | .Name _ _ => true
  | .Subscript _ _ _ => true
  | .ListComp _ _ _ _ => true
  | .Constant _ _ _ => true
  | .Call (.Name x _) (_ :: _) _ _ => true
  | .Tuple _ _ _ => true
  | .List _ _ => true
  | .IfExp _ _ _ _ => true
  | _ => false

/-- the names that a target stores -/
def tgNames : Nat → Expr → Option (List Str)
  | 0, _ => none
  | n + 1, e => match e with
    | .Name x _ => some [x]
    | .Tuple es _ _ => go (tgNames n) es
    | _ => none
where
  go (f : Expr → Option (List Str)) : List Expr → Option (List Str)
  | [] => some []
  | e :: es => match f e, go f es with
    | some a, some b => some (a ++ b)
    | _, _ => none
def slotsOf (N : List Str) : List Str → Option (List (Str × Nat))
  | [] => some []
  | x :: xs => match slotOf x N 0, slotsOf N xs with
    | some i, some r => some ((x, i) :: r)
    | _, _ => none
/-- a target: names and tuples of them -/
def cG (W : Wh) : Nat → Expr → Option Tg
  | 0, _ => none
  | n + 1, e => match e with
    | .Name x _ => match slotOf x W.N 0 with
      | some i => match W.sc.names.lookup x with
        | some .local => some (setG i)
        | some .cell => if W.fb x then some (setG i) else none
        | _ => none
      | none => none
    | .Tuple es _ _ => if W.hot then none else (go (cG W n) es).map (tupG es.length)
    | _ => none
where
  go (f : Expr → Option Tg) : List Expr → Option (List D → Env → Sto → Option Env)
  | [] => some nilG
  | e :: es => match f e, go f es with
    | some a, some b => if notStar e then some (consG a b) else none
    | _, _ => none

def isTupE : Expr → Bool
  | .Tuple _ _ _ => true
  | _ => false
/-- the block of a comprehension -/
def blkW (W : Wh) (scope : Scope) : Wh := ⟨W.N, L2.relS scope W.sc, fun x => scope.names.lookup x == some .cell, W.hot⟩

/-- the name that a walk locks -/
def lockSlot (N : List Str) : Expr → Option Nat
  | .Name x _ => slotOf x N 0
  | _ => none
def lkO (o : Option Nat) (m : M D) : M D := match o with
  | some i => lkM i m
  | none => m
def lkOS (o : Option Nat) (m : S) : S := match o with
  | some i => lkS i m
  | none => m
def firstI : List Comprehension → Expr
  | ⟨_, i, _, _⟩ :: _ => i
  | [] => .Constant .none 0 ⟨0, 0, 0, 0⟩
/-- the place of a keyword's parameter -/
def ordArgs (ps : List Str) (n : Nat) (ks : List Str) : Option (List Nat) :=
  if n + ks.length = ps.length then go (ps.drop n) ks else none
where
  /-- for each parameter behind the written ones the place of its keyword -/
  go : List Str → List Str → Option (List Nat)
  | [], _ => some []
  | p :: r, ks => match slotOf p ks 0, go r ks with
    | some i, some is => some (i :: is)
    | _, _ => none
def kwNames : List Keyword → Option (List Str)
  | [] => some []
  | ⟨some x, _, _⟩ :: r => (kwNames r).map (x :: ·)
  | _ => none

/-- the arguments hold no star -/
def plains : List Expr → Bool
  | [] => true
  | e :: r => notStar e && plains r
/-- the classes of isinstance -/
def cTys (G : Gs) (W : Wh) : List Expr → Option (List Ty)
  | [] => some []
  | e :: r => match e with
    | .Name x _ => if freeB G W x then (match tyOfName x tyTab, cTys G W r with
      | some t, some ts => some (t :: ts)
      | _, _ => none) else none
    | _ => none
mutual
def cE (G : Gs) (W : Wh) : Nat → Expr → Option (M D)
  | 0, _ => none
  | n + 1, e => match e with
    | .Name x _ => if plainName x then
        (if visible W.sc x then (slotOf x W.N 0).map varM
        else if isGlob W.sc x then (match gvOf x G.tab with
          | some (.cst d) => some (cstM d)
          | _ => none) else none) else none
    | .Constant c _ _ => match c with
      | .none => some (cstM .non)
      | .bool b => some (cstM (.bl b))
      | .int i => some (cstM (.int i))
      | .str x => if strFits (codes x) then some (cstM (.str (codes x))) else none
      | _ => none
    | .BinOp a op b _ => match op2Of op, cE G W n a, cE G W n b with
      | some f, some x, some y => some (op2M f x y)
      | _, _, _ => none
    | .UnaryOp op a _ => match op with
      | .USub => (cE G W n a).map (op1M negF)
      | .Not => (cE G W n a).map (op1M notF)
      | _ => none
    | .BoolOp op es pos => match es with
      | [] => none
      | [a] => cE G W n a
      | a :: b :: r => match cE G W n a, cE G W n (.BoolOp op (b :: r) pos) with
        | some x, some y => some (match op with | .And => andM x y | .Or => orM x y)
        | _, _ => none
    | .Compare a ops bs _ => match ops, bs with
      | [op], [b] => match cmpOf op, cE G W n a, cE G W n b with
        | some f, some x, some y => if behindInMarks op b then none else some (op2M f x y)
        | _, _, _ => none
      | [op, op'], [b, c] => match cmpOf op, cmpOf op', cE G W n a, cE G W n b, cE G W n c with
        | some f, some g, some x, some y, some z => if lastMarks [op, op'] [b, c] then none else some (chainM f g x y z)
        | _, _, _, _, _ => none
      | _, _ => none
    | .IfExp t a b _ => match cT G W n t, cE G W n a, cE G W n b with
      | some t, some x, some y => some (ifM t x y)
      | _, _, _ => none
    | .Tuple es _ _ => (cA G W n es).map tupM
    | .List es _ => (cA G W n es).map lstM
    | .Dict ks vs _ => match ks, vs with
      | [], [] => some dnewM
      | _, _ => none
    | .Subscript a i _ => match i with
      | .Slice lo hi st _ => match st, cE G W n a, cB G W n lo, cB G W n hi with
        | none, some x, some l, some h => some (sliceM x l h)
        | _, _, _, _ => none
      | i => if notSlice i then (match cE G W n a, cE G W n i with
        | some x, some y => some (op2M opIx x y)
        | _, _ => none) else none
    | .Call f es kws cpos => match f with
      | .Name x _ => if plainName x && isGlob W.sc x then (match gvOf x G.tab with
          | some (.fn g ps) => if W.hot then none else (match kws with
            | [] => (match es with
              | _ :: _ => if plains es then (cA G W n es).map (callM g ps.length) else none
              | [] => some (callM g ps.length nilA))
            | kws => match kwNames kws with
              | some ks => match kwOf x es.length ks G.kws with
                | some is => (match es with
                  | [] => (cK G W n kws).map (callK g ps.length 0 ks.length is nilA)
                  | _ :: _ => if plains es then (match cA G W n es, cK G W n kws with
                    | some a, some b => some (callK g ps.length es.length ks.length is a b)
                    | _, _ => none) else none)
                | none => none
              | none => none)
          | some _ => none
          | none => if !G.free.contains x then none else if x == ("isinstance" : Str) then (match es, kws with
              | [a, t], [] => if notStar a then (match t with
                | .Name y _ => if freeB G W y then (match cE G W n a, tyOfName y tyTab with
                    | some m, some u => some (op1M (bIsinst [u]) m)
                    | _, _ => none)
                  else if W.hot && isGlob W.sc y && plainName y then (match gvOf y G.tab with
                    | some (.cls c0 _) => (cE G W n a).map (op1M (excIs fun c => G.sub c c0))
                    | _ => none) else none
                | .Tuple ts _ _ => (match cE G W n a, cTys G W ts with
                  | some m, some us => if Nat.ble us.length 100 then some (op1M (bIsinst us) m) else none
                  | _, _ => none)
                | _ => none) else none
              | _, _ => none)
            else (match bltOf x bltTab, es, kws with
              | some b, _ :: _, [] => if plains es && !(b.calm && W.hot) then (cA G W n es).map (withA b.f) else none
              | _, _, _ => none)) else none
      | .Attribute o m apos => match es, kws with
        | [a], [] => if plainE o && notStar a && !W.hot && (apos.endLine == cpos.line) then (match cE G W n o, cE G W n a with
          | some x, some y => if m == ("append" : Str) then some (methM appendF x y) else if m == ("index" : Str) then some (methM indexF x y) else none
          | _, _ => none) else none
        | _, _ => none
      | _ => none
    | .Attribute o f _ => if W.hot && plainE o then (cE G W n o).map (op1M (excF fun c => slotOf f (G.fld c) 0)) else none
    | .ListComp elt gens scope _ => if W.hot then none else (cC G W n elt gens scope).map fun c => lkO (lockSlot W.N (firstI gens)) (compM c)
    | .SetComp elt gens scope _ => if W.hot then none else (match gens with
      | [_] => (cC G W n elt gens scope).map fun c => lkO (lockSlot W.N (firstI gens)) (scompM c)
      | _ => none)
    | _ => none
def cT (G : Gs) (W : Wh) : Nat → Expr → Option (M Bool)
  | 0, _ => none
  | n + 1, e => match e with
    | .UnaryOp op a _ => match op with
      | .Not => (cT G W n a).map notT
      | _ => none
    | .BoolOp op es pos => match es with
      | [] => none
      | [a] => cT G W n a
      | a :: b :: r => match cT G W n a, cT G W n (.BoolOp op (b :: r) pos) with
        | some x, some y => some (match op with | .And => andT x y | .Or => orT x y)
        | _, _ => none
    | .Compare a ops bs _ => match ops, bs with
      | [op], [b] => match cmpOf op, cE G W n a, cE G W n b with
        | some f, some x, some y => if behindInMarks op b then none else some (blT (op2M f x y))
        | _, _, _ => none
      | [op, op'], [b, c] => match cmpOf op, cmpOf op', cE G W n a, cE G W n b, cE G W n c with
        | some f, some g, some x, some y, some z => if lastMarks [op, op'] [b, c] then none else some (blT (chainM f g x y z))
        | _, _, _, _, _ => none
      | _, _ => none
    | .Name x pos => (cE G W n (.Name x pos)).map valT
    | .Call f es kws pos => (cE G W n (.Call f es kws pos)).map valT
    | .Subscript a i pos => (cE G W n (.Subscript a i pos)).map valT
    | _ => none
def cA (G : Gs) (W : Wh) : Nat → List Expr → Option (M (List D))
  | 0, _ => none
  | n + 1, es => match es with
    | [] => some nilA
    | e :: r => match e with
      | .Starred a _ => match cE G W n a, cA G W n r with
        | some x, some y => some (starA x y)
        | _, _ => none
      | e => if notStar e then (match cE G W n e, cA G W n r with
        | some x, some y => some (consA x y)
        | _, _ => none) else none
/-- a slice's bound -/
def cB (G : Gs) (W : Wh) : Nat → Option Expr → Option (M (Option Int))
  | 0, _ => none
  | n + 1, o => match o with
    | none => some noB
    | some e => (cE G W n e).map someB
/-- keywords' values -/
def cK (G : Gs) (W : Wh) : Nat → List Keyword → Option (M (List D))
  | 0, _ => none
  | n + 1, ks => match ks with
    | [] => some nilA
    | ⟨_, e, _⟩ :: r => match cE G W n e, cK G W n r with
      | some x, some y => some (consA x y)
      | _, _ => none
/-- what is walked, the target being tg -/
def cI (G : Gs) (W : Wh) : Nat → Expr → Expr → Option (M It)
  | 0, _, _ => none
  | n + 1, tg, e => match e with
    | .Call (.Name x p) es kws pos => if freeB G W x then
        (if x == ("range" : Str) then (match es, kws with
          | [a], [] => if notStar a then (cA G W n [a]).map rngM1 else none
          | [a, b], [] => if notStar a && notStar b then (cA G W n [a, b]).map rngM2 else none
          | _, _ => none)
        else if x == ("enumerate" : Str) then (match es, kws with
          | [a], [] => if notStar a && isTupE tg then (cE G W n a).map enumM else none
          | _, _ => none)
        else if x == ("zip" : Str) then (match es, kws with
          | [a, b], [] => if notStar a && notStar b && isTupE tg then (match cE G W n a, cE G W n b with
            | some x, some y => some (zipM x y)
            | _, _ => none) else none
          | _, _ => none)
        else (cE G W n (.Call (.Name x p) es kws pos)).map itM)
      else (cE G W n (.Call (.Name x p) es kws pos)).map itM
    | e => if plainE e then (cE G W n e).map itM else none
/-- the items of a comprehension -/
def cC (G : Gs) (W : Wh) : Nat → Expr → List Comprehension → Scope → Option (M (List D))
  | 0, _, _, _ => none
  | n + 1, elt, gens, scope => match gens with
    | [⟨tg, iter, ifs, isA⟩] => match isA, tgNames 8 tg with
      | .ofNat 0, some xs => match slotsOf W.N xs with
        | some own => if L2.blkC W.N W.sc scope own then (match cI G W n tg iter, cG (blkW W scope) 8 tg, cF G (blkW W scope) n ifs, cE G (blkW W scope) n elt with
          | some i, some g, some t, some e => some (compI i (own.map (·.2)) g t e)
          | _, _, _, _ => none) else none
        | none => none
      | _, _ => none
    | [⟨tg, iter, ifs, isA⟩, ⟨tg1, iter1, ifs1, isA1⟩] => match isA, isA1, tgNames 8 tg, tgNames 8 tg1 with
      | .ofNat 0, .ofNat 0, some xs, some ys => match slotsOf W.N (xs ++ ys), slotsOf W.N ys with
        | some own, some own1 => if L2.blkC W.N W.sc scope own then (match cI G W n tg iter, cG (blkW W scope) 8 tg, cF G (blkW W scope) n ifs, cI G (blkW W scope) n tg1 iter1, cG (blkW W scope) 8 tg1, cF G (blkW W scope) n ifs1, cE G (blkW W scope) n elt with
          | some i, some g, some t, some i1, some g1, some t1, some e => some (compI2 i (own.map (·.2)) g t i1 (own1.map (·.2)) g1 t1 e)
          | _, _, _, _, _, _, _ => none) else none
        | _, _ => none
      | _, _, _, _ => none
    | _ => none
/-- a clause's tests: none or one -/
def cF (G : Gs) (W : Wh) : Nat → List Expr → Option (M Bool)
  | 0, _ => none
  | n + 1, ifs => match ifs with
    | [] => some yesT
    | [t] => cT G W n t
    | _ => none
end
def isStar : Expr → Bool
  | .Starred _ _ => true
  | _ => false
def lineOf (ts : List Expr) : Nat := match ts with
  | t :: _ => t.pos.line
  | [] => 0
/-- the plain names of a line -/
def plainAt (sc : Scope) (l : Nat) : List Expr → List Str
  | [] => []
  | .Name x p :: r => if sc.names.lookup x == some .local && p.line == l then x :: plainAt sc l r else plainAt sc l r
  | _ :: r => plainAt sc l r
/-- how a, b = x, y stores: none: not known; some none: through a tuple; some xs: the names one by one -/
def parOf (sc : Scope) (ts vs : List Expr) : Option (Option (List Str)) :=
  if ts.length != 2 && ts.length != 3 || vs.length != ts.length || vs.any isStar then some none else
  if (plainAt sc (lineOf ts) ts).length != ts.length || (plainAt sc (lineOf ts) ts).eraseDups.length != (plainAt sc (lineOf ts) ts).length || vs.all (foldedForSure 8) then some none else
  if vs.all (constantsAlone 8) then none else some (some (plainAt sc (lineOf ts) ts))
/-- the value of a comprehension is stored by the comprehension itself -/
def swB (sc : Scope) (scope : Scope) (y : Str) (py pos : Pos) : Bool := decide (sc.names.lookup y = some .local) && (py.line == pos.line) && !(scope.names.any fun (n, k) => n == y && (k == .local || k == .cell))
mutual
def cS (G : Gs) (W : Wh) : Nat → Stmt → Option S
  | 0, _ => none
  | n + 1, st => match st with
    | .Pass _ => some nilS
    | .Break _ => some breakS
    | .Continue _ => some contS
    | .Return o _ => match o with
      | none => some (retS (cstM .non))
      | some e => (cE G W n e).map retS
    | .Expr e _ => if notComp e then (cE G W n e).map exprS else none
    | .If c a b _ => match cT G W n c, cSs G W n a, cSs G W n b with
      | some t, some x, some y => some (ifS t x y)
      | _, _, _ => none
    | .While c a b _ => match b with
      | [] => if W.hot then none else (match cT G W n c, cSs G W n a with
        | some t, some x => some (whileS t x)
        | _, _ => none)
      | _ => none
    | .For tg it a b pos => match b with
      | [] => if W.hot then none else (match cI G W n tg it, cG W n tg, cSs G W n a with
        | some i, some g, some x => some (lkOS (lockSlot W.N it) (forS i g (ownO (deadOf pos.line 1 G.dead) x)))
        | _, _, _ => none)
      | _ => none
    | .Raise o o2 _ => match o, o2 with
      | some (.Call (.Name x _) es [] _), none => if plainName x && isGlob W.sc x && !W.hot && plains es then (match es, gvOf x G.tab, cA G W n es with
        | _ :: _, some (.cls c true), some m => some (raiseS c (G.fld c).length m)
        | _, _, _ => none) else none
      | _, _ => none
    | .Try body hs oe fb _ => match hs, oe, fb with
      | [.ExceptHandler (some (.Name x _)) (some nm) (b0 :: suite) _], [], [] => if plainName x && isGlob W.sc x && !W.hot && decide (W.sc.names.lookup nm = some .local) then (match gvOf x G.tab, slotOf nm W.N 0, cSs G W n body, cSs G ⟨W.N, W.sc, W.fb, true⟩ n (b0 :: suite) with
        | some (.cls c0 _), some i, some p, some q => some (tryS p (fun c => G.sub c c0) i q)
        | _, _, _, _ => none) else none
      | _, _, _ => none
    | .Assign tgs e pos => match tgs with
      | [tg] => match tg with
        | .Subscript o i _ => if notSlice i then (match cE G W n o, cE G W n i, cE G W n e with
          | some a, some b, some m => some (putS a b m)
          | _, _, _ => none) else none
        | .Tuple ts _ _ => (match e with
          | .Tuple vs _ _ => (match parOf W.sc ts vs with
            | none => none
            | some none => (match cG W n tg, cE G W n e with
              | some g, some m => some (asgS g m)
              | _, _ => none)
            | some (some xs) => if W.hot then none else (match ts, vs with
              | [.Name x _, .Name y _], [a, b] => if decide (xs = [x, y]) && decide (W.sc.names.lookup x = some .local) && decide (W.sc.names.lookup y = some .local) then (match slotOf x W.N 0, slotOf y W.N 0, cA G W n [a, b] with
                | some i, some j, some m => if decide (i = j) then none else some (par2S i j m)
                | _, _, _ => none) else none
              | [.Name x _, .Name y _, .Name z _], [a, b, c] => if decide (xs = [x, y, z]) && decide (W.sc.names.lookup x = some .local) && decide (W.sc.names.lookup y = some .local) && decide (W.sc.names.lookup z = some .local) then (match slotOf x W.N 0, slotOf y W.N 0, slotOf z W.N 0, cA G W n [a, b, c] with
                | some i, some j, some k, some m => if decide (i = j) || decide (i = k) || decide (j = k) then none else some (par3S i j k m)
                | _, _, _, _ => none) else none
              | _, _ => none))
          | e => (match cG W n tg, cE G W n e with
            | some g, some m => some (asgS g m)
            | _, _ => none))
        | .Name y py => match e with
          | .ListComp elt gens scope cpos => if swB W.sc scope y py cpos then (if W.hot then none else (match slotOf y W.N 0, cC G W n elt gens scope with
              | some i, some c => some (lkOS (lockSlot W.N (firstI gens)) (asgS (setG i) (compM c)))
              | _, _ => none))
            else (match cG W n tg, cE G W n e with
              | some g, some m => some (asgS g m)
              | _, _ => none)
          | e => if notComp e then (match cG W n tg, cE G W n e with
              | some g, some m => some (asgS g m)
              | _, _ => none) else none
        | _ => none
      | _ => none
    | _ => none
def cSs (G : Gs) (W : Wh) : Nat → List Stmt → Option S
  | 0, _ => none
  | n + 1, ss => match ss with
    | [] => some nilS
    | s :: r => match cS G W n s, cSs G W n r with
      | some a, some b => some (seqS (ownO (deadOf s.pos.line 0 G.dead) a) b)
      | _, _ => none
end
end EV

-- part EvExpr
set_option Elab.async false
set_option linter.all false
set_option maxRecDepth 100000
/-! What the evaluator's expressions promise: rule by rule. -/
namespace EV
open PySem PySem.Spec PyProof.Rows L2

/-- the reading of an evaluator's step -/
def tM {α β : Type} (C : Ctx) (W : WX) (Φ : Call) (rel : List Addr → Hp → Sto → α → β → Prop) (m : M α) (σ : L2.St) (H : Hp) (Q : β → Hp → Prop) : Prop :=
  ∃ (ρ : List Addr) (env : Env) (st : Sto), EnvR C ρ H env σ ∧ Rel C ρ H st ∧ Post C ρ H rel Q (WE W σ) (m Φ env st)
abbrev tE (C : Ctx) (W : WX) (Φ : Call) (m : M D) : TE := tM C W Φ (relV C) m
abbrev tT (C : Ctx) (W : WX) (Φ : Call) (m : M Bool) : TT := tM C W Φ relB m
abbrev tA (C : Ctx) (W : WX) (Φ : Call) (m : M (List D)) : TA := tM C W Φ (relA C) m
abbrev relO : List Addr → Hp → Sto → Option Int → Option Int → Prop := fun _ _ _ a b => a = b
abbrev tO (C : Ctx) (W : WX) (Φ : Call) (m : M (Option Int)) : TO := tM C W Φ relO m

section
variable {α α' β β' : Type} {C : Ctx} {W : WX} {Φ : Call} {rel : List Addr → Hp → Sto → α → β → Prop} {rel' : List Addr → Hp → Sto → α' → β' → Prop} {m : M α} {σ : L2.St} {ρ : List Addr} {H : Hp} {env : Env} {st : Sto} {f : α → Sto → Res α'} {Q : β' → Hp → Prop} {X : Cx} {e : Expr} {E : XK}
/-- what stands behind a first step -/
def After (C : Ctx) (ρ : List Addr) (H : Hp) (env : Env) (σ : L2.St) (rel : List Addr → Hp → Sto → α → β → Prop) (k : List Addr → Hp → Sto → α → β → Prop) (b : β) (H1 : Hp) : Prop :=
  ∃ (a : α) (st1 : Sto) (ρ1 : List Addr), Step C ρ H ρ1 H1 st1 ∧ EnvR C ρ1 H1 env σ ∧ rel ρ1 H1 st1 a b ∧ k ρ1 H1 st1 a b
theorem tM_bind (hE : EnvR C ρ H env σ) (R : Rel C ρ H st) (p : Post C ρ H rel' Q (WE W σ) ((m Φ env st).bind f)) :
    tM C W Φ rel m σ H (After C ρ H env σ rel fun ρ1 H1 st1 a _ => Post C ρ1 H1 rel' Q (WE W σ) (f a st1)) := by
  refine ⟨ρ, env, st, hE, R, (Post.bind p).imp ?_⟩
  rintro b H1 ⟨a, st1, ρ1, s, r, e, q⟩
  exact ⟨a, st1, ρ1, s, s.env R hE, r, q⟩
theorem tM_imp {Q' : β → Hp → Prop} {Q : β → Hp → Prop} (h : tM C W Φ rel m σ H Q) (k : ∀ b H1, Q b H1 → Q' b H1) : tM C W Φ rel m σ H Q' := by
  obtain ⟨ρ, env, st, a, b, p⟩ := h
  exact ⟨ρ, env, st, a, b, p.imp k⟩
theorem Post.ok {a : α} {b : β} {Q : β → Hp → Prop} {E : XK} (R : Rel C ρ H st) (p : Post C ρ H rel Q E (.ok a st)) (r : rel ρ H st a b) : Q b H := p b H ρ (Step.refl R) r
theorem PE_imp {t t' : TE} (h : PE X e t) (k : ∀ σ H Q, t' σ H Q → t σ H Q) : PE X e t' := ⟨fun pins s σ H Q I w => h.run pins s σ H Q I (k σ H Q w)⟩
theorem PT_imp {t t' : TT} (h : PT X e t) (k : ∀ σ H Q, t' σ H Q → t σ H Q) : PT X e t' := ⟨fun pins s σ H Q I w => h.run pins s σ H Q I (k σ H Q w)⟩
theorem PW_imp {t t' : TT} (h : PW X e t) (k : ∀ σ H Q, t' σ H Q → t σ H Q) : PW X e t' := ⟨fun wh pins s σ H Q I w => h.run wh pins s σ H Q I (k σ H Q w)⟩
theorem PA_imp {es : List Expr} {t t' : TA} (h : PA X es t) (k : ∀ σ H Q, t' σ H Q → t σ H Q) : PA X es t' := ⟨fun pos pins s σ H Q I w => h.run pos pins s σ H Q I (k σ H Q w)⟩
theorem PO_imp {o : Option Expr} {t t' : TO} (h : PO X o t) (k : ∀ σ H Q, t' σ H Q → t σ H Q) : PO X o t' := ⟨fun pins s σ H Q I w => h.run pins s σ H Q I (k σ H Q w)⟩
end

section
variable {C : Ctx} {W : WX} {Φ : Call} {X : Cx} {a b c e : Expr} {es : List Expr} {ma mb mc m : M D} {mt : M Bool} {ms : M (List D)} {pos : Pos}

/-! ### the leaves -/
theorem s_cst {d : D} {v : V} (h : PE X e (tC v)) (r : ∀ ρ H, RelD C ρ H d v) : PE X e (tE C W Φ (cstM d)) := by
  refine PE_imp h fun σ H Q w => ?_
  obtain ⟨ρ, env, st, hE, R, p⟩ := w
  exact Post.ok (b := v) R p (r ρ H)
theorem s_var {i : Nat} (h : PE X e (tVar i)) : PE X e (tE C W Φ (varM i)) := by
  refine PE_imp h fun σ H Q w => ?_
  obtain ⟨ρ, env, st, hE, R, p⟩ := w
  unfold varM at p
  split at p
  · next d he =>
    obtain ⟨v, hv, r⟩ := hE.2 i d he
    exact ⟨v, hv, Post.ok (b := v) R p r⟩
  · exact p.elim

/-! ### operators -/
theorem op2_tE {f : Op2} {σ : L2.St} {H : Hp} {Q : VK} (w : tE C W Φ (op2M f ma mb) σ H Q) : tOp (rF2 C f) (tE C W Φ ma) (tE C W Φ mb) σ H Q := by
  obtain ⟨ρ, env, st, hE, R, p⟩ := w
  refine tM_imp (tM_bind hE R p) ?_
  rintro x H1 ⟨d1, st1, ρ1, s1, hE1, r1, p1⟩
  refine tM_imp (tM_bind hE1 s1.rel p1) ?_
  rintro y H2 ⟨d2, st2, ρ2, s2, hE2, r2, p2⟩
  exact ⟨_, ρ2, st2, d1, d2, s2.val s1.rel r1, r2, s2.rel, p2⟩
theorem chain_tE {f g : Op2} {σ : L2.St} {H : Hp} {Q : VK} (w : tE C W Φ (chainM f g ma mb mc) σ H Q) : tChain (rF2 C f) (rF2 C g) (tE C W Φ ma) (tE C W Φ mb) (tE C W Φ mc) σ H Q := by
  obtain ⟨ρ, env, st, hE, R, p⟩ := w
  refine tM_imp (tM_bind hE R p) ?_
  rintro x H1 ⟨d1, st1, ρ1, s1, hE1, r1, p1⟩
  refine tM_imp (tM_bind hE1 s1.rel p1) ?_
  rintro y H2 ⟨d2, st2, ρ2, s2, hE2, r2, p2⟩
  refine ⟨_, ρ2, st2, d1, d2, s2.val s1.rel r1, r2, s2.rel, (Post.bind (rel := relV C) p2).imp ?_⟩
  rintro z H3 ⟨d3, st3, ρ3, s3, r3, _, p3⟩
  cases d3 with
  | bl k =>
    refine ⟨k, rel_bl_iff.mp r3, ?_⟩
    cases k with
    | false =>
      rw [if_neg Bool.false_ne_true]
      exact Post.ok (b := V.bl false) s3.rel p3 rel_bl
    | true =>
      rw [if_pos rfl]
      refine tM_imp (tM_bind (s3.env s2.rel hE2) s3.rel p3) ?_
      rintro u H4 ⟨d4, st4, ρ4, s4, hE4, r4, p4⟩
      exact ⟨_, ρ4, st4, d2, d4, (s3.trans s4).val s2.rel r2, r4, s4.rel, p4⟩
  | _ => exact p3.elim
theorem bl_tT {σ : L2.St} {H : Hp} {Q : Bool → Hp → Prop} (w : tT C W Φ (blT m) σ H Q) : tTest (tE C W Φ m) σ H Q := by
  obtain ⟨ρ, env, st, hE, R, p⟩ := w
  refine tM_imp (tM_bind hE R p) ?_
  rintro x H1 ⟨d1, st1, ρ1, s1, hE1, r1, p1⟩
  cases d1 with
  | bl k => exact ⟨k, rel_bl_iff.mp r1, Post.ok (b := k) s1.rel p1 rfl⟩
  | _ => exact p1.elim
theorem test_imp {t t' : TE} (h : ∀ σ H Q, t' σ H Q → t σ H Q) {σ : L2.St} {H : Hp} {Q : Bool → Hp → Prop} (w : tTest t' σ H Q) : tTest t σ H Q := h _ _ _ w
theorem s_bin {op : Operator} {f : Op2} (ho : OpR X (binaryOp op) (rF2 C f)) (ha : PE X a (tE C W Φ ma)) (hb : PE X b (tE C W Φ mb)) : PE X (.BinOp a op b pos) (tE C W Φ (op2M f ma mb)) :=
  PE_imp (pe_op ho ha hb) fun _ _ _ w => op2_tE w
theorem s_cmp {op : CmpOp} {f : Op2} (ho : OpR X (compareOp op) (rF2 C f)) (ha : PE X a (tE C W Φ ma)) (hb : PE X b (tE C W Φ mb)) (hm : behindInMarks op b = false) : PE X (.Compare a [op] [b] pos) (tE C W Φ (op2M f ma mb)) :=
  PE_imp (pe_cmpR ho ha hb hm) fun _ _ _ w => op2_tE w
theorem s_cmpT {op : CmpOp} {f : Op2} (ho : OpR X (compareOp op) (rF2 C f)) (ha : PE X a (tE C W Φ ma)) (hb : PE X b (tE C W Φ mb)) (hm : behindInMarks op b = false) : PT X (.Compare a [op] [b] pos) (tT C W Φ (blT (op2M f ma mb))) :=
  PT_imp (pt_cmpR ho ha hb hm) fun _ _ _ w => test_imp (fun _ _ _ w => op2_tE w) (bl_tT w)
theorem s_chain {op op' : CmpOp} {f g : Op2} (ho : OpR X (compareOp op) (rF2 C f)) (ho' : OpR X (compareOp op') (rF2 C g)) (ha : PE X a (tE C W Φ ma)) (hb : PE X b (tE C W Φ mb)) (hc : PE X c (tE C W Φ mc)) (hm : lastMarks [op, op'] [b, c] = false) :
    PE X (.Compare a [op, op'] [b, c] pos) (tE C W Φ (chainM f g ma mb mc)) := PE_imp (pe_chain ho ho' ha hb hc hm) fun _ _ _ w => chain_tE w
theorem s_chainT {op op' : CmpOp} {f g : Op2} (ho : OpR X (compareOp op) (rF2 C f)) (ho' : OpR X (compareOp op') (rF2 C g)) (ha : PE X a (tE C W Φ ma)) (hb : PE X b (tE C W Φ mb)) (hc : PE X c (tE C W Φ mc)) (hm : lastMarks [op, op'] [b, c] = false) :
    PT X (.Compare a [op, op'] [b, c] pos) (tT C W Φ (blT (chainM f g ma mb mc))) := PT_imp (pt_chain ho ho' ha hb hc hm) fun _ _ _ w => test_imp (fun _ _ _ w => chain_tE w) (bl_tT w)
theorem op1_tE {f : D → Sto → Res D} {σ : L2.St} {H : Hp} {Q : VK} (w : tE C W Φ (op1M f ma) σ H Q) : tUn (rF1 C f) (tE C W Φ ma) σ H Q := by
  obtain ⟨ρ, env, st, hE, R, p⟩ := w
  refine tM_imp (tM_bind hE R p) ?_
  rintro x H1 ⟨d1, st1, ρ1, s1, hE1, r1, p1⟩
  exact ⟨_, ρ1, st1, d1, r1, s1.rel, p1⟩
theorem neg_ok : UnR X (unaryOp .USub) (rF1 C negF) := by
  rintro pins s σ H x v Q I rx ⟨E, ρ, st, d, rd, R, p⟩
  cases d with
  | int i =>
    obtain rfl := rel_int_iff.mp rd
    exact un_neg pins s σ H _ v Q I rx ⟨i, rfl, Post.ok (b := V.int (-i)) R p rel_int⟩
  | _ => exact p.elim
theorem s_neg (ha : PE X a (tE C W Φ ma)) : PE X (.UnaryOp .USub a pos) (tE C W Φ (op1M negF ma)) := PE_imp (pe_un neg_ok ha) fun _ _ _ w => op1_tE w

/-! ### truth -/
theorem truth_ok {ρ : List Addr} {H : Hp} {st : Sto} (R : Rel C ρ H st) {d : D} {v : V} {k : Bool} (r : RelD C ρ H d v) (e : truth d st = some k) : TruV C.K v H k := by
  have emp : ∀ {ds : List D} {vs : List V}, RelDs C ρ H ds vs → (!ds.isEmpty) = !vs.isEmpty := fun {ds vs} r => by
    have l := r.length
    cases ds <;> cases vs <;> first | rfl | cases l
  cases d with
  | non => cases e; rw [rel_non_iff.mp r]; rfl
  | bl b => cases e; rw [rel_bl_iff.mp r]; rfl
  | int i => cases e; rw [rel_int_iff.mp r]; rfl
  | str x =>
    cases e
    obtain ⟨rfl, h1, _⟩ := rel_str_iff.mp r
    refine ⟨by rw [ws_length]; exact h1, ?_⟩
    rw [ws_length]
    cases x with
    | nil => rfl
    | cons c x => simp [List.isEmpty]; omega
  | tup xs =>
    cases e
    obtain ⟨a, vs, rfl, t, rs⟩ := rel_tup_iff.mp r
    exact .inr (.inl ⟨vs, t.sq, emp rs⟩)
  | ref i =>
    obtain ⟨a, ha, rfl⟩ := rel_ref_iff.mp r
    unfold truth at e
    dsimp only at e
    cases hs : st[i]? with
    | none => rw [hs] at e; cases e
    | some o =>
      rw [hs] at e
      cases o with
      | lst xs =>
        cases e
        obtain ⟨vs, q, rs⟩ := R.sq (K := C.K) ha (.inl hs)
        exact .inl ⟨vs, q, emp rs⟩
      | frz xs =>
        cases e
        obtain ⟨vs, q, rs⟩ := R.sq (K := C.K) ha (.inr hs)
        exact .inl ⟨vs, q, emp rs⟩
      | dct kvs =>
        cases e
        obtain ⟨vs, q, rs⟩ := R.dct ha hs
        refine .inr (.inr ⟨vs, q, ?_⟩)
        cases kvs with
        | nil => rw [show vs = [] from rs]; rfl
        | cons p kvs =>
          obtain ⟨k, v, r, rfl, _⟩ := rs
          rfl
      | fdc kvs => cases e
      | iset ns => cases e
  | lst xs => cases e
  | exn c xs => cases e
theorem not_tE {σ : L2.St} {H : Hp} {Q : VK} (w : tE C W Φ (op1M notF ma) σ H Q) : tNotT C.K (tE C W Φ ma) σ H Q := by
  obtain ⟨ρ, env, st, hE, R, p⟩ := w
  refine tM_imp (tM_bind hE R p) ?_
  rintro x H1 ⟨d1, st1, ρ1, s1, hE1, r1, p1⟩
  obtain ⟨b, e, q⟩ := retB_elim s1.rel p1
  obtain ⟨c, e1, rfl⟩ := map_not e
  exact ⟨c, truth_ok s1.rel r1 e1, q⟩
theorem s_not (hK : X.K = C.K) (ha : PE X a (tE C W Φ ma)) : PE X (.UnaryOp .Not a pos) (tE C W Φ (op1M notF ma)) := PE_imp (pe_notT ha) fun _ _ _ w => by rw [hK]; exact not_tE w
theorem s_one {op : BoolOp} (ha : PE X a (tE C W Φ ma)) : PE X (.BoolOp op [a] pos) (tE C W Φ ma) := pe_one ha
theorem s_and (hK : X.K = C.K) (ha : PE X a (tE C W Φ ma)) (hb : PE X (.BoolOp .And (b :: es) pos) (tE C W Φ mb)) : PE X (.BoolOp .And (a :: b :: es) pos) (tE C W Φ (andM ma mb)) := by
  refine PE_imp (pe_andT ha hb) fun σ H Q w => ?_
  obtain ⟨ρ, env, st, hE, R, p⟩ := w
  refine tM_imp (tM_bind hE R p) ?_
  rintro x H1 ⟨d1, st1, ρ1, s1, hE1, r1, p1⟩
  rw [hK]
  cases e : truth d1 st1 with
  | none => simp only [e] at p1; exact p1.elim
  | some k =>
    simp only [e] at p1
    refine ⟨k, truth_ok s1.rel r1 e, ?_⟩
    cases k with
    | true => exact ⟨ρ1, env, st1, hE1, s1.rel, p1⟩
    | false => exact Post.ok (b := x) s1.rel p1 r1
theorem s_or (hK : X.K = C.K) (ha : PE X a (tE C W Φ ma)) (hb : PE X (.BoolOp .Or (b :: es) pos) (tE C W Φ mb)) : PE X (.BoolOp .Or (a :: b :: es) pos) (tE C W Φ (orM ma mb)) := by
  refine PE_imp (pe_orT ha hb) fun σ H Q w => ?_
  obtain ⟨ρ, env, st, hE, R, p⟩ := w
  refine tM_imp (tM_bind hE R p) ?_
  rintro x H1 ⟨d1, st1, ρ1, s1, hE1, r1, p1⟩
  rw [hK]
  cases e : truth d1 st1 with
  | none => simp only [e] at p1; exact p1.elim
  | some k =>
    simp only [e] at p1
    refine ⟨k, truth_ok s1.rel r1 e, ?_⟩
    cases k with
    | false => exact ⟨ρ1, env, st1, hE1, s1.rel, p1⟩
    | true => exact Post.ok (b := x) s1.rel p1 r1
theorem s_val (hK : X.K = C.K) (ha : PE X a (tE C W Φ ma)) (he : ∀ whole, isTrue a X.env whole = (do let v ← whole; standAt a.pos; holding [v] (truthy v))) : PT X a (tT C W Φ (valT ma)) := by
  refine PT_imp (pt_truth ha he) fun σ H Q w => ?_
  obtain ⟨ρ, env, st, hE, R, p⟩ := w
  refine tM_imp (tM_bind hE R p) ?_
  rintro x H1 ⟨d1, st1, ρ1, s1, hE1, r1, p1⟩
  rw [hK]
  cases e : truth d1 st1 with
  | none => simp only [e] at p1; exact p1.elim
  | some k =>
    simp only [e] at p1
    exact ⟨k, truth_ok s1.rel r1 e, Post.ok (b := k) s1.rel p1 rfl⟩
theorem s_notT {t : M Bool} (ha : PT X a (tT C W Φ t)) : PT X (.UnaryOp .Not a pos) (tT C W Φ (notT t)) := by
  refine PT_imp (pt_not ha) fun σ H Q w => ?_
  obtain ⟨ρ, env, st, hE, R, p⟩ := w
  refine tM_imp (tM_bind hE R p) ?_
  rintro x H1 ⟨d1, st1, ρ1, s1, hE1, rfl, p1⟩
  exact Post.ok (b := !d1) s1.rel p1 rfl
theorem s_oneT {op : BoolOp} {t : M Bool} (ha : PT X a (tT C W Φ t)) : PW X (.BoolOp op [a] pos) (tT C W Φ t) := by
  cases op
  · exact pw_and1 ha
  · exact pw_or1 ha
theorem s_andT {t u : M Bool} (ha : PT X a (tT C W Φ t)) (hb : PW X (.BoolOp .And (b :: es) pos) (tT C W Φ u)) : PW X (.BoolOp .And (a :: b :: es) pos) (tT C W Φ (andT t u)) := by
  refine PW_imp (pw_and ha hb) fun σ H Q w => ?_
  obtain ⟨ρ, env, st, hE, R, p⟩ := w
  refine tM_imp (tM_bind hE R p) ?_
  rintro x H1 ⟨d1, st1, ρ1, s1, hE1, rfl, p1⟩
  cases d1 with
  | true => exact ⟨ρ1, env, st1, hE1, s1.rel, p1⟩
  | false => exact Post.ok (b := false) s1.rel p1 rfl
theorem s_orT {t u : M Bool} (ha : PT X a (tT C W Φ t)) (hb : PW X (.BoolOp .Or (b :: es) pos) (tT C W Φ u)) : PW X (.BoolOp .Or (a :: b :: es) pos) (tT C W Φ (orT t u)) := by
  refine PW_imp (pw_or ha hb) fun σ H Q w => ?_
  obtain ⟨ρ, env, st, hE, R, p⟩ := w
  refine tM_imp (tM_bind hE R p) ?_
  rintro x H1 ⟨d1, st1, ρ1, s1, hE1, rfl, p1⟩
  cases d1 with
  | false => exact ⟨ρ1, env, st1, hE1, s1.rel, p1⟩
  | true => exact Post.ok (b := true) s1.rel p1 rfl
theorem s_if {t : M Bool} (ht : PT X c (tT C W Φ t)) (ha : PE X a (tE C W Φ ma)) (hb : PE X b (tE C W Φ mb)) : PE X (.IfExp c a b pos) (tE C W Φ (ifM t ma mb)) := by
  refine PE_imp (pe_ifExp ht ha hb) fun σ H Q w => ?_
  obtain ⟨ρ, env, st, hE, R, p⟩ := w
  refine tM_imp (tM_bind hE R p) ?_
  rintro x H1 ⟨d1, st1, ρ1, s1, hE1, rfl, p1⟩
  cases d1 <;> exact ⟨ρ1, env, st1, hE1, s1.rel, p1⟩

/-! ### items, displays, calls by values -/
theorem star_no (h : notStar e = true) : starEach (e :: es) X.env = (false, eval e X.env) :: starEach es X.env := by
  cases e <;> first | rfl | cases h
theorem s_nil : PA X [] (tA C W Φ nilA) := by
  refine PA_imp pa_nil fun σ H Q w => ?_
  obtain ⟨ρ, env, st, hE, R, p⟩ := w
  exact Post.ok (b := []) R p (rels_nil_iff.mpr rfl)
theorem s_cons (hs : notStar e = true) (ha : PE X e (tE C W Φ ma)) (hr : PA X es (tA C W Φ ms)) : PA X (e :: es) (tA C W Φ (consA ma ms)) := by
  refine PA_imp (pa_cons ha hr (star_no hs)) fun σ H Q w => ?_
  obtain ⟨ρ, env, st, hE, R, p⟩ := w
  refine tM_imp (tM_bind hE R p) ?_
  rintro x H1 ⟨d1, st1, ρ1, s1, hE1, r1, p1⟩
  refine tM_imp (tM_bind hE1 s1.rel p1) ?_
  rintro xs H2 ⟨ds, st2, ρ2, s2, hE2, r2, p2⟩
  exact Post.ok (b := x :: xs) s2.rel p2 (rels_cons_iff.mpr ⟨x, xs, rfl, s2.val s1.rel r1, r2⟩)
theorem s_star (hK : X.K = C.K) (ha : PE X e (tE C W Φ ma)) (hr : PA X es (tA C W Φ ms)) : PA X (.Starred e pos :: es) (tA C W Φ (starA ma ms)) := by
  refine PA_imp (StX.pa_star ha hr) fun σ H Q w => ?_
  obtain ⟨ρ, env, st, hE, R, p⟩ := w
  refine tM_imp (tM_bind hE R p) ?_
  rintro x H1 ⟨d1, st1, ρ1, s1, hE1, r1, p1⟩
  have go : ∀ (a : Addr) (ys : List D) (vs : List V), x = .ref a → (SqT C.K H1 a vs ∨ SqL C.K H1 a vs) → RelDs C ρ1 H1 ys vs → seqOf d1 st1 = some ys → ∃ (a : Addr) (xs : List V), x = .ref a ∧ (SqT X.K H1 a xs ∨ SqL X.K H1 a xs) ∧ tA C W Φ ms σ H1 fun zs H2 => Q (xs ++ zs) H2 := by
    intro a ys vs ex hq rs es
    refine ⟨a, vs, ex, by rw [hK]; exact hq, ?_⟩
    simp only [es] at p1
    refine tM_imp (tM_bind hE1 s1.rel p1) ?_
    rintro zs H2 ⟨ds, st2, ρ2, s2, hE2, r2, p2⟩
    exact Post.ok (b := vs ++ zs) s2.rel p2 ((s2.vals s1.rel rs).append r2)
  cases d1 with
  | tup ys =>
    obtain ⟨a, vs, ex, t, rs⟩ := rel_tup_iff.mp r1
    exact go a ys vs ex (.inl t.sq) rs rfl
  | ref i =>
    obtain ⟨a, ha, ex⟩ := rel_ref_iff.mp r1
    cases hs : st1[i]? with
    | none => simp only [seqOf, hs] at p1; exact p1.elim
    | some o =>
      cases o with
      | lst ys =>
        obtain ⟨vs, q, rs⟩ := s1.rel.sq (K := C.K) ha (.inl hs)
        exact go a ys vs ex (.inr q) rs (by simp only [seqOf, hs])
      | frz ys =>
        obtain ⟨vs, q, rs⟩ := s1.rel.sq (K := C.K) ha (.inr hs)
        exact go a ys vs ex (.inr q) rs (by simp only [seqOf, hs])
      | _ => simp only [seqOf, hs] at p1; exact p1.elim
  | _ => exact p1.elim
theorem with_tA {f : BF} {σ : L2.St} {H : Hp} {Q : VK} (w : tE C W Φ (withA f ms) σ H Q) : tA C W Φ ms σ H fun xs H1 => rFn C f xs H1 Q := by
  obtain ⟨ρ, env, st, hE, R, p⟩ := w
  refine tM_imp (tM_bind hE R p) ?_
  rintro xs H1 ⟨ds, st1, ρ1, s1, hE1, r1, p1⟩
  exact ⟨_, ρ1, st1, ds, r1, s1.rel, p1⟩
theorem s_tup {x1 : Nat} (h : PA X es (tA C W Φ ms)) : PE X (.Tuple es x1 pos) (tE C W Φ (tupM ms)) := by
  refine PE_imp (pe_tupF h) fun σ H Q w => tM_imp (with_tA w) ?_
  rintro xs H1 ⟨E, ρ1, st1, ds, r1, R1, p1⟩
  unfold mkTup at p1
  split at p1
  · next h => exact ⟨by rw [← r1.length]; exact le_line h, fun p o n ho => p1.tup R1 r1 p n o ho⟩
  · exact p1.elim
theorem s_lst (h : PA X es (tA C W Φ ms)) : PE X (.List es pos) (tE C W Φ (lstM ms)) := by
  refine PE_imp (pe_lst h) fun σ H Q w => tM_imp (with_tA w) ?_
  rintro xs H1 ⟨E, ρ1, st1, ds, r1, R1, p1⟩
  unfold mkLst at p1
  split at p1
  · next h => exact ⟨by rw [← r1.length]; exact le_line h, fun p n => p1.lst R1 r1 p n⟩
  · exact p1.elim
theorem s_dnew : PE X (.Dict [] [] pos) (tE C W Φ dnewM) := by
  refine PE_imp pe_dnewK fun σ H Q w => ?_
  obtain ⟨ρ, env, st, hE, R, p⟩ := w
  exact fun a n => Post.dct (kvs := []) (vs := []) R (by unfold RelKV; rfl) p a n
theorem plains_any (pos : Pos) : ∀ es : List Expr, plains es = true → (backTo pos (starEach es X.env)).any (·.1) = false
  | [], _ => rfl
  | e :: r, h => by
    simp only [plains, Bool.and_eq_true] at h
    have q := plains_any pos r h.2
    rw [star_no h.1]
    unfold backTo at q ⊢
    simp_all
theorem s_blt {f : BF} {x : Str} {id : String} {p : Pos} (hc : CallR X (.builtin id) (rFn C f)) (hg : Gl X x) (hm : X.mg x = none) (hv : bootBuiltins x = some (.builtin id)) (ha : PA X (e :: es) (tA C W Φ ms)) (hn : x ≠ "__name__") (hd : (x == ("__debug__" : Str)) = false) (hs : plains (e :: es) = true) :
    PE X (.Call (.Name x p) (e :: es) [] pos) (tE C W Φ (withA f ms)) := by
  simp only [plains, Bool.and_eq_true] at hs
  exact PE_imp (pe_callB hc hg hm hv ha hn hd (star_no hs.1) (plains_any pos es hs.2)) fun _ _ _ w => with_tA w
theorem s_ty {f : BF} {x : Str} {id : String} {p : Pos} (hc : CallR X (.type id) (rFn C f)) (hg : Gl X x) (hm : X.mg x = none) (hv : bootBuiltins x = some (.type id)) (ha : PA X (e :: es) (tA C W Φ ms)) (hn : x ≠ "__name__") (hd : (x == ("__debug__" : Str)) = false) (hs : plains (e :: es) = true) :
    PE X (.Call (.Name x p) (e :: es) [] pos) (tE C W Φ (withA f ms)) := by
  simp only [plains, Bool.and_eq_true] at hs
  exact PE_imp (pe_callTy hc hg hm hv ha hn hd (star_no hs.1) (plains_any pos es hs.2)) fun _ _ _ w => with_tA w
theorem plain_ix (h : notSlice b = true) : PlainIx b := by
  intro o i
  cases b <;> first | rfl | cases h
theorem s_ix (hK : X.K = C.K) (hu : X.A.units + 65 < cLine) (ha : PE X a (tE C W Φ ma)) (hb : PE X b (tE C W Φ mb)) (hs : notSlice b = true) : PE X (.Subscript a b pos) (tE C W Φ (op2M opIx ma mb)) :=
  PE_imp (pe_ix (opIx_ok hK hu) ha hb (plain_ix hs)) fun _ _ _ w => op2_tE w
theorem s_noB : PO X none (tO C W Φ noB) := by
  refine PO_imp po_none fun σ H Q w => ?_
  obtain ⟨ρ, env, st, hE, R, p⟩ := w
  exact Post.ok (b := none) R p rfl
theorem s_someB (ha : PE X a (tE C W Φ ma)) : PO X (some a) (tO C W Φ (someB ma)) := by
  refine PO_imp (po_some ha) fun σ H Q w => ?_
  obtain ⟨ρ, env, st, hE, R, p⟩ := w
  refine tM_imp (tM_bind hE R p) ?_
  rintro x H1 ⟨d1, st1, ρ1, s1, hE1, r1, p1⟩
  cases d1 with
  | int i => exact ⟨i, rel_int_iff.mp r1, Post.ok (b := some i) s1.rel p1 rfl⟩
  | _ => exact p1.elim
theorem s_slice {lo hi : Option Expr} {ml mh : M (Option Int)} {p2 : Pos} (hK : X.K = C.K) (ha : PE X a (tE C W Φ ma)) (hl : PO X lo (tO C W Φ ml)) (hh : PO X hi (tO C W Φ mh)) :
    PE X (.Subscript a (.Slice lo hi none p2) pos) (tE C W Φ (sliceM ma ml mh)) := by
  refine PE_imp (pe_slice (opSlice_ok hK) ha hl hh) fun σ H Q w => ?_
  obtain ⟨ρ, env, st, hE, R, p⟩ := w
  refine tM_imp (tM_bind hE R p) ?_
  rintro x H1 ⟨d1, st1, ρ1, s1, hE1, r1, p1⟩
  refine tM_imp (tM_bind hE1 s1.rel p1) ?_
  rintro l H2 ⟨l', st2, ρ2, s2, hE2, rfl, p2⟩
  refine tM_imp (tM_bind hE2 s2.rel p2) ?_
  rintro u H3 ⟨u', st3, ρ3, s3, hE3, rfl, p3⟩
  exact ⟨_, ρ3, st3, d1, (s2.trans s3).val s1.rel r1, s3.rel, p3⟩
/-! ### a list's methods -/
theorem isLst_ty {ρ : List Addr} {H : Hp} {st : Sto} {d : D} {v : V} (R : Rel C ρ H st) (r : RelD C ρ H d v) (h : isLst d st = true) : tyV C.K "list" v H := by
  cases d with
  | ref i =>
    obtain ⟨a, ha, rfl⟩ := rel_ref_iff.mp r
    simp only [isLst] at h
    split at h
    · next xs hs =>
      obtain ⟨vs, q, _⟩ := R.sq (K := C.K) ha (.inl hs)
      exact .inl ⟨rfl, vs, q⟩
    · cases h
  | _ => cases h
def rMeth (C : Ctx) (f : Op2) : V → List V → Hp → VK → Prop := fun x xs H Q => ∃ y, xs = [y] ∧ rF2 C f x y H Q
theorem append_ok : MtR X "list.append" (rMeth C appendF) := by
  rintro pins s σ H x xs v us Q I rx rxs ⟨y, rfl, E, ρ, st, d, e, rd, re, R, p⟩
  refine mt_append pins s σ H x [y] v us Q I rx rxs ?_
  cases d with
  | ref i =>
    obtain ⟨a, ha, rfl⟩ := rel_ref_iff.mp rd
    simp only [appendF] at p
    split at p
    · next ds hs =>
      split at p
      · next hz =>
        obtain ⟨vs, q, rs⟩ := R.lst ha hs
        refine ⟨a, vs, y, rfl, rfl, q, ?_, ?_⟩
        · rw [← rs.length, ← line_eq]
          exact Nat.blt_eq.mp hz
        · have st' := Step.write (C := C) (ob := .lst (ds ++ [e])) (o := HO.lst (vs ++ [y])) R ha (fun b u z => by rw [q] at z; cases z) fun k => ⟨_, upd_same, ((RelDs.mono (Pre.refl _) k _ _ rs).append (RelDs.one (RelD.mono (Pre.refl _) k _ _ re)))⟩
          exact p V.non _ _ st' rel_non
      · exact p.elim
    · exact p.elim
  | _ => exact p.elim
theorem s_meth {o : Expr} {name : Str} {id : String} {f : Op2} {apos : Pos} (pa : PlainAttrs "list") (slot : Slot "list" name id) (hty : typeOf (.builtin id) = pure (.type "method_descriptor")) (hm : MtR X id (rMeth C f)) (hK : X.K = C.K)
    (ho : PE X o (tE C W Φ ma)) (ha : PE X a (tE C W Φ mb)) (hs : notStar a = true) (hb : attributeBase o name X.env (eval o X.env) = eval o X.env) (hl : (apos.endLine == pos.line) = true) : PE X (.Call (.Attribute o name apos) [a] [] pos) (tE C W Φ (methM f ma mb)) := by
  have hst : starEach [a] X.env = (false, eval a X.env) :: starEach [] X.env := star_no hs
  refine PE_imp (pe_bm pa slot hty hm ho (pa_cons ha pa_nil hst) hb ?_ hl hst rfl) fun σ H Q w => ?_
  · rw [hst]
    rfl
  · obtain ⟨ρ, env, st, hE, R, p⟩ := w
    refine tM_imp (tM_bind hE R p) ?_
    rintro x H1 ⟨d1, st1, ρ1, s1, hE1, r1, p1⟩
    split at p1
    · next h =>
      refine ⟨by rw [hK]; exact isLst_ty s1.rel r1 h, ?_⟩
      refine tM_imp (tM_bind hE1 s1.rel p1) ?_
      rintro y H2 ⟨d2, st2, ρ2, s2, hE2, r2, p2⟩
      exact ⟨y, rfl, _, ρ2, st2, d1, d2, s2.val s1.rel r1, r2, s2.rel, p2⟩
    · exact p1.elim
end
end EV

-- part EvMeth
set_option Elab.async false
set_option linter.all false
set_option maxRecDepth 100000
/-! A list's index; isinstance. -/
namespace EV
open PySem PySem.Spec PyProof.Rows L2
section
variable {C : Ctx} {W : WX} {Φ : Call} {X : Cx} {a b c e : Expr} {es : List Expr} {ma mb mc m : M D} {mt : M Bool} {ms : M (List D)} {pos : Pos}
theorem placeT_py (x : D) (hx : isT x = true) : ∀ (ys : List D) (n k : Nat), isTs ys = true → placeT x n ys = some k →
    ∃ j z, k = n + j ∧ (pys ys)[j]? = some z ∧ PyData.eqv z (py x) = true ∧ ∀ (m : Nat) (z' : PyData), m < j → (pys ys)[m]? = some z' → PyData.eqv z' (py x) = false
  | [], n, k, h, e => by cases e
  | y :: ys, n, k, h, e => by
    simp only [isTs, Bool.and_eq_true] at h
    unfold placeT at e
    rw [eqT_py y x h.1 hx] at e
    by_cases he : PyData.eqv (py y) (py x) = true
    · rw [if_pos he] at e
      cases e
      exact ⟨0, py y, rfl, rfl, he, fun m z' hm => absurd hm (Nat.not_lt_zero _)⟩
    · rw [if_neg he] at e
      obtain ⟨j, z, rfl, h1, h2, h3⟩ := placeT_py x hx ys (n + 1) k h.2 e
      refine ⟨j + 1, z, by omega, h1, h2, fun m z' hm hz => ?_⟩
      cases m with
      | zero =>
        cases hz
        simpa using he
      | succ m => exact h3 m z' (by omega) hz
theorem index_ok (hK : X.K = C.K) (hu : X.A.units + 65 < cLine) : MtR X "list.index" (rMeth C indexF) := by
  rintro pins s σ H x xs v us Q I rx rxs ⟨y, rfl, E, ρ, st, d, e, rd, re, R, p⟩
  cases d with
  | ref i =>
    obtain ⟨a, ha, rfl⟩ := rel_ref_iff.mp rd
    simp only [indexF] at p
    split at p
    · next ds hs =>
      split at p
      · next n hn =>
        obtain ⟨vs, q, rs⟩ := R.sq (K := C.K) ha (.inl hs)
        unfold placeD at hn
        split at hn
        · next t ts e1 e2 =>
          obtain ⟨a1, a2, a3, a4⟩ := tree_dp R 60 e t y e1 re
          obtain ⟨b1, b2, b3, b4⟩ := trees_dp (st := st) (tree_dp R 59) ds ts vs e2 rs
          obtain ⟨j, z, hj, h1, h2, h3⟩ := placeT_py t a4 ts 0 n b4 hn
          have hn0 : n = j := by omega
          subst hn0
          refine mt_indexD hu pins s σ H _ _ v us Q I rx rxs ⟨a, y, py t, pys ts, n, z, rfl, rfl, by rw [hK]; exact .lst q b1, by rw [hK]; exact a1, ?_, shaped_of a2 a3 (by decide), h1, h2, h3, Post.ok (b := V.int n) R p rel_int⟩
          unfold SeqAt.shaped
          rw [Bool.and_eq_true]
          refine ⟨by simp only [PyData.canLay0]; exact b2, decide_eq_true ?_⟩
          simp only [PyData.depth]
          omega
        · cases hn
      · exact p.elim
    · exact p.elim
  | _ => exact p.elim

/-! ### isinstance -/
def nmOf : Option Ty → String
  | none => "NoneType"
  | some t => tyNm t
theorem kit_sub (t : Option Ty) (u : Ty) : kitB (nmOf t) (tyNm u) = some (subTy t u) := by
  cases t with
  | none => cases u <;> decide +kernel
  | some t => cases t <;> cases u <;> decide +kernel
theorem tyOf_ok {K : PySem.W.Frag} (hK : K = C.K) {ρ : List Addr} {H : Hp} {st : Sto} (R : Rel C ρ H st) {d : D} {v : V} {t : Option Ty} (r : RelD C ρ H d v) (e : tyOf d st = some t) : TyX K H v (.type (nmOf t)) := by
  subst hK
  cases d with
  | non => cases e; rw [rel_non_iff.mp r]; exact .base .non
  | bl b => cases e; rw [rel_bl_iff.mp r]; exact .base (.bl b)
  | int i => cases e; rw [rel_int_iff.mp r]; exact .base (.int i)
  | str x => cases e; rw [(rel_str_iff.mp r).1]; exact .base (.str _)
  | tup xs =>
    cases e
    obtain ⟨a, vs, rfl, t, rs⟩ := rel_tup_iff.mp r
    rcases t with ⟨o, h, _⟩ | ⟨o, its, n, h1, h2, _⟩
    · exact .fTuple h
    · exact .kTuple h1 h2
  | ref i =>
    obtain ⟨a, ha, rfl⟩ := rel_ref_iff.mp r
    simp only [tyOf] at e
    split at e
    · next xs hs =>
      cases e
      obtain ⟨vs, q, _⟩ := R.lst ha hs
      exact .base (.lst q)
    · next xs hs =>
      cases e
      obtain ⟨vs, o, q, _⟩ := R.frz ha hs
      exact .base (.frz q)
    · next kvs hs =>
      cases e
      obtain ⟨vs, q, _⟩ := R.dct ha hs
      exact .base (.dK q)
    · next kvs hs =>
      cases e
      obtain ⟨vs, o, q, _⟩ := R.obj i a _ ha hs
      exact .fDict q
    · cases e
  | lst xs =>
    cases e
    obtain ⟨a, vs, rfl, t, rs⟩ := rel_lst_iff.mp r
    rcases t with ⟨o, h⟩ | ⟨o, its, n, h1, h2, _⟩
    · exact .base (.frz h)
    · exact .kList h1 h2
  | exn c xs => cases e
theorem kit_any {K : PySem.W.Frag} (t : Option Ty) : ∀ us : List Ty, PySem.W.kitAny K (.type (nmOf t)) (us.map fun u => Value.type (tyNm u)) = some (subAny t us)
  | [] => kitAny_nil
  | u :: us => by
    have ih := kit_any (K := K) t us
    refine kitAny_cons (b := subTy t u) (kit_ty (kit_sub t u)) (fun h => ?_) fun h => ?_
    · rw [ih]
      simp [subAny, h]
    · simp [subAny, h]
/-- a built-in type, as a value -/
theorem boot_ty : ∀ (u : Ty), bootBuiltins ⟨(tyNm u).toList.map (·.toNat) |>.toArray⟩ = some (.type (tyNm u)) := by
  intro u
  cases u <;> decide +kernel
theorem boot_isi : bootBuiltins "isinstance" = some (.builtin "isinstance") := by decide +kernel
structure NmTy (X : Cx) (x : Str) (u : Ty) : Prop where
  gl : Gl X x
  no : X.mg x = none
  bt : bootBuiltins x = some (.type (tyNm u))
  n1 : x ≠ "__name__"
  n2 : (x == ("__debug__" : Str)) = false
theorem NmTy.pe {x : Str} {u : Ty} {p : Pos} (h : NmTy X x u) : PE X (.Name x p) (tC (.ty (tyNm u))) := pe_bltn h.gl h.no h.bt rfl h.n1 h.n2
theorem s_isi {x : Str} {u : Ty} {p p1 : Pos} (hK : X.K = C.K) (hg : Gl X "isinstance") (hm : X.mg "isinstance" = none) (ha : PE X a (tE C W Φ ma)) (hs : notStar a = true) (ht : NmTy X x u) :
    PE X (.Call (.Name "isinstance" p) [a, .Name x p1] [] pos) (tE C W Φ (op1M (bIsinst [u]) ma)) := by
  refine PE_imp (pe_callB call_isi hg hm boot_isi (pa_cons ha (pa_cons ht.pe pa_nil) (star_no hs)) (by decide) (by decide) (star_no hs) rfl) fun σ H Q w => ?_
  obtain ⟨ρ, env, st, hE, R, p⟩ := w
  refine tM_imp (tM_bind hE R p) ?_
  rintro y H1 ⟨d1, st1, ρ1, s1, hE1, r1, p1⟩
  unfold bIsinst at p1
  split at p1
  · next t ht =>
    refine ⟨y, .ty (tyNm u), .type (nmOf t), .type (tyNm u), subTy t u, rfl, .ty _, tyOf_ok hK s1.rel r1 ht, kit_ty (kit_sub t u), ?_⟩
    have q := Post.ok (b := V.bl (subAny t [u])) s1.rel p1 rel_bl
    rwa [show subAny t [u] = subTy t u by simp [subAny]] at q
  · exact p1.elim
/-- names of types, one by one -/
inductive NmTys (X : Cx) : List Expr → List Ty → Prop
  | nil : NmTys X [] []
  | cons {x : Str} {u : Ty} {p : Pos} {es : List Expr} {us : List Ty} (h : NmTy X x u) (t : NmTys X es us) : NmTys X (.Name x p :: es) (u :: us)
def tTys (us : List Ty) : TA := fun _ H Q => Q (us.map fun u => V.ty (tyNm u)) H
theorem NmTys.pa {us : List Ty} (h : NmTys X es us) : PA X es (tTys us) := by
  induction h with
  | nil => exact PA_imp pa_nil fun σ H Q w => w
  | cons h t ih => exact PA_imp (pa_cons h.pe ih (star_no rfl)) fun σ H Q w => w
theorem paired_tys : ∀ us : List Ty, Paired ClsV (us.map fun u => V.ty (tyNm u)) (us.map fun u => Value.type (tyNm u))
  | [] => .nil
  | u :: us => .cons (.ty _) (paired_tys us)
theorem s_isiT {us : List Ty} {k : Nat} {p p1 : Pos} (hK : X.K = C.K) (hg : Gl X "isinstance") (hm : X.mg "isinstance" = none) (ha : PE X a (tE C W Φ ma)) (hs : notStar a = true) (ht : NmTys X es us) (hl : us.length ≤ 100) :
    PE X (.Call (.Name "isinstance" p) [a, .Tuple es k p1] [] pos) (tE C W Φ (op1M (bIsinst us) ma)) := by
  refine PE_imp (pe_callB call_isiT hg hm boot_isi (pa_cons ha (pa_cons (pe_tup ht.pa) pa_nil (star_no rfl)) (star_no hs)) (by decide) (by decide) (star_no hs) rfl) fun σ H Q w => ?_
  obtain ⟨ρ, env, st, hE, R, p⟩ := w
  refine tM_imp (tM_bind hE R p) ?_
  rintro y H1 ⟨d1, st1, ρ1, s1, hE1, r1, p1⟩
  refine ⟨?_, fun tp hn => ?_⟩
  · rw [List.length_map, sizeLine_eq]
    omega
  · unfold bIsinst at p1
    split at p1
    · next t ht =>
      have sg := Step.grow (H' := upd H1 tp (.tup (us.map fun u => V.ty (tyNm u)))) s1.rel (grow_upd hn)
      exact ⟨y, tp, _, .type (nmOf t), _, subAny t us, rfl, upd_same, paired_tys us, tyOf_ok hK sg.rel (sg.val s1.rel r1) ht, kit_any t us, p1 (V.bl (subAny t us)) _ _ sg rel_bl⟩
    · exact p1.elim
end
end EV

-- part EvEnum
set_option Elab.async false
set_option linter.all false
set_option maxRecDepth 100000
/-! enumerate over a tuple. -/
namespace EV
open PySem PySem.Spec PyProof.Rows L2
open Sem (wp)

set_option maxHeartbeats 1000000 in
/-- enumerate(v) begins -/
theorem enum_new1 {v : Value} {o : Obj} {G : Heap → Prop} (B : Begins v o G) :
    Meets (Builtin.«enumerate.__new__» ⟨[.type "enumerate", v], []⟩) (fun _ R s => G s.heap ∧
      R (.ok (.ret (.ref (s.heap.push o).objs.size))) { s with heap := (s.heap.push o).push { cls := .type "enumerate", data := .fields #[.none, .bool false, .ref s.heap.objs.size, rawInt 0, .none, .none] } }) :=
  .of_wp fun prog w A R s h => by
    obtain ⟨hp, gs, dr, tk, os⟩ := s
    obtain ⟨gv, h⟩ := h
    have sube := sub_enumerate
    have start : ∀ {A' : Around} {E : Value → Shared → Prop} {Q : Value → Shared → Prop}, Q (.ref hp.objs.size) ⟨hp.push o, gs, dr, tk, os⟩ → wpAny (model prog w) A' (pyIter v) Q E ⟨hp, gs, dr, tk, os⟩ :=
      fun q => B.iter prog w _ _ ⟨hp, gs, dr, tk, os⟩ _ gv q
    wp_walk using start
    refine wpAny_stack_any fun st => wpAny_pure ?_
    split
    · rename_i c _ _ _ _ _
      cases (c == Value.type "enumerate") <;> (wp_walk using start; exact ⟨_, rfl, h⟩)
    · wp_walk using start
      exact ⟨_, rfl, h⟩
theorem enum_call1 {prog : Program} {w : World} {A : Around} {E : Value → Shared → Prop} {s : Shared} {v : Value} {o : Obj} {G : Heap → Prop} {Q : Value → Shared → Prop} (B : Begins v o G) (gv : G s.heap)
    (h : ∀ h', IsEnum h' (s.heap.objs.size + 1) s.heap.objs.size 0 .none → h'.get? s.heap.objs.size = some o → (∀ b u, s.heap.get? b = some u → h'.get? b = some u) → Q (.ref (s.heap.objs.size + 1)) { s with heap := h' }) :
    wpAny (model prog w) A (call (.type "enumerate") [v]) Q E s := by
  refine callType_new F.called_enumerate (by decide) (F.typeCall_enumerate_1 _) (F.newCall_enumerate_1 _) (fun obj => F.args_object_init_2 obj _) F.entry_enumerate_new (enum_new1 B) ⟨gv, ?_⟩
  have two : (s.heap.push o).objs.size = s.heap.objs.size + 1 := Heap.size_push ..
  have en := Heap.get?_push_size (s.heap.push o) (o := { cls := .type "enumerate", data := .fields #[.none, .bool false, .ref s.heap.objs.size, rawInt 0, .none, .none] }) rfl
  show _ ∧ _
  rw [two] at en ⊢
  exact ⟨⟨_, en, rfl⟩, h _ en (Heap.get?_push_of_some _ (Heap.get?_push_size _ B.free)) fun b u e => Heap.get?_push_of_some _ (Heap.get?_push_of_some _ e)⟩
theorem tup_end {prog : Program} {w : World} {A : Around} {E : Value → Shared → Prop} {s : Shared} {e it t : Addr} {i : Nat} {items : Array Value} {c : Int} {old : Value} {Q : Option Value → Shared → Prop} (hh : A.handled = none) (he : IsEnum s.heap e it c old) (hit : s.heap.IsTupleIter it t i) (ht : s.heap.IsTuple t items) (hx : items.size ≤ i)
    (hQ : ∀ h', Heap.ExtBut it s.heap h' → Q none { s with heap := h' }) : wpAny (model prog w) A (pyNext (.ref e)) Q E s := by
  have ty : s.TypeIs (.ref e) "enumerate" := ⟨_, he, rfl⟩
  unfold pyNext
  refine wpAny_bind (wpAny_attempt (wpAny_callSpecial?_slot (name := Str.ofString "__next__") ty F.slot_enumerate_next (wpAny_call_entry F.slot_enumerate_next ty F.entry_enumerate_next ?_ (F.args_enumerate_next_1 _))))
  show wpAny _ _ (field (.ref e) 2 >>= _) _ _ _
  refine wpAny_bind (wpAny_field he rfl (x := .ref it) rfl ?_)
  refine wpAny_bind (wpAny_nextOf_tuple_end hh hit ht (Array.getElem?_eq_none hx) fun h' x eb hx' => ?_)
  obtain ⟨o, ho, hc⟩ := hx'
  exact wpAny_bind (wpAny_isInstance (T := "StopIteration") (b := true) ⟨o, ho, hc⟩ isSubtype_stop (wpAny_pure (hQ _ eb)))
/-- the tuple at a, each item with its place in a new pair -/
def IteT (K : PySem.W.Frag) (a : Addr) : L2.It where
  go i H := ∃ (xs : List V) (x : V), SqT K H a xs ∧ xs[i]? = some x
  yld i H v H' := ∃ p x, H p = none ∧ v = .ref p ∧ H' = upd H p (.tup [.int (i : Nat), x]) ∧ ∀ xs, SqT K H a xs → xs[i]? = some x
  stop i H := ∃ xs : List V, SqT K H a xs ∧ xs.length ≤ i
theorem turn_enumT {P : Program} {w : World} {K : PySem.W.Frag} {elts : List Expr} {kk : Nat} {tpos : Pos} (a e it : Addr) (hne : e ≠ it) (hae : a ≠ e) (hai : a ≠ it) :
    Turn P w K (.Tuple elts kk tpos) (IteT K a) [e, it] e (fun i h => (∃ old, IsEnum h e it ((i : Nat) : Int) old) ∧ h.IsTupleIter it a i) where
  mem := List.mem_cons_self ..
  obj := fun i h st b hb => by
    obtain ⟨⟨old, he⟩, o, ho, hc, hd⟩ := st
    rcases List.mem_cons.mp hb with rfl | hb
    · exact ⟨_, he, fun v q => nomatch q⟩
    · rw [List.mem_singleton.mp hb]
      exact ⟨o, ho, fun v q => by rw [hd] at q; cases q⟩
  keep := fun i h h' st k => by
    obtain ⟨⟨old, he⟩, hi⟩ := st
    exact ⟨⟨old, k e (List.mem_cons_self ..) _ he⟩, hi.at fun o q => k it (by simp) o q⟩
  item := by
    rintro X rfl rfl rfl hc i pins s σ H E I hf ⟨⟨old, he⟩, hit⟩ ⟨xs, x, hq, hx⟩
    obtain ⟨its, rv, p, hz⟩ := I.tuple hq
    obtain ⟨u, hu, ru⟩ := rv.get hx
    have lt1 : e < s.heap.objs.size := Heap.lt_size he
    have lt2 : it < s.heap.objs.size := by
      obtain ⟨_, q, _⟩ := hit
      exact Heap.lt_size q
    have hlt : i < its.toArray.size := by
      have := (List.getElem?_eq_some_iff.mp hu).1
      simpa using this
    have tupa : s.heap.IsTuple a its.toArray := p
    refine wpAny_pyNext_enum_itemC (D := Draws.tuple (A := X.A.in1) (I.ok.hd hc) it a hai its.toArray) he ⟨hit, tupa⟩ hlt hne (by simp [hne, hae.symm]) fun y h' tk hy ho st' hT hsz hk => ?_
    have ey : y = u := by
      have q : its.toArray[i]? = some u := by simpa using hu
      exact Option.some.inj (hy.symm.trans q)
    subst ey
    refine ⟨_, rfl, wpAny_letOwnedTupleGo_enum (s := { s with heap := h', toks := tk + 1 }) ho fun h2 he2 sb => ?_⟩
    have hT2 : h2.get? s.heap.objs.size = some { cls := .type "tuple", data := .seq #[.int (i : Int) tk, y] } := (sb.2 _ (Nat.ne_of_gt lt1)).trans hT
    have new : ObjOk X.prog X.w (upd H s.heap.objs.size (.tup [.int (i : Nat), x])) h2 s.heap.objs.size (.tup [.int (i : Nat), x]) :=
      ⟨by show 2 ≤ sizeLine; decide, [.int i tk, y], .cons ⟨_, rfl⟩ (.cons ru .nil), _, hT2, rfl, _, rfl⟩
    have I1 := I.turnedNew (t' := tk + 1) (h' := h2) (ch := [e, it]) (fun b ob hb q => (sb.2 b fun z => hb (by simp [z])).trans (hk b ob (fun z => hb (by simp [z])) (fun z => hb (by simp [z])) q)) hf (Nat.le_refl _) new
    refine ⟨.ref s.heap.objs.size, _, I1, rfl, ⟨_, x, I.hok.fresh (Nat.le_refl _), rfl, rfl, fun ys hy => by rw [I.tuple_inj hy hq]; exact hx⟩, ⟨⟨y, ?_⟩, st'.1.at fun o q => (sb.2 it (Ne.symm hne)).trans q⟩, fun b hb => ?_⟩
    · rw [show ((i + 1 : Nat) : Int) = (i : Int) + 1 by omega]
      exact he2
    · have lt : b < s.heap.objs.size := by
        rcases List.mem_cons.mp hb with rfl | hb
        · exact lt1
        · rw [List.mem_singleton.mp hb]
          exact lt2
      rw [upd_ne (Nat.ne_of_lt lt)]
      exact (hf b hb).1
  done := by
    rintro X rfl rfl rfl hc i pins s σ H E I hf ⟨⟨old, he⟩, hit⟩ ⟨xs, hq, hx⟩
    obtain ⟨its, rv, p, hz⟩ := I.tuple hq
    obtain ⟨f0, f1, f2, f3, f4, f5⟩ := hf it (by simp)
    have hl := rv.length
    have tupa : s.heap.IsTuple a its.toArray := p
    refine tup_end (I.ok.hd hc) he hit tupa (by simp only [List.size_toArray]; omega) fun h' eb => ⟨rfl, I.turned (t' := s.toks) (fun b o hb q => eb b o hb q) f0 f1 f3 f4 f5⟩
  self := fun A i s Q E st h => wpAny_pyIter_enum st.1.choose_spec h
/-- enumerate(t) -/
def iEnumT (K : PySem.W.Frag) (ta : TA) : TI := fun σ H R => ta σ H fun vs H1 => ∃ a xs, vs = [.ref a] ∧ SqT K H1 a xs ∧ R (IteT K a) H1
theorem pi_enumT {X : Cx} {e : Expr} {ta : TA} {p pos tpos : Pos} {elts : List Expr} {kk : Nat} (hg : Gl X "enumerate") (hm : X.mg "enumerate" = none) (ha : PA X [e] ta) (hs : notStar e = true) :
    PI X (.Tuple elts kk tpos) (.Call (.Name "enumerate" p) [e] [] pos) (iEnumT X.K ta) := by
  have hst : starEach [e] X.env = [(false, eval e X.env)] := star_no hs
  refine ⟨fun pins s σ H R I h => ?_⟩
  refine Call_ (ld_blt I hg hm boot_enumerate (PyProof.Rows.callWith_type1 (thn (ha.run pos pins s σ H _ I h) fun us s1 ⟨vs, H1, I1, r1, q1⟩ => ?_) hst rfl))
  · obtain ⟨a, xs, rfl, hq, q⟩ := q1
    obtain ⟨u, rfl, ru⟩ := vals1 r1
    cases ru
    obtain ⟨its, rv, p', hz⟩ := I1.tuple hq
    have tupa : s1.heap.IsTuple a its.toArray := p'
    have lta : a < s1.heap.objs.size := by
      obtain ⟨o, ho, _⟩ := tupa
      exact Heap.lt_size ho
    refine enum_call1 (begins_tuple a its.toArray) tupa fun h' he hit hk => wpAny_pyIter_enum he ?_
    have I2 : Inv X pins σ H1 { s1 with heap := h' } := I1.kept (t' := s1.toks) hk
    refine ⟨s1.heap.objs.size + 1, [s1.heap.objs.size + 1, s1.heap.objs.size], _, _, H1, rfl, I2, turn_enumT a (s1.heap.objs.size + 1) s1.heap.objs.size (Nat.succ_ne_self _) (Nat.ne_of_lt (Nat.lt_succ_of_lt lta)) (Nat.ne_of_lt lta), ⟨⟨.none, he⟩, ⟨_, hit, rfl, rfl⟩⟩, fun b hb => ?_, q⟩
    have le : s1.heap.objs.size ≤ b := by
      rcases List.mem_cons.mp hb with rfl | hb
      · exact Nat.le_succ _
      · rw [List.mem_singleton.mp hb]
        exact Nat.le_refl _
    exact I1.fpOk le (I1.hok.fresh le)
end EV

-- part EvIter
set_option Elab.async false
set_option linter.all false
set_option maxRecDepth 100000
/-! Targets; what loops and comprehensions walk. -/
namespace EV
open PySem PySem.Spec PyProof.Rows L2

/-- a value that comes to a target: where the target is a tuple, one more kind of tuple will do -/
def RelG (C : Ctx) (tp : Bool) (ρ : List Addr) (H : Hp) (d : D) (v : V) : Prop := RelD C ρ H d v ∨ (tp = true ∧ ∃ ds a vs, d = .tup ds ∧ v = .ref a ∧ SqT C.K H a vs ∧ RelDs C ρ H ds vs)
/-- the same slots but for these -/
def Same (is : List Nat) (σ σ' : L2.St) : Prop := σ'.length = σ.length ∧ ∀ i : Nat, i ∉ is → σ'[i]? = σ[i]?
theorem Same.trans {is js : List Nat} {a b c : L2.St} (h : Same is a b) (k : Same js b c) : Same (is ++ js) a c :=
  ⟨k.1.trans h.1, fun i n => (k.2 i fun m => n (List.mem_append_right _ m)).trans (h.2 i fun m => n (List.mem_append_left _ m))⟩
theorem wipe_get {σ : L2.St} : ∀ {vs : List Nat} {i : Nat}, i ∈ vs → (L2.wipe σ vs)[i]? = (σ[i]?).map fun _ => none
  | v :: vs, i, h => by
    unfold L2.wipe
    by_cases e : v = i
    · subst e
      by_cases l : v < σ.length
      · rw [List.getElem?_set_self (by rw [wipe_length]; exact l), List.getElem?_eq_getElem l]
        rfl
      · rw [List.getElem?_eq_none (by rw [List.length_set, wipe_length]; omega), List.getElem?_eq_none (by omega)]
        rfl
    · rw [List.getElem?_set_ne e]
      rcases List.mem_cons.mp h with q | q
      · exact absurd q.symm e
      · exact wipe_get q
theorem wipe_same {is vs : List Nat} {σ σ' : L2.St} (h : Same is σ σ') (k : ∀ i ∈ is, i ∈ vs) : L2.wipe σ' vs = L2.wipe σ vs := by
  refine List.ext_getElem? fun i => ?_
  by_cases m : i ∈ vs
  · rw [wipe_get m, wipe_get m]
    by_cases l : i < σ.length
    · rw [List.getElem?_eq_getElem l, List.getElem?_eq_getElem (by rw [h.1]; exact l)]
      rfl
    · rw [List.getElem?_eq_none (by rw [h.1]; omega), List.getElem?_eq_none (by omega)]
  · rw [wipe_out m, wipe_out m]
    exact h.2 i fun q => m (k i q)
def tG (C : Ctx) (is : List Nat) (tp : Bool) (g : Tg) : TG := fun v σ H Q => ∃ (ρ : List Addr) (env : Env) (st : Sto) (d : D) (env' : Env), EnvR C ρ H env σ ∧ Rel C ρ H st ∧ RelG C tp ρ H d v ∧ g d env st = some env' ∧ ∀ σ', Same is σ σ' → EnvR C ρ H env' σ' → Q σ' H
def tGs (C : Ctx) (is : List Nat) (gs : List D → Env → Sto → Option Env) : TGs := fun vs σ H Q => ∃ (ρ : List Addr) (env : Env) (st : Sto) (ds : List D) (env' : Env), EnvR C ρ H env σ ∧ Rel C ρ H st ∧ RelDs C ρ H ds vs ∧ gs ds env st = some env' ∧ ∀ σ', Same is σ σ' → EnvR C ρ H env' σ' → Q σ' H
section
variable {C : Ctx} {W : WX} {Φ : Call} {X : Cx} {a b c e tg : Expr} {es : List Expr} {ma mb mc m : M D} {mt : M Bool} {ms : M (List D)} {pos : Pos} {is js : List Nat} {g : Tg} {gs : List D → Env → Sto → Option Env}
theorem PG_imp {t t' : TG} (h : PG X e t) (k : ∀ v σ H Q, t' v σ H Q → t v σ H Q) : PG X e t' := ⟨fun pins s σ H v u Q I r w => h.run pins s σ H v u Q I r (k v σ H Q w)⟩
theorem PGs_imp {t t' : TGs} (h : PGs X es t) (k : ∀ v σ H Q, t' v σ H Q → t v σ H Q) : PGs X es t' := ⟨fun pins s σ H v u Q I r w => h.run pins s σ H v u Q I r (k v σ H Q w)⟩
theorem PI_imp {t t' : TI} (h : PI X tg e t) (k : ∀ σ H Q, t' σ H Q → t σ H Q) : PI X tg e t' := ⟨fun pins s σ H Q I w => h.run pins s σ H Q I (k σ H Q w)⟩
theorem PI_or {t t' : TI} (h : PI X tg e t) (h' : PI X tg e t') : PI X tg e (fun σ H Q => t σ H Q ∨ t' σ H Q) :=
  ⟨fun pins s σ H Q I w => w.elim (h.run pins s σ H Q I) (h'.run pins s σ H Q I)⟩
theorem g_name {i : Nat} {x : Str} {tp : Bool} (hN : X.N.Nodup) (hi : X.N[i]? = some x) (hx : Loc X.env.scope x) (hf : X.fn x = true ∨ X.env.scope.names.lookup x = some .local) (ht : tp = false) : PG X (.Name x pos) (tG C [i] tp (setG i)) := by
  refine PG_imp (pg_name hN hi hx hf) fun v σ H Q w => ?_
  obtain ⟨ρ, env, st, d, env', hE, R, r, e, k⟩ := w
  cases e
  rcases r with r | ⟨q, _⟩
  · refine k _ ⟨List.length_set, fun j n => List.getElem?_set_ne fun z => n (by simp [z])⟩ (hE.set r)
  · rw [ht] at q
    cases q
theorem g_nil : PGs X [] (tGs C [] nilG) := by
  refine PGs_imp pgs_nil fun vs σ H Q w => ?_
  obtain ⟨ρ, env, st, ds, env', hE, R, r, e, k⟩ := w
  cases ds with
  | nil =>
    cases e
    exact ⟨rels_nil_iff.mp r, k σ ⟨rfl, fun _ _ => rfl⟩ hE⟩
  | cons d ds => cases e
theorem g_cons {tp : Bool} (h1 : PG X e (tG C is tp g)) (h2 : PGs X es (tGs C js gs)) (hs : notStar e = true) : PGs X (e :: es) (tGs C (is ++ js) (consG g gs)) := by
  refine PGs_imp (pgs_cons h1 h2 ?_) fun vs σ H Q w => ?_
  · cases e <;> first | rfl | cases hs
  · obtain ⟨ρ, env, st, ds, env', hE, R, r, e1, k⟩ := w
    cases ds with
    | nil => cases e1
    | cons d ds =>
      obtain ⟨v, vr, rfl, r1, r2⟩ := rels_cons_iff.mp r
      simp only [consG] at e1
      split at e1
      · next env1 h1 => exact ⟨v, vr, rfl, ρ, env, st, d, env1, hE, R, .inl r1, h1, fun σ' s' hE' => ⟨ρ, env1, st, ds, env', hE', R, r2, e1, fun σ2 s2 hE2 => k σ2 (s'.trans s2) hE2⟩⟩
      · cases e1
theorem each_length : ∀ es : List Expr, (assignEach es X.env).length = es.length
  | [] => rfl
  | e :: es => by
    have ih := each_length es
    cases e <;> exact congrArg (· + 1) ih
theorem each_star : ∀ es : List Expr, plains es = true → (assignEach es X.env).findIdx? (·.1) = none
  | [], _ => rfl
  | e :: es, h => by
    simp only [plains, Bool.and_eq_true] at h
    have ih := each_star es h.2
    have hd : ∃ f, assignEach (e :: es) X.env = (false, f) :: assignEach es X.env := by
      cases e <;> first | exact ⟨_, rfl⟩ | cases h.1
    obtain ⟨f, q⟩ := hd
    rw [q, List.findIdx?_cons]
    simp [ih]
theorem g_tup {k : Nat} {tp : Bool} (hK : X.K = C.K) (hc : X.calm = true) (h : PGs X es (tGs C is gs)) (hp : plains es = true) : PG X (.Tuple es k pos) (tG C is tp (tupG es.length gs)) := by
  refine PG_imp (pg_tup hc h (each_length es) (each_star es hp)) fun v σ H Q w => ?_
  obtain ⟨ρ, env, st, d, env', hE, R, r, e1, kk⟩ := w
  have go : ∀ ds a vs, d = .tup ds → v = .ref a → SqT C.K H a vs → RelDs C ρ H ds vs → gTup X.K es.length (tGs C is gs) v σ H Q := by
    rintro ds a vs rfl rfl sq rs
    simp only [tupG] at e1
    split at e1
    · next hl => exact ⟨a, vs, rfl, by rw [hK]; exact sq, by rw [← rs.length]; exact hl, ρ, env, st, ds, env', hE, R, rs, e1, kk⟩
    · cases e1
  rcases r with r | ⟨_, ds, a, vs, h1, h2, h3, h4⟩
  · cases d with
    | tup ds =>
      obtain ⟨a, vs, rfl, t, rs⟩ := rel_tup_iff.mp r
      exact go ds a vs rfl rfl t.sq rs
    | _ => cases e1
  · exact go ds a vs h1 h2 h3 h4
theorem g_is (h : ∀ i ∈ is, i ∈ js) {tp : Bool} (k : PG X e (tG C is tp g)) : PG X e (tG C js tp g) := by
  refine PG_imp k fun v σ H Q w => ?_
  obtain ⟨ρ, env, st, d, env', hE, R, r, e1, kk⟩ := w
  exact ⟨ρ, env, st, d, env', hE, R, r, e1, fun σ' s' => kk σ' ⟨s'.1, fun i n => s'.2 i fun m => n (h i m)⟩⟩

/-! ### walks -/
/-- what the text walks is what the evaluator walks -/
def relI (C : Ctx) (tp : Bool) : List Addr → Hp → Sto → EV.It → L2.It → Prop := fun ρ H _ it J => ∀ (ρ' : List Addr) (H' : Hp) (st' : Sto) (n : Nat), Pre ρ ρ' → Keep H H' → Rel C ρ' H' st' →
  (it.at_ st' n = some none → J.stop n H') ∧ ∀ d, it.at_ st' n = some (some d) → J.go n H' ∧ ∀ x H2, J.yld n H' x H2 → Step C ρ' H' ρ' H2 st' ∧ RelG C tp ρ' H2 d x
abbrev tI (C : Ctx) (W : WX) (Φ : Call) (tp : Bool) (m : M EV.It) : TI := tM C W Φ (relI C tp) m
theorem get_none {xs : List D} {vs : List V} {ρ : List Addr} {H : Hp} {n : Nat} (r : RelDs C ρ H xs vs) (h : xs[n]? = none) : vs.length ≤ n := by
  rw [← r.length]
  exact List.getElem?_eq_none_iff.mp h
theorem walks_lst {tp : Bool} {ρ : List Addr} {H : Hp} {st : Sto} {i : Nat} {a : Addr} (ha : ρ[i]? = some a) : relI C tp ρ H st (.list i) (Itl C.K a) := by
  intro ρ' H' st' n hp hk R
  have ha' := hp i a ha
  have at_ : ∀ xs : List D, (st'[i]? = some (.lst xs) ∨ st'[i]? = some (.frz xs)) → (some xs[n]? = some none → (Itl C.K a).stop n H') ∧ ∀ d, some xs[n]? = some (some d) → (Itl C.K a).go n H' ∧ ∀ x H2, (Itl C.K a).yld n H' x H2 → Step C ρ' H' ρ' H2 st' ∧ RelG C tp ρ' H2 d x := by
    intro xs hs
    obtain ⟨vs, q, rs⟩ := R.sq (K := C.K) ha' hs
    refine ⟨fun h => ⟨vs, q, get_none rs (Option.some.inj h)⟩, fun d h => ?_⟩
    obtain ⟨v, hv, rv⟩ := rs.get (Option.some.inj h)
    refine ⟨⟨vs, v, q, hv⟩, ?_⟩
    rintro x H2 ⟨rfl, hx⟩
    rw [Option.some.inj ((hx vs q).symm.trans hv)]
    exact ⟨Step.refl R, .inl rv⟩
  simp only [EV.It.at_]
  split
  · next xs hs => exact at_ xs (.inl hs)
  · next xs hs => exact at_ xs (.inr hs)
  · exact ⟨fun h => (nomatch h), fun d h => (nomatch h)⟩
theorem walks_tup {tp : Bool} {ρ : List Addr} {H : Hp} {st : Sto} {xs : List D} {a : Addr} {vs : List V} (ht : Tp C.K H a vs) (rs : RelDs C ρ H xs vs) : relI C tp ρ H st (.items xs) (Itt C.K a) := by
  intro ρ' H' st' n hp hk R
  have rs' := RelDs.mono hp hk _ _ rs
  have q := (hk.tp ht).sq
  refine ⟨fun h => ⟨vs, q, get_none rs' (Option.some.inj h)⟩, fun d h => ?_⟩
  obtain ⟨v, hv, rv⟩ := rs'.get (Option.some.inj h)
  refine ⟨⟨vs, v, q, hv⟩, ?_⟩
  rintro x H2 ⟨rfl, hx⟩
  rw [Option.some.inj ((hx vs q).symm.trans hv)]
  exact ⟨Step.refl R, .inl rv⟩
theorem walks_fl {tp : Bool} {ρ : List Addr} {H : Hp} {st : Sto} {xs : List D} {a : Addr} {vs : List V} (ht : FL C.K H a vs) (rs : RelDs C ρ H xs vs) : relI C tp ρ H st (.items xs) (Itl C.K a) := by
  intro ρ' H' st' n hp hk R
  have rs' := RelDs.mono hp hk _ _ rs
  have q := (hk.t.fl ht).sq
  refine ⟨fun h => ⟨vs, q, get_none rs' (Option.some.inj h)⟩, fun d h => ?_⟩
  obtain ⟨v, hv, rv⟩ := rs'.get (Option.some.inj h)
  refine ⟨⟨vs, v, q, hv⟩, ?_⟩
  rintro x H2 ⟨rfl, hx⟩
  rw [Option.some.inj ((hx vs q).symm.trans hv)]
  exact ⟨Step.refl R, .inl rv⟩
theorem walks_str {tp : Bool} {ρ : List Addr} {H : Hp} {st : Sto} {x : List Nat} (hz : x.all (Nat.blt · 0x110000) = true) : relI C tp ρ H st (.items (x.map fun c => .str [c])) (Its (ws x)) := by
  intro ρ' H' st' n hp hk R
  simp only [EV.It.at_, List.getElem?_map]
  refine ⟨fun h => ?_, fun d h => ?_⟩
  · show (ws x).cps.size ≤ n
    cases e : x[n]? with
    | none => simpa using e
    | some c => rw [e] at h; cases h
  · cases e : x[n]? with
    | none => rw [e] at h; cases h
    | some c =>
      rw [e] at h
      cases h
      have l := (List.getElem?_eq_some_iff.mp e).1
      refine ⟨by show n < (ws x).cps.size; simpa using l, ?_⟩
      rintro v H2 ⟨rfl, k, hk2, rfl⟩
      have ek : k = c := by
        have q : x[n]? = some k := by simpa using hk2
        exact Option.some.inj (q.symm.trans e)
      subst ek
      refine ⟨Step.refl R, .inl (rel_str (by show 1 ≤ sizeLine; rw [sizeLine_eq]; decide) ?_)⟩
      simp only [List.all_cons, List.all_nil, Bool.and_true]
      exact List.all_eq_true.mp hz k (List.mem_of_getElem? e)
theorem rangeD_get : ∀ (n : Nat) (lo : Int) (i : Nat), (rangeD lo n)[i]? = if i < n then some (.int (lo + i)) else none
  | 0, lo, i => by simp [rangeD]
  | n + 1, lo, 0 => by simp [rangeD]
  | n + 1, lo, i + 1 => by
    have e : (lo + 1 + (i : Int)) = lo + ((i + 1 : Nat) : Int) := by omega
    simp only [rangeD, List.getElem?_cons_succ, rangeD_get n (lo + 1) i, e]
    by_cases h : i < n
    · rw [if_pos h, if_pos (Nat.succ_lt_succ h)]
    · rw [if_neg h, if_neg (fun z => h (Nat.lt_of_succ_lt_succ z))]
theorem walks_rng {tp : Bool} {ρ : List Addr} {H : Hp} {st : Sto} {lo : Int} {k : Nat} : relI C tp ρ H st (.items (rangeD lo k)) (Itr lo k) := by
  intro ρ' H' st' n hp hk R
  simp only [EV.It.at_, rangeD_get]
  by_cases h : n < k
  · rw [if_pos h]
    refine ⟨fun q => (nomatch q), fun d q => ?_⟩
    cases q
    refine ⟨h, ?_⟩
    rintro x H2 ⟨rfl, rfl⟩
    exact ⟨Step.refl R, .inl rel_int⟩
  · rw [if_neg h]
    exact ⟨fun _ => Nat.le_of_not_lt h, fun d q => (nomatch q)⟩
theorem walks_keys {tp : Bool} {ρ : List Addr} {H : Hp} {st : Sto} {i : Nat} {a : Addr} {o : Obj} {kws : List (Key × V)} (ha : ρ[i]? = some a) (hs : H a = some (.frz o (.dK kws))) : relI C tp ρ H st (.keys i) (Itk a o kws) := by
  intro ρ' H' st' n hp hk R
  have ha' := hp i a ha
  have hs' := hk.frz _ _ _ hs
  simp only [EV.It.at_]
  split
  · next kvs h =>
    obtain ⟨kw2, o2, q, rk⟩ := R.obj i a _ ha' h
    rw [hs'] at q
    cases q
    have len : ∀ {kvs : List (D × D)} {kws : List (Key × V)}, RelKV C ρ' H' kvs kws → ∀ n : Nat, (kvs[n]? = none → kws.length ≤ n) ∧ ∀ p, kvs[n]? = some p → ∃ k v, kws[n]? = some (k, v) ∧ RelKey p.1 k := by
      intro kvs
      induction kvs with
      | nil => rintro kws rfl n; exact ⟨fun _ => Nat.zero_le _, fun p h => nomatch h⟩
      | cons p t ih =>
        rintro kws ⟨k, v, r, rfl, h1, h2, h3⟩ n
        cases n with
        | zero => exact ⟨fun h => (nomatch h), fun p h => by cases h; exact ⟨k, v, rfl, h1⟩⟩
        | succ n =>
          obtain ⟨u1, u2⟩ := ih h3 n
          exact ⟨fun h => Nat.succ_le_succ (u1 h), u2⟩
    obtain ⟨u1, u2⟩ := len rk n
    refine ⟨fun h => ⟨hs', ?_⟩, fun d h => ?_⟩
    · cases e : kvs[n]? with
      | none => exact u1 e
      | some p => rw [e] at h; cases h
    · cases e : kvs[n]? with
      | none => rw [e] at h; cases h
      | some p =>
        rw [e] at h
        cases h
        obtain ⟨k, v, h1, h2⟩ := u2 p e
        refine ⟨⟨hs', (List.getElem?_eq_some_iff.mp h1).1⟩, ?_⟩
        rintro x H2 ⟨rfl, k2, v2, h3, rfl⟩
        rw [h1] at h3
        cases h3
        refine ⟨Step.refl R, .inl ?_⟩
        obtain ⟨pk, pv⟩ := p
        cases pk with
        | int j => rw [show k = .inl j from h2]; exact rel_int
        | str z =>
          obtain ⟨rfl, h4, h5⟩ := h2
          exact rel_str h4 h5
        | _ => exact h2.elim
  · exact ⟨fun h => (nomatch h), fun d h => (nomatch h)⟩
/-- a new pair -/
theorem pair_step {ρ : List Addr} {H : Hp} {st : Sto} {p : Addr} {x y : V} {d e : D} (R : Rel C ρ H st) (hn : H p = none) (rx : RelD C ρ H d x) (ry : RelD C ρ H e y) : Step C ρ H ρ (upd H p (.tup [x, y])) st ∧ RelG C true ρ (upd H p (.tup [x, y])) (.tup [d, e]) (.ref p) := by
  have s := Step.grow (H' := upd H p (.tup [x, y])) R (grow_upd hn)
  refine ⟨s, .inr ⟨rfl, _, p, [x, y], rfl, rfl, .inl (.inl upd_same), ?_⟩⟩
  exact rels_cons_iff.mpr ⟨x, [y], rfl, s.val R rx, rels_cons_iff.mpr ⟨y, [], rfl, s.val R ry, rels_nil_iff.mpr rfl⟩⟩
theorem walks_enumT {ρ : List Addr} {H : Hp} {st : Sto} {xs : List D} {a : Addr} {vs : List V} (ht : Tp C.K H a vs) (rs : RelDs C ρ H xs vs) : relI C true ρ H st (.enum (.items xs)) (IteT C.K a) := by
  intro ρ' H' st' n hp hk R
  have rs' := RelDs.mono hp hk _ _ rs
  have q := (hk.tp ht).sq
  simp only [EV.It.at_]
  cases e : xs[n]? with
  | none => exact ⟨fun _ => ⟨vs, q, get_none rs' e⟩, fun d h => nomatch h⟩
  | some d1 =>
    obtain ⟨v, hv, rv⟩ := rs'.get e
    refine ⟨fun h => (nomatch h), fun d h => ⟨⟨vs, v, q, hv⟩, ?_⟩⟩
    cases h
    rintro x H2 ⟨p, y, hn, rfl, rfl, hy⟩
    rw [Option.some.inj ((hy vs q).symm.trans hv)]
    exact pair_step R hn rel_int rv
theorem walks_enumL {ρ : List Addr} {H : Hp} {st : Sto} {i : Nat} {a : Addr} (ha : ρ[i]? = some a) : relI C true ρ H st (.enum (.list i)) (Ite C.K a) := by
  intro ρ' H' st' n hp hk R
  have ha' := hp i a ha
  have at_ : ∀ xs : List D, (st'[i]? = some (.lst xs) ∨ st'[i]? = some (.frz xs)) → (xs[n]? = none → (Ite C.K a).stop n H') ∧ ∀ d, xs[n]? = some d → (Ite C.K a).go n H' ∧ ∀ x H2, (Ite C.K a).yld n H' x H2 → Step C ρ' H' ρ' H2 st' ∧ RelG C true ρ' H2 (.tup [.int n, d]) x := by
    intro xs hs
    obtain ⟨vs, q, rs⟩ := R.sq (K := C.K) ha' hs
    refine ⟨fun h => ⟨vs, q, get_none rs h⟩, fun d h => ?_⟩
    obtain ⟨v, hv, rv⟩ := rs.get h
    refine ⟨⟨vs, v, q, hv⟩, ?_⟩
    rintro x H2 ⟨p, y, rfl, hn, rfl, hy⟩
    rw [Option.some.inj ((hy vs q).symm.trans hv)]
    exact pair_step R hn rel_int rv
  simp only [EV.It.at_]
  split
  · next d h =>
    refine ⟨fun q => (nomatch q), fun d2 q => ?_⟩
    cases q
    split at h
    · next xs hs => exact (at_ xs (.inl hs)).2 d (Option.some.inj h)
    · next xs hs => exact (at_ xs (.inr hs)).2 d (Option.some.inj h)
    · cases h
  · next h =>
    refine ⟨fun _ => ?_, fun d q => nomatch q⟩
    split at h
    · next xs hs => exact (at_ xs (.inl hs)).1 (Option.some.inj h)
    · next xs hs => exact (at_ xs (.inr hs)).1 (Option.some.inj h)
    · cases h
  · exact ⟨fun h => (nomatch h), fun d h => (nomatch h)⟩
theorem walks_zipT {ρ : List Addr} {H : Hp} {st : Sto} {xs ys : List D} {a b : Addr} {vs us : List V} (ht : Tp C.K H a vs) (hu : Tp C.K H b us) (rs : RelDs C ρ H xs vs) (rt : RelDs C ρ H ys us) : relI C true ρ H st (.zip (.items xs) (.items ys)) (RZ.ItzT C.K a b) := by
  intro ρ' H' st' n hp hk R
  have rs' := RelDs.mono hp hk _ _ rs
  have rt' := RelDs.mono hp hk _ _ rt
  have q := (hk.tp ht).sq
  have q2 := (hk.tp hu).sq
  simp only [EV.It.at_]
  cases e : xs[n]? with
  | none =>
    cases e2 : ys[n]? with
    | none => exact ⟨fun _ => ⟨vs, us, q, q2, .inl (get_none rs' e)⟩, fun d h => nomatch h⟩
    | some d2 => exact ⟨fun h => (nomatch h), fun d h => (nomatch h)⟩
  | some d1 =>
    cases e2 : ys[n]? with
    | none => exact ⟨fun h => (nomatch h), fun d h => (nomatch h)⟩
    | some d2 =>
      obtain ⟨v, hv, rv⟩ := rs'.get e
      obtain ⟨u, hu2, ru⟩ := rt'.get e2
      refine ⟨fun h => (nomatch h), fun d h => ⟨⟨vs, us, v, u, q, q2, hv, hu2⟩, ?_⟩⟩
      cases h
      rintro x H2 ⟨p, y, z, rfl, hn, rfl, hy, hz⟩
      rw [Option.some.inj ((hy vs q).symm.trans hv), Option.some.inj ((hz us q2).symm.trans hu2)]
      exact pair_step R hn rv ru
theorem walks_zipL {ρ : List Addr} {H : Hp} {st : Sto} {i j : Nat} {a b : Addr} (ha : ρ[i]? = some a) (hb : ρ[j]? = some b) : relI C true ρ H st (.zip (.list i) (.list j)) (Itz C.K a b) := by
  intro ρ' H' st' n hp hk R
  have ha' := hp i a ha
  have hb' := hp j b hb
  have look : ∀ (i : Nat) (a : Addr), ρ'[i]? = some a → ∀ o, EV.It.at_ st' n (.list i) = some o → ∃ (vs : List V), SqL C.K H' a vs ∧ (o = none → vs.length ≤ n) ∧ ∀ d, o = some d → ∃ v, vs[n]? = some v ∧ RelD C ρ' H' d v := by
    intro i a ha o ho
    simp only [EV.It.at_] at ho
    have fin : ∀ xs : List D, (st'[i]? = some (.lst xs) ∨ st'[i]? = some (.frz xs)) → some xs[n]? = some o → ∃ (vs : List V), SqL C.K H' a vs ∧ (o = none → vs.length ≤ n) ∧ ∀ d, o = some d → ∃ v, vs[n]? = some v ∧ RelD C ρ' H' d v := by
      intro xs hs hx
      obtain ⟨vs, q, rs⟩ := R.sq (K := C.K) ha hs
      have hx := Option.some.inj hx
      exact ⟨vs, q, fun h => get_none rs (hx.trans h), fun d h => rs.get (hx.trans h)⟩
    split at ho
    · next xs hs => exact fin xs (.inl hs) ho
    · next xs hs => exact fin xs (.inr hs) ho
    · cases ho
  have hat : EV.It.at_ st' n (.zip (.list i) (.list j)) = match EV.It.at_ st' n (.list i), EV.It.at_ st' n (.list j) with
    | some (some d), some (some e) => some (some (.tup [d, e]))
    | some none, some none => some none
    | _, _ => none := rfl
  rw [hat]
  cases h1 : EV.It.at_ st' n (.list i) with
  | none => exact ⟨fun h => (nomatch h), fun d h => (nomatch h)⟩
  | some o1 =>
    obtain ⟨vs, q, n1, g1⟩ := look i a ha' o1 h1
    cases h2 : EV.It.at_ st' n (.list j) with
    | none => cases o1 <;> exact ⟨fun h => (nomatch h), fun d h => (nomatch h)⟩
    | some o2 =>
      obtain ⟨us, q2, n2, g2⟩ := look j b hb' o2 h2
      cases o1 with
      | none =>
        cases o2 with
        | none => exact ⟨fun _ => ⟨vs, us, q, q2, .inl (n1 rfl)⟩, fun d h => nomatch h⟩
        | some d2 => exact ⟨fun h => (nomatch h), fun d h => (nomatch h)⟩
      | some d1 =>
        cases o2 with
        | none => exact ⟨fun h => (nomatch h), fun d h => (nomatch h)⟩
        | some d2 =>
          obtain ⟨v, hv, rv⟩ := g1 d1 rfl
          obtain ⟨u, hu2, ru⟩ := g2 d2 rfl
          refine ⟨fun h => (nomatch h), fun d h => ⟨⟨vs, us, v, u, q, q2, hv, hu2⟩, ?_⟩⟩
          cases h
          rintro x H2 ⟨p, y, z, rfl, hn, rfl, hy, hz⟩
          rw [Option.some.inj ((hy vs q).symm.trans hv), Option.some.inj ((hz us q2).symm.trans hu2)]
          exact pair_step R hn rv ru
end
end EV

-- part EvWalk
set_option Elab.async false
set_option linter.all false
set_option maxRecDepth 100000
/-! What is walked, as the text writes it. -/
namespace EV
open PySem PySem.Spec PyProof.Rows L2
section
variable {α α' β β' : Type} {C : Ctx} {W : WX} {Φ : Call} {rel : List Addr → Hp → Sto → α → β → Prop} {rel' : List Addr → Hp → Sto → α' → β' → Prop} {m : M α} {σ : L2.St} {ρ : List Addr} {H : Hp} {env : Env} {st st1 : Sto} {f : α → Sto → Res α'} {Q : β' → Hp → Prop}
/-- where the first step's answer is known -/
theorem tM_ok {d : α} (hE : EnvR C ρ H env σ) (R : Rel C ρ H st) (h : m Φ env st = .ok d st1) (p : Post C ρ H rel' Q (WE W σ) (f d st1)) :
    tM C W Φ rel m σ H (fun b H1 => ∃ ρ1, Step C ρ H ρ1 H1 st1 ∧ EnvR C ρ1 H1 env σ ∧ rel ρ1 H1 st1 d b ∧ Post C ρ1 H1 rel' Q (WE W σ) (f d st1)) := by
  refine ⟨ρ, env, st, hE, R, ?_⟩
  rw [h]
  exact fun b H' ρ' s r => ⟨ρ', s, s.env R hE, r, Post.at_ p s⟩
theorem tM_exc {x : Exn} {Q1 : β → Hp → Prop} (hE : EnvR C ρ H env σ) (R : Rel C ρ H st) (h : m Φ env st = .exc x st1) (p : Post C ρ H rel' Q (WE W σ) ((m Φ env st).bind f)) : tM C W Φ rel m σ H Q1 := by
  refine ⟨ρ, env, st, hE, R, ?_⟩
  rw [h] at p ⊢
  exact p
end
section
variable {C : Ctx} {W : WX} {Φ : Call} {X : Cx} {a b c e tg : Expr} {es : List Expr} {ma mb mc m : M D} {mt : M Bool} {ms : M (List D)} {pos : Pos} {tp : Bool}
/-- a value, by the place it has in the text -/
theorem i_val (hK : X.K = C.K) (ha : PE X a (tE C W Φ ma)) : PI X tg a (tI C W Φ tp (itM ma)) := by
  refine PI_imp (PI_or (PI_or (pi_list ha) (pi_tup ha)) (PI_or (pi_str ha) (pi_keys ha))) fun σ H Q w => ?_
  obtain ⟨ρ, env, st, hE, R, p⟩ := w
  have p : Post C ρ H (relI C tp) Q (WE W σ) ((ma Φ env st).bind itF) := p
  cases h : ma Φ env st with
  | bad => rw [h] at p; exact p.elim
  | exc x st1 => exact .inl (.inl (tM_exc (rel := relV C) hE R h p))
  | ok d st1 =>
    rw [h] at p
    have q := tM_ok (rel := relV C) (f := itF) hE R h p
    cases d with
    | tup xs =>
      refine .inl (.inr (tM_imp q ?_))
      rintro v H1 ⟨ρ2, s2, hE2, r2, p2⟩
      obtain ⟨l, vs, rfl, t, rs⟩ := rel_tup_iff.mp r2
      exact ⟨l, rfl, ⟨vs, by rw [hK]; exact t.sq⟩, by rw [hK]; exact Post.ok (b := Itt C.K l) s2.rel p2 (walks_tup t rs)⟩
    | lst xs =>
      refine .inl (.inl (tM_imp q ?_))
      rintro v H1 ⟨ρ2, s2, hE2, r2, p2⟩
      obtain ⟨l, vs, rfl, t, rs⟩ := rel_lst_iff.mp r2
      exact ⟨l, rfl, ⟨vs, by rw [hK]; exact t.sq⟩, by rw [hK]; exact Post.ok (b := Itl C.K l) s2.rel p2 (walks_fl t rs)⟩
    | str x =>
      refine .inr (.inl (tM_imp q ?_))
      rintro v H1 ⟨ρ2, s2, hE2, r2, p2⟩
      obtain ⟨rfl, h1, h2⟩ := rel_str_iff.mp r2
      exact ⟨ws x, rfl, Post.ok (b := Its (ws x)) s2.rel p2 (walks_str h2)⟩
    | ref i =>
      cases hs : st1[i]? with
      | none => simp only [Res.bind, itF, hs] at p; exact p.elim
      | some o =>
        have lst : ∀ xs : List D, (st1[i]? = some (.lst xs) ∨ st1[i]? = some (.frz xs)) → itF (.ref i) st1 = .ok (.list i) st1 → (iList X.K (tE C W Φ ma)) σ H Q := by
          intro xs hx hf
          refine tM_imp q ?_
          rintro v H1 ⟨ρ2, s2, hE2, r2, p2⟩
          obtain ⟨l, hl, rfl⟩ := rel_ref_iff.mp r2
          obtain ⟨vs, sq, rs⟩ := s2.rel.sq (K := C.K) hl hx
          rw [hf] at p2
          exact ⟨l, rfl, ⟨vs, by rw [hK]; exact sq⟩, by rw [hK]; exact Post.ok (b := Itl C.K l) s2.rel p2 (walks_lst hl)⟩
        cases o with
        | lst xs => exact .inl (.inl (lst xs (.inl hs) (by simp only [itF, hs])))
        | frz xs => exact .inl (.inl (lst xs (.inr hs) (by simp only [itF, hs])))
        | fdc kvs =>
          refine .inr (.inr (tM_imp q ?_))
          rintro v H1 ⟨ρ2, s2, hE2, r2, p2⟩
          obtain ⟨l, hl, rfl⟩ := rel_ref_iff.mp r2
          obtain ⟨kws, o, hq, rk⟩ := s2.rel.obj i l _ hl hs
          simp only [itF, hs] at p2
          exact ⟨l, o, rfl, .inl ⟨kws, hq, Post.ok (b := Itk l o kws) s2.rel p2 (walks_keys hl hq)⟩⟩
        | _ => simp only [Res.bind, itF, hs] at p; exact p.elim
    | _ => exact p.elim
theorem small62_le {i : Int} (h : small62 i = true) : -(2 ^ 62) ≤ i ∧ i < 2 ^ 62 := by
  have := small62_of h
  omega
theorem i_rng1 {p : Pos} (hg : Gl X "range") (hm : X.mg "range" = none) (ha : PA X [a] (tA C W Φ ms)) (hs : notStar a = true) : PI X tg (.Call (.Name "range" p) [a] [] pos) (tI C W Φ tp (rngM1 ms)) := by
  refine PI_imp (pi_range1 hg hm ha (star_no hs)) fun σ H Q w => ?_
  obtain ⟨ρ, env, st, hE, R, p⟩ := w
  refine tM_imp (tM_bind (rel := relA C) hE R p) ?_
  rintro xs H1 ⟨ds, st1, ρ1, s1, hE1, r1, p1⟩
  simp only [rngF1] at p1
  split at p1
  · next j =>
    split at p1
    · next h =>
      obtain ⟨v, rfl, rv⟩ := rels_one r1
      obtain ⟨h1, h2⟩ := small62_le h
      exact ⟨j, by rw [rel_int_iff.mp rv], h1, h2, Post.ok (b := Itr 0 j.toNat) s1.rel p1 walks_rng⟩
    · exact p1.elim
  · exact p1.elim
theorem i_rng2 {p : Pos} (hg : Gl X "range") (hm : X.mg "range" = none) (ha : PA X [a, b] (tA C W Φ ms)) (hs : notStar a = true) (hs2 : notStar b = true) : PI X tg (.Call (.Name "range" p) [a, b] [] pos) (tI C W Φ tp (rngM2 ms)) := by
  have e2 : starEach [b] X.env = [(false, eval b X.env)] := star_no hs2
  refine PI_imp (pi_range2 hg hm ha ((star_no hs).trans (by rw [e2])) e2) fun σ H Q w => ?_
  obtain ⟨ρ, env, st, hE, R, p⟩ := w
  refine tM_imp (tM_bind (rel := relA C) hE R p) ?_
  rintro xs H1 ⟨ds, st1, ρ1, s1, hE1, r1, p1⟩
  simp only [rngF2] at p1
  split at p1
  · next i j =>
    split at p1
    · next h =>
      rw [Bool.and_eq_true] at h
      obtain ⟨v, u, rfl, rv, ru⟩ := rels_two r1
      obtain ⟨h1, h2⟩ := small62_le h.1
      obtain ⟨h3, h4⟩ := small62_le h.2
      exact ⟨i, j, by rw [rel_int_iff.mp rv, rel_int_iff.mp ru], ⟨h1, h2, h3, h4⟩, Post.ok (b := Itr i (j - i).toNat) s1.rel p1 walks_rng⟩
    · exact p1.elim
  · exact p1.elim
theorem one_tA {σ : L2.St} {H : Hp} {Q : List V → Hp → Prop} (w : tE C W Φ ma σ H fun x H1 => Q [x] H1) : tCons (tE C W Φ ma) tNil σ H Q := w
theorem i_enum {elts : List Expr} {kk : Nat} {tpos p : Pos} (hK : X.K = C.K) (hg : Gl X "enumerate") (hm : X.mg "enumerate" = none) (ha : PE X a (tE C W Φ ma)) (hs : notStar a = true) :
    PI X (.Tuple elts kk tpos) (.Call (.Name "enumerate" p) [a] [] pos) (tI C W Φ true (enumM ma)) := by
  have hA := pa_cons ha pa_nil (star_no (X := X) (es := []) hs)
  refine PI_imp (PI_or (pi_enum hg hm hA (star_no hs)) (pi_enumT hg hm hA hs)) fun σ H Q w => ?_
  obtain ⟨ρ, env, st, hE, R, p⟩ := w
  have p : Post C ρ H (relI C true) Q (WE W σ) ((ma Φ env st).bind enumF) := p
  cases h : ma Φ env st with
  | bad => rw [h] at p; exact p.elim
  | exc x st1 => exact .inl (one_tA (tM_exc (rel := relV C) hE R h p))
  | ok d st1 =>
    rw [h] at p
    have q := tM_ok (rel := relV C) (f := enumF) hE R h p
    cases d with
    | tup xs =>
      refine .inr (one_tA (tM_imp q ?_))
      rintro v H1 ⟨ρ2, s2, hE2, r2, p2⟩
      obtain ⟨l, vs, rfl, t, rs⟩ := rel_tup_iff.mp r2
      exact ⟨l, vs, rfl, by rw [hK]; exact t.sq, by rw [hK]; exact Post.ok (b := IteT C.K l) s2.rel p2 (walks_enumT t rs)⟩
    | ref i =>
      cases hs : st1[i]? with
      | none => simp only [Res.bind, enumF, hs] at p; exact p.elim
      | some o =>
        have lst : ∀ xs : List D, (st1[i]? = some (.lst xs) ∨ st1[i]? = some (.frz xs)) → enumF (.ref i) st1 = .ok (.enum (.list i)) st1 → iEnum X.K (tCons (tE C W Φ ma) tNil) σ H Q := by
          intro xs hx hf
          refine one_tA (tM_imp q ?_)
          rintro v H1 ⟨ρ2, s2, hE2, r2, p2⟩
          obtain ⟨l, hl, rfl⟩ := rel_ref_iff.mp r2
          obtain ⟨vs, sq, rs⟩ := s2.rel.sq (K := C.K) hl hx
          rw [hf] at p2
          exact ⟨l, vs, rfl, by rw [hK]; exact sq, by rw [hK]; exact Post.ok (b := Ite C.K l) s2.rel p2 (walks_enumL hl)⟩
        cases o with
        | lst xs => exact .inl (lst xs (.inl hs) (by simp only [enumF, hs]))
        | frz xs => exact .inl (lst xs (.inr hs) (by simp only [enumF, hs]))
        | _ => simp only [Res.bind, enumF, hs] at p; exact p.elim
    | _ => exact p.elim
theorem i_zip {elts : List Expr} {kk : Nat} {tpos p : Pos} (hK : X.K = C.K) (hg : Gl X "zip") (hm : X.mg "zip" = none) (ha : PE X a (tE C W Φ ma)) (hb : PE X b (tE C W Φ mb)) (hs : notStar a = true) (hs2 : notStar b = true) :
    PI X (.Tuple elts kk tpos) (.Call (.Name "zip" p) [a, b] [] pos) (tI C W Φ true (zipM ma mb)) := by
  have hA := pa_cons ha (pa_cons hb pa_nil (star_no (X := X) (es := []) hs2)) (star_no (X := X) (es := [b]) hs)
  refine PI_imp (RZ.pi_zipA hg hm hA (star_no hs) (plains_any pos [b] (by simp [plains, hs2]))) fun σ H Q w => ?_
  obtain ⟨ρ, env, st, hE, R, p⟩ := w
  refine tM_imp (tM_bind (rel := relV C) hE R p) ?_
  rintro x H1 ⟨d1, st1, ρ1, s1, hE1, r1, p1⟩
  refine tM_imp (tM_bind (rel := relV C) hE1 s1.rel p1) ?_
  rintro y H2 ⟨d2, st2, ρ2, s2, hE2, r2, p2⟩
  have r1 := s2.val s1.rel r1
  show ∃ a b xs ys, [x, y] = [.ref a, .ref b] ∧ _
  simp only [zipF] at p2
  split at p2
  · next xs ys =>
    obtain ⟨l, vs, rfl, t, rs⟩ := rel_tup_iff.mp r1
    obtain ⟨l2, us, rfl, t2, rt⟩ := rel_tup_iff.mp r2
    exact ⟨l, l2, vs, us, rfl, .inr ⟨by rw [hK]; exact t.sq, by rw [hK]; exact t2.sq, by rw [hK]; exact Post.ok (b := RZ.ItzT C.K l l2) s2.rel p2 (walks_zipT t t2 rs rt)⟩⟩
  · next i j =>
    split at p2
    · next xs ys h1 h2 =>
      obtain ⟨l, hl, rfl⟩ := rel_ref_iff.mp r1
      obtain ⟨l2, hl2, rfl⟩ := rel_ref_iff.mp r2
      obtain ⟨vs, sq, rs⟩ := s2.rel.sq (K := C.K) hl (.inl h1)
      obtain ⟨us, sq2, rt⟩ := s2.rel.sq (K := C.K) hl2 (.inl h2)
      exact ⟨l, l2, vs, us, rfl, .inl ⟨by rw [hK]; exact sq, by rw [hK]; exact sq2, by rw [hK]; exact Post.ok (b := Itz C.K l l2) s2.rel p2 (walks_zipL hl hl2)⟩⟩
    · exact p2.elim
  · exact p2.elim
end
end EV

-- part EvLc
set_option Elab.async false
set_option linter.all false
set_option maxRecDepth 100000
/-! List comprehensions. -/
namespace EV
open PySem PySem.Spec PyProof.Rows L2

theorem bind_some {α β : Type} {r : Res α} {f : α → Sto → Res β} {b : β} {s : Sto} (h : r.bind f = .ok b s) : ∃ a s1, r = .ok a s1 ∧ f a s1 = .ok b s := by
  cases r with
  | ok a s1 => exact ⟨a, s1, rfl, h⟩
  | exc x s1 => cases h
  | bad => cases h
theorem walk_some {it : EV.It} {g : Tg} {step : Env → Sto → Res (List D)} {env : Env} {m n : Nat} {st st2 : Sto} {zs : List D} (h : walk it g step env m n st = .ok zs st2) :
    ∃ m', m = m' + 1 ∧ ((it.at_ st n = some none ∧ zs = [] ∧ st2 = st) ∨ ∃ d env1 ws st1 us, it.at_ st n = some (some d) ∧ g d env st = some env1 ∧ step env1 st = .ok ws st1 ∧ walk it g step env m' (n + 1) st1 = .ok us st2 ∧ zs = ws ++ us) := by
  cases m with
  | zero => cases h
  | succ m =>
    refine ⟨m, rfl, ?_⟩
    unfold walk at h
    split at h
    · cases h
    · next e =>
      cases h
      exact .inl ⟨e, rfl, rfl⟩
    · next d e =>
      split at h
      · cases h
      · next env1 e1 =>
        obtain ⟨ws, st1, h1, h2⟩ := bind_some h
        obtain ⟨us, st3, h3, h4⟩ := bind_some h2
        cases h4
        exact .inr ⟨d, env1, ws, st1, us, e, e1, h1, h3, rfl⟩
/-- one turn of the last clause -/
def turnS (t : M Bool) (e : M D) (Φ : Call) (env : Env) (s : Sto) : Res (List D) := (t Φ env s).bind fun b s1 => if b then (e Φ env s1).bind fun x s2 => .ok [x] s2 else .ok [] s1
theorem turn_some {t : M Bool} {e : M D} {Φ : Call} {env : Env} {s s2 : Sto} {ws : List D} (h : turnS t e Φ env s = .ok ws s2) :
    ∃ b s1, t Φ env s = .ok b s1 ∧ ((b = false ∧ ws = [] ∧ s2 = s1) ∨ (b = true ∧ ∃ x, e Φ env s1 = .ok x s2 ∧ ws = [x])) := by
  obtain ⟨b, s1, h1, h2⟩ := bind_some h
  refine ⟨b, s1, h1, ?_⟩
  cases b with
  | false => cases h2; exact .inl ⟨rfl, rfl, rfl⟩
  | true =>
    obtain ⟨x, s3, h3, h4⟩ := bind_some h2
    cases h4
    exact .inr ⟨rfl, x, h3, rfl⟩
/-- no exception is wanted -/
def noW : WX := fun _ _ _ _ => False
section
variable {C : Ctx} {W : WX} {Φ : Call} {X : Cx} {ρ ρ1 ρ' : List Addr} {H H1 H' : Hp} {st st1 st' : Sto} {D0 : Addr} {vs us : List V}
theorem keep_over (h : H D0 = some (.lst vs)) : Keep H (upd H D0 (.lst us)) := by
  refine ⟨fun a o u e => ?_, fun a fs e => ?_⟩
  · rw [upd_ne]
    · exact e
    · rintro rfl
      rw [h] at e
      cases e
  · rw [upd_ne]
    · exact e
    · rintro rfl
      rw [h] at e
      cases e
/-- the list that grows, which the store does not know -/
theorem rel_over (R : Rel C ρ H st) (n : D0 ∉ ρ) (h : H D0 = some (.lst vs)) : Rel C ρ (upd H D0 (.lst us)) st := by
  refine ⟨R.len, R.nd, fun i a o h1 h2 => ?_⟩
  have na : a ≠ D0 := fun z => n (z ▸ List.mem_of_getElem? h1)
  exact (R.obj i a o h1 h2).mono (Pre.refl _) (keep_over h) (upd_ne na)
theorem step_over (s : Step C ρ1 H1 ρ' H' st') (hn : H1 D0 = none) (n : D0 ∉ ρ') (h : H' D0 = some (.lst vs)) : Step C ρ1 H1 ρ' (upd H' D0 (.lst us)) st' := by
  refine ⟨s.pre, rel_over s.rel n h, fun a o e m => ?_, s.new⟩
  rw [upd_ne]
  · exact s.ext a o e m
  · rintro rfl
    rw [hn] at e
    cases e
theorem step_out (s : Step C ρ1 H1 ρ' H' st') (n : D0 ∉ ρ1) (h : H1 D0 = some (.lst vs)) : D0 ∉ ρ' ∧ H' D0 = some (.lst vs) := by
  refine ⟨fun m => ?_, s.ext D0 _ h (.inl n)⟩
  have q := s.new D0 m n
  rw [h] at q
  cases q
theorem step_keep (R : Rel C ρ1 H1 st1) (s : Step C ρ1 H1 ρ' H' st') : Keep H1 H' := R.keep s.ext
/-- the list is the store's from here -/
theorem step_take {xs : List EV.D} (s : Step C ρ1 H1 ρ' H' st') (hn : H1 D0 = none) (n : D0 ∉ ρ') (h : H' D0 = some (.lst vs)) (r : RelDs C ρ' H' xs vs) : Step C ρ1 H1 (ρ' ++ [D0]) H' (st' ++ [.lst xs]) := by
  refine ⟨s.pre.trans (Pre.add _ _), ⟨by simp [s.rel.len], ?_, fun i b o h1 h2 => ?_⟩, s.ext, fun a m q => ?_⟩
  · rw [List.nodup_append]
    refine ⟨s.rel.nd, by simp, fun x hx y hy => ?_⟩
    have e : y = D0 := by simpa using hy
    rw [e]
    rintro rfl
    exact n hx
  · by_cases hi : i < ρ'.length
    · rw [List.getElem?_append_left hi] at h1
      rw [List.getElem?_append_left (by rw [← s.rel.len]; exact hi)] at h2
      exact (s.rel.obj i b o h1 h2).mono (Pre.add _ _) (Keep.refl _) rfl
    · have hi2 : i = ρ'.length := by
        have := (List.getElem?_eq_some_iff.mp h1).1
        simp at this
        omega
      subst hi2
      have e1 : D0 = b := by simpa using h1
      have e2 : O.lst xs = o := by rw [s.rel.len] at h2; simpa using h2
      subst e1 e2
      exact ⟨vs, h, RelDs.mono (Pre.add _ _) (Keep.refl _) _ _ r⟩
  · rcases List.mem_append.mp m with m | m
    · exact s.new a m q
    · have e : a = D0 := by simpa using m
      rw [e]
      exact hn
end
section
variable {C : Ctx} {W : WX} {Φ : Call} {X : Cx}
theorem lc_tE {it : M EV.It} {own is : List Nat} {tp : Bool} {g : Tg} {t : M Bool} {e : M D} {σ : L2.St} {H : Hp} {Q : VK} (hi : ∀ i ∈ is, i ∈ own) (w : tE C W Φ (compM (compI it own g t e)) σ H Q) :
    tLc (tI C W Φ tp it) (tG C is tp g) (tT C noW Φ t) (tE C noW Φ e) own σ H Q := by
  obtain ⟨ρ, env, st, hE, R, p⟩ := w
  have p : Post C ρ H (relV C) Q (WE W σ) (((it Φ env st).bind fun i st1 => noExc (walk i g (turnS t e Φ) (wipeE env own) wfuel 0 st1)).bind fun xs st1 => mkLst xs st1) := p
  have assoc : ∀ {α β γ : Type} (r : Res α) (f : α → Sto → Res β) (g : β → Sto → Res γ), (r.bind f).bind g = r.bind fun a s => (f a s).bind g := fun r f g => by cases r <;> rfl
  rw [assoc] at p
  refine tM_imp (tM_bind hE R p) ?_
  rintro J H1 ⟨i, st1, ρ1, s1, hE1, hJ, p1⟩ D0 hD
  cases hw : walk i g (turnS t e Φ) (wipeE env own) wfuel 0 st1 with
  | bad => rw [hw] at p1; exact p1.elim
  | exc x s => rw [hw] at p1; exact p1.elim
  | ok ys st2 =>
    rw [hw] at p1
    have p1 : Post C ρ1 H1 (relV C) Q (WE W σ) (mkLst ys st2) := p1
    unfold mkLst at p1
    split at p1
    · next hz =>
      have hz : ys.length ≤ sizeLine := le_line hz
      refine ⟨fun n m H' => ∃ (ρ' : List Addr) (st' : Sto) (xs zs : List D) (vs : List V), Step C ρ1 H1 ρ' H' st' ∧ H' D0 = some (.lst vs) ∧ D0 ∉ ρ' ∧ RelDs C ρ' H' xs vs ∧ walk i g (turnS t e Φ) (wipeE env own) m n st' = .ok zs st2 ∧ xs ++ zs = ys, ⟨wfuel, ?_⟩, ?_⟩
      · exact ⟨ρ1, st1, [], ys, [], Step.grow s1.rel (grow_upd hD), upd_same, s1.rel.ne_none hD, rels_nil_iff.mpr rfl, hw, rfl⟩
      · rintro n m H2 ⟨ρ2, st2', xs, zs, vs, s2, h1, h2, h3, h4, h5⟩
        obtain ⟨m', rfl, h⟩ := walk_some h4
        have hJ2 := hJ ρ2 H2 st2' n s2.pre (step_keep s1.rel s2) s2.rel
        rcases h with ⟨ha, rfl, rfl⟩ | ⟨d, env1, ws, st3, zs', ha, hg, ht, hr, rfl⟩
        · refine .inl ⟨hJ2.1 ha, ?_⟩
          rw [List.append_nil] at h5
          subst h5
          exact p1 (V.ref D0) _ _ (step_take s2 hD h2 h1 h3) (rel_ref_iff.mpr ⟨D0, by rw [← s2.rel.len]; simp, rfl⟩)
        · obtain ⟨go, yl⟩ := hJ2.2 d ha
          refine .inr ⟨go, fun H3 => ∃ (ρ' : List Addr) (st' : Sto) (xs zs : List D) (vs : List V), Step C ρ1 H1 ρ' H3 st' ∧ H3 D0 = some (.lst vs) ∧ D0 ∉ ρ' ∧ RelDs C ρ' H3 xs vs ∧ walk i g (turnS t e Φ) (wipeE env own) m' (n + 1) st' = .ok zs st2 ∧ xs ++ zs = ys, fun H3 h => ⟨m', Nat.lt_succ_self _, h⟩, ?_⟩
          intro x H3 hy
          obtain ⟨s3, rg⟩ := yl x H3 hy
          obtain ⟨n3, l3⟩ := step_out s3 h2 h1
          have s13 := s2.trans s3
          have hE3 : EnvR C ρ2 H3 (wipeE env own) (L2.wipe σ own) := (s13.env s1.rel hE1).wipe own
          refine ⟨ρ2, wipeE env own, st2', d, env1, hE3, s3.rel, rg, hg, fun σ2 same hE4 => ⟨?_, ?_⟩⟩
          · have z := wipe_same same hi
            rw [z]
            exact List.ext_getElem? fun k => by
              by_cases mk : k ∈ own
              · rw [wipe_get mk, wipe_get mk]
                cases σ[k]? <;> rfl
              · rw [wipe_out mk]
          · obtain ⟨b, s5, ht1, ht2⟩ := turn_some ht
            refine ⟨ρ2, env1, st2', hE4, s3.rel, ?_⟩
            rw [ht1]
            intro b' H5 ρ5 s5' eb
            cases (show b = b' from eb)
            obtain ⟨n5, l5⟩ := step_out s5' n3 l3
            have s15 := s13.trans s5'
            have r5 := (s3.trans s5').vals s2.rel h3
            rcases ht2 with ⟨rfl, rfl, rfl⟩ | ⟨rfl, y, hy2, rfl⟩
            · rw [if_neg Bool.false_ne_true]
              exact ⟨ρ5, st3, xs, zs', vs, s15, l5, n5, r5, hr, h5⟩
            · rw [if_pos rfl]
              refine ⟨ρ5, env1, s5, s5'.env s3.rel hE4, s5'.rel, ?_⟩
              rw [hy2]
              intro yv H6 ρ6 s6 ry
              obtain ⟨n6, l6⟩ := step_out s6 n5 l5
              have r6 := s6.vals s5'.rel r5
              refine ⟨vs, l6, ?_, ρ6, st3, xs ++ [y], zs', vs ++ [yv], step_over (s15.trans s6) hD n6 l6, upd_same, n6, ?_, hr, ?_⟩
              · have e := r6.length
                have e2 := congrArg List.length h5
                simp only [List.length_append, List.length_cons, List.length_nil] at e2
                omega
              · exact (RelDs.mono (Pre.refl _) (keep_over l6) _ _ r6).append (RelDs.one (RelD.mono (Pre.refl _) (keep_over l6) _ _ ry))
              · rw [← h5]
                simp
    · exact p1.elim
theorem wipe_twice {σ : L2.St} {own : List Nat} : L2.wipe (L2.wipe σ own) own = L2.wipe σ own := List.ext_getElem? fun k => by
  by_cases mk : k ∈ own
  · rw [wipe_get mk, wipe_get mk]
    cases σ[k]? <;> rfl
  · rw [wipe_out mk]
/-- one turn of the first clause of two -/
def turnS2 (t : M Bool) (it1 : M EV.It) (own1 : List Nat) (g1 : Tg) (t1 : M Bool) (e : M D) (Φ : Call) (env1 : Env) (s : Sto) : Res (List D) := (t Φ env1 s).bind fun b s1 => if b then (it1 Φ env1 s1).bind fun i1 s2 =>
  walk i1 g1 (turnS t1 e Φ) (wipeE env1 own1) wfuel 0 s2 else .ok [] s1
theorem lc2_tE {it it1 : M EV.It} {own own1 is is1 : List Nat} {tp tp1 : Bool} {g g1 : Tg} {t t1 : M Bool} {e : M D} {σ : L2.St} {H : Hp} {Q : VK} (hi : ∀ i ∈ is, i ∈ own) (hi1 : ∀ i ∈ is1, i ∈ own1) (w : tE C W Φ (compM (compI2 it own g t it1 own1 g1 t1 e)) σ H Q) :
    tLc2 (tI C W Φ tp it) (tG C is tp g) (tT C noW Φ t) (tI C noW Φ tp1 it1) (tG C is1 tp1 g1) (tT C noW Φ t1) (tE C noW Φ e) own own1 σ H Q := by
  obtain ⟨ρ, env, st, hE, R, p⟩ := w
  have p : Post C ρ H (relV C) Q (WE W σ) (((it Φ env st).bind fun i st1 => noExc (walk i g (turnS2 t it1 own1 g1 t1 e Φ) (wipeE env own) wfuel 0 st1)).bind fun xs st1 => mkLst xs st1) := p
  have assoc : ∀ {α β γ : Type} (r : Res α) (f : α → Sto → Res β) (g : β → Sto → Res γ), (r.bind f).bind g = r.bind fun a s => (f a s).bind g := fun r f g => by cases r <;> rfl
  rw [assoc] at p
  refine tM_imp (tM_bind hE R p) ?_
  rintro J H1 ⟨i, st1, ρ1, s1, hE1, hJ, p1⟩ D0 hD
  cases hw : walk i g (turnS2 t it1 own1 g1 t1 e Φ) (wipeE env own) wfuel 0 st1 with
  | bad => rw [hw] at p1; exact p1.elim
  | exc x s => rw [hw] at p1; exact p1.elim
  | ok ys st2 =>
    rw [hw] at p1
    have p1 : Post C ρ1 H1 (relV C) Q (WE W σ) (mkLst ys st2) := p1
    unfold mkLst at p1
    split at p1
    · next hz =>
      have hz : ys.length ≤ sizeLine := le_line hz
      -- the state of the outer walk
      let Wo : Nat → Nat → Hp → Prop := fun n m H' => ∃ (ρ' : List Addr) (st' : Sto) (xs zs : List D) (vs : List V), Step C ρ1 H1 ρ' H' st' ∧ H' D0 = some (.lst vs) ∧ D0 ∉ ρ' ∧ RelDs C ρ' H' xs vs ∧ walk i g (turnS2 t it1 own1 g1 t1 e Φ) (wipeE env own) m n st' = .ok zs st2 ∧ xs ++ zs = ys
      refine ⟨Wo, ⟨wfuel, ?_⟩, ?_⟩
      · exact ⟨ρ1, st1, [], ys, [], Step.grow s1.rel (grow_upd hD), upd_same, s1.rel.ne_none hD, rels_nil_iff.mpr rfl, hw, rfl⟩
      · rintro n m H2 ⟨ρ2, st2', xs, zs, vs, s2, h1, h2, h3, h4, h5⟩
        obtain ⟨m', rfl, h⟩ := walk_some h4
        have hJ2 := hJ ρ2 H2 st2' n s2.pre (step_keep s1.rel s2) s2.rel
        rcases h with ⟨ha, rfl, rfl⟩ | ⟨d, env1, ws, st3, zs', ha, hg, ht, hr, rfl⟩
        · refine .inl ⟨hJ2.1 ha, ?_⟩
          rw [List.append_nil] at h5
          subst h5
          exact p1 (V.ref D0) _ _ (step_take s2 hD h2 h1 h3) (rel_ref_iff.mpr ⟨D0, by rw [← s2.rel.len]; simp, rfl⟩)
        · obtain ⟨go, yl⟩ := hJ2.2 d ha
          refine .inr ⟨go, Wo (n + 1) m', fun H3 h => ⟨m', Nat.lt_succ_self _, h⟩, ?_⟩
          intro x H3 hy
          obtain ⟨s3, rg⟩ := yl x H3 hy
          obtain ⟨n3, l3⟩ := step_out s3 h2 h1
          have s13 := s2.trans s3
          have hE3 : EnvR C ρ2 H3 (wipeE env own) (L2.wipe σ own) := (s13.env s1.rel hE1).wipe own
          refine ⟨ρ2, wipeE env own, st2', d, env1, hE3, s3.rel, rg, hg, fun σ2 same hE4 => ⟨(wipe_same same hi).trans wipe_twice, ?_⟩⟩
          obtain ⟨b, s5, ht1, ht2⟩ := bind_some ht
          refine ⟨ρ2, env1, st2', hE4, s3.rel, ?_⟩
          rw [ht1]
          intro b' H5 ρ5 s5' eb
          cases (show b = b' from eb)
          obtain ⟨n5, l5⟩ := step_out s5' n3 l3
          have s15 := s13.trans s5'
          have r5 := (s3.trans s5').vals s2.rel h3
          cases b with
          | false =>
            cases ht2
            rw [if_neg Bool.false_ne_true]
            exact ⟨ρ5, st3, xs, zs', vs, s15, l5, n5, r5, hr, h5⟩
          | true =>
            rw [if_pos rfl]
            obtain ⟨i1, s6, hi2, hw2⟩ := bind_some ht2
            refine ⟨ρ5, env1, s5, s5'.env s3.rel hE4, s5'.rel, ?_⟩
            rw [hi2]
            intro J1 H6 ρ6 s6' hJ1
            obtain ⟨n6, l6⟩ := step_out s6' n5 l5
            have s16 := s15.trans s6'
            have r6 := s6'.vals s5'.rel r5
            have hE6 : EnvR C ρ6 H6 env1 σ2 := (s5'.trans s6').env s3.rel hE4
            refine ⟨fun j k H' => ∃ (ρ' : List Addr) (st' : Sto) (as us : List D) (vs' : List V), Step C ρ1 H1 ρ' H' st' ∧ Pre ρ6 ρ' ∧ Keep H6 H' ∧ H' D0 = some (.lst vs') ∧ D0 ∉ ρ' ∧ RelDs C ρ' H' as vs' ∧ walk i1 g1 (turnS t1 e Φ) (wipeE env1 own1) k j st' = .ok us st3 ∧ as ++ us = xs ++ ws, ⟨wfuel, ρ6, s6, xs, ws, vs, s16, Pre.refl _, Keep.refl _, l6, n6, r6, hw2, rfl⟩, ?_⟩
            rintro j k H7 ⟨ρ7, st7, as, us, vs7, s7, pr7, kp7, l7, n7, r7, w7, e7⟩
            obtain ⟨k', rfl, h⟩ := walk_some w7
            have hJ3 := hJ1 ρ7 H7 st7 j pr7 kp7 s7.rel
            rcases h with ⟨ha2, rfl, rfl⟩ | ⟨d2, env2, ws2, st8, us', ha2, hg2, ht3, hr2, rfl⟩
            · refine .inl ⟨hJ3.1 ha2, ρ7, st3, as, zs', vs7, s7, l7, n7, r7, hr, ?_⟩
              rw [List.append_nil] at e7
              rw [e7, List.append_assoc]
              exact h5
            · obtain ⟨go2, yl2⟩ := hJ3.2 d2 ha2
              refine .inr ⟨go2, fun H' => ∃ (ρ' : List Addr) (st' : Sto) (as us : List D) (vs' : List V), Step C ρ1 H1 ρ' H' st' ∧ Pre ρ6 ρ' ∧ Keep H6 H' ∧ H' D0 = some (.lst vs') ∧ D0 ∉ ρ' ∧ RelDs C ρ' H' as vs' ∧ walk i1 g1 (turnS t1 e Φ) (wipeE env1 own1) k' (j + 1) st' = .ok us st3 ∧ as ++ us = xs ++ ws, fun H8 h => ⟨k', Nat.lt_succ_self _, h⟩, ?_⟩
              intro x2 H8 hy2
              obtain ⟨s8, rg2⟩ := yl2 x2 H8 hy2
              obtain ⟨n8, l8⟩ := step_out s8 n7 l7
              have s18 := s7.trans s8
              have kp8 := kp7.trans (step_keep s7.rel s8)
              have hE8 : EnvR C ρ7 H8 (wipeE env1 own1) (L2.wipe σ2 own1) := (hE6.mono pr7 kp8).wipe own1
              refine ⟨ρ7, wipeE env1 own1, st7, d2, env2, hE8, s8.rel, rg2, hg2, fun σ3 same2 hE9 => ⟨(wipe_same same2 hi1).trans wipe_twice, ?_⟩⟩
              obtain ⟨b2, s9, ht4, ht5⟩ := turn_some ht3
              refine ⟨ρ7, env2, st7, hE9, s8.rel, ?_⟩
              rw [ht4]
              intro b3 H9 ρ9 s9' eb2
              cases (show b2 = b3 from eb2)
              obtain ⟨n9, l9⟩ := step_out s9' n8 l8
              have s19 := s18.trans s9'
              have r9 := (s8.trans s9').vals s7.rel r7
              have pr9 := pr7.trans s9'.pre
              have kp9 := kp8.trans (step_keep s8.rel s9')
              rcases ht5 with ⟨rfl, rfl, rfl⟩ | ⟨rfl, y, hy3, rfl⟩
              · rw [if_neg Bool.false_ne_true]
                exact ⟨ρ9, st8, as, us', vs7, s19, pr9, kp9, l9, n9, r9, hr2, e7⟩
              · rw [if_pos rfl]
                refine ⟨ρ9, env2, s9, s9'.env s8.rel hE9, s9'.rel, ?_⟩
                rw [hy3]
                intro yv Ha ρa sa ry
                obtain ⟨na, la⟩ := step_out sa n9 l9
                have ra := sa.vals s9'.rel r9
                refine ⟨vs7, la, ?_, ρa, st8, as ++ [y], us', vs7 ++ [yv], step_over (s19.trans sa) hD na la, pr9.trans sa.pre, (kp9.trans (step_keep s9'.rel sa)).trans (keep_over la), upd_same, na, ?_, hr2, ?_⟩
                · have q := ra.length
                  have q2 := congrArg List.length h5
                  have q3 := congrArg List.length e7
                  simp only [List.length_append, List.length_cons, List.length_nil] at q2 q3
                  omega
                · exact (RelDs.mono (Pre.refl _) (keep_over la) _ _ ra).append (RelDs.one (RelD.mono (Pre.refl _) (keep_over la) _ _ ry))
                · rw [← e7]
                  simp
    · exact p1.elim
end
end EV

-- part EvSet
set_option Elab.async false
set_option linter.all false
set_option maxRecDepth 100000
/-! A set comprehension of ints. -/
namespace EV
open PySem PySem.Spec PyProof.Rows L2
section
variable {X : Cx}
/-- {elt for tg in iter if ..}: the new set at d -/
def tScI (w : World) (wi : TI) (g : TG) (tt : TT) (te : TE) (vs : List Nat) : TE := fun σ H Q => wi σ H fun J H1 => ∀ d, H1 d = none →
  ∃ U : Nat → Nat → Hp → Prop, (∃ m, U 0 m (upd H1 d (SetO w d (fun _ => false) 0))) ∧ ∀ i m H, U i m H → (J.stop i H ∧ Q (.ref d) H) ∨ (J.go i H ∧ ∃ Nx : Hp → Prop, (∀ H', Nx H' → ∃ m', m' < m ∧ U (i + 1) m' H') ∧
    ∀ x H', J.yld i H x H' → g x (L2.wipe σ vs) H' fun σ2 H2 => L2.wipe σ2 vs = L2.wipe σ vs ∧ tt σ2 H2 fun b H3 =>
      if b = true then te σ2 H3 fun y H4 => ∃ (c : Int) (S : Int → Bool) (n : Nat), y = .int c ∧ H4 d = some (SetO w d S n) ∧ n + 1 < scanBound ∧ Nx (upd H4 d (SetO w d (fun j => S j || decide (j = c)) (if S c = true then n else n + 1))) else Nx H3)
theorem thF {α : Type} {t : Sem α} {P Q : α → Shared → Prop} {M : Model} {A : Around} {E : Value → Shared → Prop} {s : Shared} (h : wpAny M A t P (fun _ _ => False) s) (k : ∀ a s', P a s' → Q a s') : wpAny M A t Q E s := wpAny_mono h k fun _ _ f => f.elim
theorem pe_scI {elt tg iter : Expr} {ifs : List Expr} {scope : Scope} {own : List (PySem.Str × Nat)} {pos : Pos} {wi : TI} {g : TG} {tt : TT} {te : TE} (hc : X.calm = true) (hN : X.N.Nodup) (hi : PI X tg iter wi) (ok : BlkOk X.N X.env.scope scope own)
    (hg : ∀ (s : Shared) (H : Hp) (C : Addr) (cl : List (PySem.Str × Addr)) (fp : List Addr), PG (X.blk s H scope (compEnvC scope cl C X.env) fp) tg g)
    (ht : ∀ (s : Shared) (H : Hp) (C : Addr) (cl : List (PySem.Str × Addr)) (fp : List Addr), PTs (X.blk s H scope (compEnvC scope cl C X.env) fp) ifs tt)
    (he : ∀ (s : Shared) (H : Hp) (C : Addr) (cl : List (PySem.Str × Addr)) (fp : List Addr), PE (X.blk s H scope (compEnvC scope cl C X.env) fp) elt te) (hs : ∀ x, foldedSetIterable iter X.env x = pure x) :
    PE X (.SetComp elt [⟨tg, iter, ifs, 0⟩] scope pos) (tScI X.w wi g tt te (own.map (·.2))) := by
  refine ⟨fun pins s σ H Q I h => ?_⟩
  rw [PpSet.eval_SetComp]
  have clo : ∀ y ∈ scope.names, y.2 = .free → ∃ c, X.env.cells.lookup y.1 = some c := fun y hy e => by
    rcases ok.free y hy e with k | k <;> first | exact I.ok.has _ (.inl k) | exact I.ok.has _ (.inr k)
  refine wpAny_comprehension_free (use := none) rfl hs (closure_ok clo) ok.kind (fun y hy e => by rw [ok.uniq y hy, e]) (thn (hi.run pins s σ H _ I h) fun _ s1 came => thn came fun itv s2 came2 => ?_)
  obtain ⟨it, fp, tn, J, H2, rfl, I2, T, at0, fresh2, q⟩ := came2
  refine PpSet.newSet_ok (newEnv_comp ?_)
  have dn : H2 s2.heap.objs.size = none := I2.hok.fresh (Nat.le_refl _)
  obtain ⟨U, ⟨m0, u0⟩, turns⟩ := q s2.heap.objs.size dn
  generalize hd : s2.heap.objs.size = d at dn u0 turns
  generalize hs3 : ({ s2 with heap := s2.heap.push { cls := .type "set", dict := none, data := .set #[] 0 (.fresh 0 0 (!X.w.params.followText "set-order")) } } : Shared) = s3
  have h3 : s3.heap = s2.heap.push { cls := .type "set", dict := none, data := .set #[] 0 (.fresh 0 0 (!X.w.params.followText "set-order")) } := by rw [← hs3]
  have I3 : Inv X pins σ (upd H2 d (SetO X.w d (fun _ => false) 0)) s3 := by
    rw [← hs3]
    refine I2.laid (t' := s2.toks) (fun b o e => Heap.get?_push_of_some _ e) (Nat.le_of_eq hd) ?_
    rw [← hd]
    exact setO_new (setR_fresh X.w)
  have small : ∀ b ∈ fp, b < s2.heap.objs.size := fun b hb => by
    obtain ⟨o, e, _⟩ := T.obj _ _ at0 b hb
    exact Heap.lt_size e
  have fresh3 : ∀ b ∈ fp, FpOk X pins (upd H2 d (SetO X.w d (fun _ => false) 0)) b ∧ b < s3.heap.objs.size := fun b hb => by
    have lt := small b hb
    refine ⟨⟨?_, (fresh2 b hb).2⟩, by rw [h3, Heap.size_push]; exact Nat.lt_succ_of_lt lt⟩
    rw [upd_ne (by rw [← hd]; exact Nat.ne_of_lt lt)]
    exact (fresh2 b hb).1
  have at3 : tn 0 s3.heap := T.keep _ _ _ at0 fun b _ o e => by rw [h3]; exact Heap.get?_push_of_some _ e
  have I4 := block_start I3 ok hN fresh3
  generalize hcl : cellsFrom (s3.heap.objs.size + 1) scope.names (cloFrom X.env.cells scope.names []) = cl at I4 ⊢
  have G := hg s3 (upd H2 d (SetO X.w d (fun _ => false) 0)) s3.heap.objs.size cl fp
  have Te := ht s3 (upd H2 d (SetO X.w d (fun _ => false) 0)) s3.heap.objs.size cl fp
  have El := he s3 (upd H2 d (SetO X.w d (fun _ => false) 0)) s3.heap.objs.size cl fp
  have fpn : ∀ b ∈ fp, (upd H2 d (SetO X.w d (fun _ => false) 0)) b = none := fun b hb => (fresh3 b hb).1.1
  have loc : (compEnvC scope cl s3.heap.objs.size X.env).locals = s3.heap.objs.size := rfl
  show codeAny _ _ (.compStart (.SetComp elt [⟨tg, iter, ifs, 0⟩] scope pos) 0 (.ref it) (.ref d) (compEnvC scope cl s3.heap.objs.size X.env)) (compPost (model X.prog X.w) X.A X.xe none (EP X pins σ Q) (.ref d) s3.heap.objs.size) { s3 with heap := pushCells (s3.heap.push { cls := .type "dict", data := .dict #[] }) scope.names }
  generalize compEnvC scope cl s3.heap.objs.size X.env = ce at I4 G Te El loc ⊢
  generalize upd H2 d (SetO X.w d (fun _ => false) 0) = H3 at I3 I4 G Te El u0 fpn fresh3
  generalize hs4 : ({ s3 with heap := pushCells (s3.heap.push { cls := .type "dict", data := .dict #[] }) scope.names } : Shared) = s4 at I4 ⊢
  have at4 : tn 0 s4.heap := T.keep _ _ _ at3 fun b _ o e => by rw [← hs4]; exact pushCells_keeps _ _ _ _ (Heap.get?_push_of_some _ e)
  have stay : ∀ {σ' : L2.St} {Ha : Hp} {sa : Shared}, Inv (X.blk s3 H3 scope ce fp) [] σ' Ha sa → (∀ b ∈ fp, Ha b = none) → ∀ b ∈ fp, FpOk (X.blk s3 H3 scope ce fp) [] Ha b := fun Ia no b hb =>
    ⟨no b hb, (Ia.ok.exf b hb).1, Ia.ok.exfs b hb, .inl hb, fun x c e => (Ia.ok.exf b hb).2 x c e, fun p hp => nomatch hp⟩
  have loop : codeAny (model X.prog X.w) X.A (.compLoop (.SetComp elt [⟨tg, iter, ifs, 0⟩] scope pos) 0 (.ref it) (.ref d) ce) (compPost (model X.prog X.w) X.A X.xe none (EP X pins σ Q) (.ref d) s3.heap.objs.size) s4 := by
    refine PpSet.compLoopS_any (fun n sa => ∃ i Ha, Inv (X.blk s3 H3 scope ce fp) [] (L2.wipe σ (own.map (·.2))) Ha sa ∧ tn i sa.heap ∧ (∀ b ∈ fp, Ha b = none) ∧ U i n Ha) ?_ m0 ⟨0, H3, I4, at4, fpn, u0⟩
    rintro n s5 ⟨i, H5, I5, at5, no5, u5⟩
    rcases turns i n H5 u5 with ⟨stop, done⟩ | ⟨go, Nx, later, step⟩
    · refine thF (T.done (X.blk s3 H3 scope ce fp) rfl rfl rfl hc i [] s5 _ H5 (fun _ _ => False) I5 (stay I5 no5) at5 stop) fun r s6 e6 => ?_
      obtain ⟨rfl, I6⟩ := e6
      have I7 : Inv X pins σ H5 s6 := I3.call' (ch := fp) I6.os I6.base I6.hok I6.bare fun b hb => ⟨(fresh3 b hb).1.2.2.2.1, (fresh3 b hb).1.2.1, (fresh3 b hb).1.2.2.2.2.1, (fresh3 b hb).1.2.2.2.2.2⟩
      have none : H5 s3.heap.objs.size = none := by
        have z : H5 ce.locals = none := I6.free
        rwa [loc] at z
      obtain ⟨mm, ns, _⟩ := I6.loc
      have ns : s6.heap.Ns ce.locals mm := ns
      rw [loc] at ns
      refine ⟨mm, ns, fun h'' sb => ?_⟩
      obtain ⟨f0, f1, f2, f3, f4, f5⟩ := I3.fpOk (Nat.le_refl _) none
      exact ⟨.ref d, H5, I7.turned (t' := s6.toks) (fun b o hb e => (sb.2 b hb).trans e) f0 f1 f3 f4 f5, rfl, done⟩
    · refine thF (T.item (X.blk s3 H3 scope ce fp) rfl rfl rfl hc i [] s5 _ H5 (fun _ _ => False) I5 (stay I5 no5) at5 go) fun r s6 e6 => ?_
      obtain ⟨u, rfl, e6⟩ := e6
      refine thF e6 fun _ s7 e7 => ?_
      obtain ⟨x, H7, I7, r7, y7, at7, no7⟩ := e7
      have P7 := I7.pinned (stay I7 no7) (T.obj _ _ at7)
      refine thF (G.run _ s7 _ H7 x u _ P7 r7 (step x H7 y7)) fun _ s8 e8 => ?_
      obtain ⟨σ8, H8, I8, w8, q8⟩ := e8
      refine thF (Te.run _ s8 σ8 H8 _ I8 q8) fun b s9 e9 => ?_
      obtain ⟨H9, I9, q9⟩ := e9
      have again : ∀ {sb : Shared} {Hb : Hp}, Inv (X.blk s3 H3 scope ce fp) ([] ++ pinsAt fp s7.heap) σ8 Hb sb → Nx Hb → ∃ m, m < n ∧ ∃ i Ha, Inv (X.blk s3 H3 scope ce fp) [] (L2.wipe σ (own.map (·.2))) Ha sb ∧ tn i sb.heap ∧ (∀ b ∈ fp, Ha b = none) ∧ U i m Ha := fun {sb Hb} Ib nx => by
        obtain ⟨m', lt, u'⟩ := later Hb nx
        have pinned : ∀ b ∈ fp, ∀ o, s7.heap.get? b = some o → sb.heap.get? b = some o ∧ Hb b = none := fun b hb o e =>
          have z := Ib.pin (b, o) (List.mem_append_right _ (List.mem_append_right _ (mem_pinsAt hb e)))
          ⟨z.1, z.2.1⟩
        have len : (L2.wipe σ (own.map (·.2))).length = σ8.length := by rw [← w8, wipe_length]
        refine ⟨m', lt, i + 1, Hb, (Ib.unpinned (pins := [])).weak len (fun j v e => ?_), T.keep _ _ _ at7 fun b hb o e => (pinned b hb o e).1, fun b hb => ?_, u'⟩
        · rw [← w8] at e
          exact (wipe_some e).1
        · obtain ⟨o, e, _⟩ := T.obj _ _ at7 b hb
          exact (pinned b hb o e).2
      cases b with
      | false =>
        rw [if_neg Bool.false_ne_true] at q9 ⊢
        exact again I9 q9
      | true =>
        rw [if_pos rfl] at q9 ⊢
        refine thF (El.run _ s9 σ8 H9 _ I9 q9) fun z s10 e10 => ?_
        obtain ⟨yv, H10, I10, r10, c, S, k, rfl, hset, room, nx⟩ := e10
        have add := mt_sadd (X := X.blk s3 H3 scope ce fp) ([] ++ pinsAt fp s7.heap) s10 σ8 H10 (.ref d) [.int c] (.ref d) [z] (fun v Hb => v = .non ∧ Hb = upd H10 d (SetO X.w d (fun j => S j || decide (j = c)) (if S c = true then k else k + 1))) I10 rfl (.cons r10 .nil) ⟨d, c, S, k, rfl, rfl, hset, room, rfl, rfl⟩
        refine thF add fun _ s11 e11 => ?_
        obtain ⟨_, _, I11, _, _, rfl⟩ := e11
        exact again I11 nx
  exact PpSet.codeAny_compStart_set loop (T.self X.A 0 _ _ _ at4 loop)
end
theorem setOf_append : ∀ (xs zs : List D) (acc : List Int), setOf (xs ++ zs) acc = (setOf xs acc).bind (setOf zs)
  | [], zs, acc => rfl
  | x :: xs, zs, acc => by
    cases x with
    | int i => exact setOf_append xs zs (addI i acc)
    | _ => rfl
theorem addI_len (i : Int) (xs : List Int) : (addI i xs).length = if xs.contains i then xs.length else xs.length + 1 := by
  unfold addI
  split <;> simp
theorem setOf_len : ∀ (xs : List D) (acc ns : List Int), setOf xs acc = some ns → acc.length ≤ ns.length
  | [], acc, ns, h => by cases h; exact Nat.le_refl _
  | x :: xs, acc, ns, h => by
    cases x with
    | int i =>
      have q := setOf_len xs (addI i acc) ns h
      rw [addI_len] at q
      split at q <;> omega
    | _ => cases h
theorem addI_nodup {i : Int} {xs : List Int} (h : xs.Nodup) : (addI i xs).Nodup := by
  unfold addI
  split
  · exact h
  · next q =>
    rw [List.nodup_append]
    refine ⟨h, by simp, fun x hx y hy => ?_⟩
    have e : y = i := by simpa using hy
    subst e
    rintro rfl
    exact q (by simpa using hx)
theorem addI_mem {i k : Int} {xs : List Int} : (addI i xs).contains k = (xs.contains k || decide (k = i)) := by
  unfold addI
  split
  · next q =>
    by_cases e : k = i
    · subst e
      rw [q]
      rfl
    · simp [e]
  · rw [Bool.eq_iff_iff]
    simp
section
variable {C : Ctx} {W : WX} {Φ : Call} {X : Cx}
theorem set_over {ρ : List Addr} {H : Hp} {d : Addr} {S S' : Int → Bool} {n n' : Nat} (h : H d = some (SetO C.w d S n)) : Keep H (upd H d (SetO C.w d S' n')) := by
  refine ⟨fun a o u e => ?_, fun a fs e => ?_⟩
  · rw [upd_ne]
    · exact e
    · rintro rfl
      rw [h] at e
      have e' : HO.ext _ = HO.frz _ _ := Option.some.inj e
      cases e'
  · rw [upd_ne]
    · exact e
    · rintro rfl
      rw [h] at e
      have e' : HO.ext _ = HO.xd _ := Option.some.inj e
      cases e'
theorem set_step {ρ1 ρ' : List Addr} {H1 H' : Hp} {st' : Sto} {d : Addr} {S S' : Int → Bool} {n n' : Nat} (s : Step C ρ1 H1 ρ' H' st') (hn : H1 d = none) (nd : d ∉ ρ') (h : H' d = some (SetO C.w d S n)) : Step C ρ1 H1 ρ' (upd H' d (SetO C.w d S' n')) st' := by
  refine ⟨s.pre, ⟨s.rel.len, s.rel.nd, fun i a o h1 h2 => ?_⟩, fun a o e m => ?_, s.new⟩
  · have na : a ≠ d := fun z => nd (z ▸ List.mem_of_getElem? h1)
    exact (s.rel.obj i a o h1 h2).mono (Pre.refl _) (set_over (ρ := ρ') h) (upd_ne na)
  · rw [upd_ne]
    · exact s.ext a o e m
    · rintro rfl
      rw [hn] at e
      cases e
theorem set_out {ρ1 ρ' : List Addr} {H1 H' : Hp} {st' : Sto} {d : Addr} {o : HO} (s : Step C ρ1 H1 ρ' H' st') (n : d ∉ ρ1) (h : H1 d = some o) : d ∉ ρ' ∧ H' d = some o := by
  refine ⟨fun m => ?_, s.ext d _ h (.inl n)⟩
  have q := s.new d m n
  rw [h] at q
  cases q
theorem set_take {ρ1 ρ' : List Addr} {H1 H' : Hp} {st' : Sto} {d : Addr} {S : Int → Bool} {ns : List Int} (s : Step C ρ1 H1 ρ' H' st') (hn : H1 d = none) (nd : d ∉ ρ') (h : H' d = some (SetO C.w d S ns.length)) (h1 : ns.Nodup) (h2 : ∀ k, S k = ns.contains k) :
    Step C ρ1 H1 (ρ' ++ [d]) H' (st' ++ [.iset ns]) := by
  refine ⟨s.pre.trans (Pre.add _ _), ⟨by simp [s.rel.len], ?_, fun i b o e1 e2 => ?_⟩, s.ext, fun a m q => ?_⟩
  · rw [List.nodup_append]
    refine ⟨s.rel.nd, by simp, fun x hx y hy => ?_⟩
    have e : y = d := by simpa using hy
    rw [e]
    rintro rfl
    exact nd hx
  · by_cases hi : i < ρ'.length
    · rw [List.getElem?_append_left hi] at e1
      rw [List.getElem?_append_left (by rw [← s.rel.len]; exact hi)] at e2
      exact (s.rel.obj i b o e1 e2).mono (Pre.add _ _) (Keep.refl _) rfl
    · have hi2 : i = ρ'.length := by
        have := (List.getElem?_eq_some_iff.mp e1).1
        simp at this
        omega
      subst hi2
      have u1 : d = b := by simpa using e1
      have u2 : O.iset ns = o := by rw [s.rel.len] at e2; simpa using e2
      subst u1 u2
      exact ⟨S, h, h1, h2⟩
  · rcases List.mem_append.mp m with m | m
    · exact s.new a m q
    · have e : a = d := by simpa using m
      rw [e]
      exact hn
theorem sc_tE {it : M EV.It} {own is : List Nat} {tp : Bool} {g : Tg} {t : M Bool} {e : M D} {σ : L2.St} {H : Hp} {Q : VK} (hi : ∀ i ∈ is, i ∈ own) (w : tE C W Φ (scompM (compI it own g t e)) σ H Q) :
    tScI C.w (tI C W Φ tp it) (tG C is tp g) (tT C noW Φ t) (tE C noW Φ e) own σ H Q := by
  obtain ⟨ρ, env, st, hE, R, p⟩ := w
  have p : Post C ρ H (relV C) Q (WE W σ) (((it Φ env st).bind fun i st1 => noExc (walk i g (turnS t e Φ) (wipeE env own) wfuel 0 st1)).bind fun xs st1 => match setOf xs [] with
    | some ns => if Nat.blt ns.length 4000 then alloc (.iset ns) st1 else .bad
    | none => .bad) := p
  have assoc : ∀ {α β γ : Type} (r : Res α) (f : α → Sto → Res β) (g : β → Sto → Res γ), (r.bind f).bind g = r.bind fun a s => (f a s).bind g := fun r f g => by cases r <;> rfl
  rw [assoc] at p
  refine tM_imp (tM_bind hE R p) ?_
  rintro J H1 ⟨i, st1, ρ1, s1, hE1, hJ, p1⟩ D0 hD
  cases hw : walk i g (turnS t e Φ) (wipeE env own) wfuel 0 st1 with
  | bad => rw [hw] at p1; exact p1.elim
  | exc x s => rw [hw] at p1; exact p1.elim
  | ok ys st2 =>
    rw [hw] at p1
    have p1 : Post C ρ1 H1 (relV C) Q (WE W σ) (match setOf ys [] with
      | some ns => if Nat.blt ns.length 4000 then alloc (.iset ns) st2 else .bad
      | none => .bad) := p1
    split at p1
    · next ns hns =>
      split at p1
      · next hz =>
        have hz : ns.length < 4000 := Nat.blt_eq.mp hz
        have pf : Post C ρ1 H1 (relV C) Q (WE W σ) (alloc (.iset ns) st2) := p1
        let Uo : Nat → Nat → Hp → Prop := fun n m H' => ∃ (ρ' : List Addr) (st' : Sto) (xs zs : List D) (as : List Int) (S : Int → Bool), Step C ρ1 H1 ρ' H' st' ∧ H' D0 = some (SetO C.w D0 S as.length) ∧ D0 ∉ ρ' ∧ as.Nodup ∧ (∀ k, S k = as.contains k) ∧ setOf xs [] = some as ∧ walk i g (turnS t e Φ) (wipeE env own) m n st' = .ok zs st2 ∧ xs ++ zs = ys
        refine ⟨Uo, ⟨wfuel, ?_⟩, ?_⟩
        · exact ⟨ρ1, st1, [], ys, [], fun _ => false, Step.grow s1.rel (grow_upd hD), upd_same, s1.rel.ne_none hD, List.nodup_nil, fun k => by simp, rfl, hw, rfl⟩
        · rintro n m H2 ⟨ρ2, st2', xs, zs, as, S, s2, h1, h2, h3, h3', h3'', h4, h5⟩
          obtain ⟨m', rfl, h⟩ := walk_some h4
          have hJ2 := hJ ρ2 H2 st2' n s2.pre (step_keep s1.rel s2) s2.rel
          rcases h with ⟨ha, rfl, rfl⟩ | ⟨d, env1, ws, st3, zs', ha, hg, ht, hr, rfl⟩
          · refine .inl ⟨hJ2.1 ha, ?_⟩
            rw [List.append_nil] at h5
            subst h5
            rw [h3''] at hns
            cases hns
            exact pf (V.ref D0) _ _ (set_take s2 hD h2 h1 h3 h3') (rel_ref_iff.mpr ⟨D0, by rw [← s2.rel.len]; simp, rfl⟩)
          · obtain ⟨go, yl⟩ := hJ2.2 d ha
            refine .inr ⟨go, Uo (n + 1) m', fun H3 h => ⟨m', Nat.lt_succ_self _, h⟩, ?_⟩
            intro x H3 hy
            obtain ⟨s3, rg⟩ := yl x H3 hy
            obtain ⟨n3, l3⟩ := set_out s3 h2 h1
            have s13 := s2.trans s3
            have hE3 : EnvR C ρ2 H3 (wipeE env own) (L2.wipe σ own) := (s13.env s1.rel hE1).wipe own
            refine ⟨ρ2, wipeE env own, st2', d, env1, hE3, s3.rel, rg, hg, fun σ2 same hE4 => ⟨(wipe_same same hi).trans wipe_twice, ?_⟩⟩
            obtain ⟨b, s5, ht1, ht2⟩ := turn_some ht
            refine ⟨ρ2, env1, st2', hE4, s3.rel, ?_⟩
            rw [ht1]
            intro b' H5 ρ5 s5' eb
            cases (show b = b' from eb)
            obtain ⟨n5, l5⟩ := set_out s5' n3 l3
            have s15 := s13.trans s5'
            rcases ht2 with ⟨rfl, rfl, rfl⟩ | ⟨rfl, y, hy2, rfl⟩
            · rw [if_neg Bool.false_ne_true]
              exact ⟨ρ5, st3, xs, zs', as, S, s15, l5, n5, h3, h3', h3'', hr, h5⟩
            · rw [if_pos rfl]
              refine ⟨ρ5, env1, s5, s5'.env s3.rel hE4, s5'.rel, ?_⟩
              rw [hy2]
              intro yv H6 ρ6 s6 ry
              obtain ⟨n6, l6⟩ := set_out s6 n5 l5
              have whole := hns
              rw [← h5, setOf_append, h3''] at whole
              have whole : setOf ([y] ++ zs') as = some ns := whole
              cases y with
              | int c =>
                have hc : setOf zs' (addI c as) = some ns := whole
                have len := setOf_len _ _ _ hc
                have len2 := addI_len c as
                refine ⟨c, S, as.length, rel_int_iff.mp ry, l6, ?_, ρ6, st3, xs ++ [.int c], zs', addI c as, fun j => S j || decide (j = c), ?_, ?_, n6, addI_nodup h3, fun k => ?_, ?_, hr, ?_⟩
                · have : scanBound = 4096 := rfl
                  have : as.length ≤ ns.length := by split at len2 <;> omega
                  omega
                · exact set_step (s15.trans s6) hD n6 l6
                · rw [upd_same, len2, h3' c]
                · show (S k || decide (k = c)) = (addI c as).contains k
                  rw [addI_mem, h3' k]
                · rw [setOf_append, h3'']
                  rfl
                · rw [← h5]
                  simp
              | _ => cases whole
      · exact p1.elim
    · exact p1.elim
end
end EV

-- part EvLock
set_option Elab.async false
set_option linter.all false
set_option maxRecDepth 100000
/-! A dict is locked while it is walked. -/
namespace EV
open PySem PySem.Spec PyProof.Rows L2
section
variable {C : Ctx} {W : WX} {Φ : Call} {X : Cx} {ρ ρ' : List Addr} {H H' : Hp} {st st' : Sto} {a : Addr} {r : Nat} {od : Obj} {kws : List (Key × V)} {kvs : List (D × D)} {env : Env} {σ : L2.St}
theorem lock_keep (h : H a = some (.dK kws)) : Keep H (upd H a (.frz od (.dK kws))) := by
  refine ⟨fun b o u e => ?_, fun b fs e => ?_⟩ <;>
  · rw [upd_ne]
    · exact e
    · rintro rfl
      rw [h] at e
      cases e
theorem lock_rel (R : Rel C ρ H st) (ha : ρ[r]? = some a) (hs : st[r]? = some (.dct kvs)) (h : H a = some (.dK kws)) : Rel C ρ (upd H a (.frz od (.dK kws))) (st.set r (.fdc kvs)) := by
  refine ⟨by simp [R.len], R.nd, fun j b ob h1 h2 => ?_⟩
  by_cases hj : j = r
  · subst hj
    rw [ha] at h1
    cases h1
    rw [List.getElem?_set_self (List.getElem?_eq_some_iff.mp hs).1] at h2
    cases h2
    obtain ⟨kw2, q, rk⟩ := R.obj j a _ ha hs
    rw [h] at q
    cases q
    exact ⟨kws, od, upd_same, RelKV.mono (Pre.refl _) (lock_keep h) _ _ rk⟩
  · rw [List.getElem?_set_ne (Ne.symm hj)] at h2
    have nb : b ≠ a := fun e => by
      subst e
      obtain ⟨l1, e1⟩ := List.getElem?_eq_some_iff.mp h1
      obtain ⟨l2, e2⟩ := List.getElem?_eq_some_iff.mp ha
      exact hj ((List.getElem_inj R.nd).mp (e1.trans e2.symm))
    exact (R.obj j b ob h1 h2).mono (Pre.refl _) (lock_keep h) (upd_ne nb)
/-- from the locked heap on is from the heap on -/
theorem lock_step (R : Rel C ρ H st) (ha : ρ[r]? = some a) (h : H a = some (.dK kws)) (s : Step C ρ (upd H a (.frz od (.dK kws))) ρ' H' st') : Step C ρ H ρ' H' st' := by
  refine ⟨s.pre, s.rel, fun b o e m => ?_, fun b m n => ?_⟩
  · have nb : b ≠ a := by
      rintro rfl
      rcases m with m | ⟨x, y, rfl⟩
      · exact m (List.mem_of_getElem? ha)
      · rw [h] at e
        cases e
    exact s.ext b o (by rw [upd_ne nb]; exact e) m
  · have q := s.new b m n
    by_cases nb : b = a
    · subst nb
      rw [upd_same] at q
      cases q
    · rwa [upd_ne nb] at q
theorem unlock_step (R : Rel C ρ H st) (ha : ρ[r]? = some a) (h : H a = some (.dK kws)) (s : Step C ρ (upd H a (.frz od (.dK kws))) ρ' H' st') (hs : st'[r]? = some (.fdc kvs)) :
    H' a = some (.frz od (.dK kws)) ∧ KeepT H' (upd H' a (.dK kws)) ∧ Step C ρ H ρ' (upd H' a (.dK kws)) (st'.set r (.dct kvs)) := by
  have e1 : H' a = some (.frz od (.dK kws)) := s.ext a _ upd_same (.inr ⟨_, _, rfl⟩)
  have ha' := s.pre r a ha
  have kt : KeepT H' (upd H' a (.dK kws)) := by
    refine ⟨fun b o vs e => ?_, fun b o vs e => ?_, fun b fs e => ?_⟩ <;>
    · rw [upd_ne]
      · exact e
      · rintro rfl
        rw [e1] at e
        cases e
  have s' := lock_step R ha h s
  refine ⟨e1, kt, s'.pre, ⟨by simp [s'.rel.len], s'.rel.nd, fun j b ob h1 h2 => ?_⟩, fun b o e m => ?_, s'.new⟩
  · by_cases hj : j = r
    · subst hj
      rw [ha'] at h1
      cases h1
      rw [List.getElem?_set_self (List.getElem?_eq_some_iff.mp hs).1] at h2
      cases h2
      obtain ⟨kw2, o2, q, rk⟩ := s.rel.obj j a _ ha' hs
      rw [e1] at q
      cases q
      exact ⟨kws, upd_same, RelKV.monoT (Pre.refl _) kt _ _ rk⟩
    · rw [List.getElem?_set_ne (Ne.symm hj)] at h2
      have nb : b ≠ a := fun e => by
        subst e
        obtain ⟨l1, e1⟩ := List.getElem?_eq_some_iff.mp h1
        obtain ⟨l2, e2⟩ := List.getElem?_eq_some_iff.mp ha'
        exact hj ((List.getElem_inj s'.rel.nd).mp (e1.trans e2.symm))
      exact (s'.rel.obj j b ob h1 h2).monoT (Pre.refl _) kt (upd_ne nb)
  · rw [upd_ne]
    · exact s'.ext b o e m
    · rintro rfl
      rcases m with m | ⟨x, y, rfl⟩
      · exact m (List.mem_of_getElem? ha)
      · rw [h] at e
        cases e
theorem PE_or {e : Expr} {t t' : TE} (h : PE X e t) (h' : PE X e t') : PE X e (fun σ H Q => t σ H Q ∨ t' σ H Q) := ⟨fun pins s σ H Q I w => w.elim (h.run pins s σ H Q I) (h'.run pins s σ H Q I)⟩
theorem s_lock {e : Expr} {m : M D} {i : Nat} (h : PE X e (tE C W Φ m)) : PE X e (tE C W Φ (lkM i m)) := by
  refine PE_imp (PE_or (pe_lock h) h) fun σ H Q w => ?_
  obtain ⟨ρ, env, st, hE, R, p⟩ := w
  unfold lkM at p
  split at p
  · next rr he =>
    split at p
    · next kvs hs =>
      obtain ⟨v, hv, rv⟩ := hE.2 i _ he
      obtain ⟨a, ha, rfl⟩ := rel_ref_iff.mp rv
      obtain ⟨kws, hk, rk⟩ := R.dct ha hs
      refine .inl ⟨a, .dK kws, hk, trivial, fun od => ⟨ρ, env, _, hE.mono (Pre.refl _) (lock_keep hk), lock_rel R ha hs hk, ?_⟩⟩
      cases hm : m Φ env (st.set rr (.fdc kvs)) with
      | bad => rw [hm] at p; exact p.elim
      | exc x st1 =>
        rw [hm] at p
        exact fun dx H' ρ' s r => p dx H' ρ' (lock_step R ha hk s) r
      | ok d st1 =>
        rw [hm] at p
        simp only [Res.bind] at p
        split at p
        · next kvs2 hs2 =>
          intro b H' ρ' s r
          obtain ⟨e1, kt, s'⟩ := unlock_step R ha hk s hs2
          exact ⟨e1, p b _ ρ' s' (RelD.monoT (Pre.refl _) kt _ _ r)⟩
        · exact p.elim
    · exact .inr ⟨ρ, env, st, hE, R, p⟩
  · exact .inr ⟨ρ, env, st, hE, R, p⟩
end
end EV

-- part EvStmt
set_option Elab.async false
set_option linter.all false
set_option maxRecDepth 100000
/-! What the evaluator's statements promise: rule by rule. -/
namespace EV
open PySem PySem.Spec PyProof.Rows L2

/-- whatever end it comes to is wanted -/
def PostS (C : Ctx) (ρ : List Addr) (H : Hp) (Z : Ends) (W : WX) : SR → Prop
  | .nx env' st' => ∀ σ' H' ρ', Step C ρ H ρ' H' st' → EnvR C ρ' H' env' σ' → Z.nx σ' H'
  | .bk env' st' => ∀ σ' H' ρ', Step C ρ H ρ' H' st' → EnvR C ρ' H' env' σ' → Z.bk σ' H'
  | .ct env' st' => ∀ σ' H' ρ', Step C ρ H ρ' H' st' → EnvR C ρ' H' env' σ' → Z.ct σ' H'
  | .rt d st' => ∀ v H' ρ', Step C ρ H ρ' H' st' → RelD C ρ' H' d v → Z.rt v H'
  | .exc x env' st' => ∀ dx σ' H' ρ', Step C ρ H ρ' H' st' → EnvR C ρ' H' env' σ' → ExcR C ρ' H' x dx → W (.ref (C.ca x.cls)) (some dx) σ' H'
  | .bad => False
def tS (C : Ctx) (W : WX) (Φ : Call) (m : S) : TS := fun Z σ H => ∃ (ρ : List Addr) (env : Env) (st : Sto), EnvR C ρ H env σ ∧ Rel C ρ H st ∧ PostS C ρ H Z W (m Φ env st)
section
variable {C : Ctx} {W : WX} {Φ : Call} {X : Cx} {ρ ρ1 : List Addr} {H H1 : Hp} {Z : Ends} {st st1 : Sto} {env : Env} {σ : L2.St}
theorem PostS.at_ {r : SR} (p : PostS C ρ H Z W r) (s : Step C ρ H ρ1 H1 st1) : PostS C ρ1 H1 Z W r := by
  cases r with
  | nx e t => exact fun σ' H' ρ' s' => p σ' H' ρ' (s.trans s')
  | bk e t => exact fun σ' H' ρ' s' => p σ' H' ρ' (s.trans s')
  | ct e t => exact fun σ' H' ρ' s' => p σ' H' ρ' (s.trans s')
  | rt d t => exact fun v H' ρ' s' => p v H' ρ' (s.trans s')
  | exc x e t => exact fun dx σ' H' ρ' s' => p dx σ' H' ρ' (s.trans s')
  | bad => exact p
theorem tM_S {α β : Type} {rel : List Addr → Hp → Sto → α → β → Prop} {m : M α} {k : α → Sto → SR} (hE : EnvR C ρ H env σ) (R : Rel C ρ H st) (p : PostS C ρ H Z W (liftR env (m Φ env st) k)) :
    tM C W Φ rel m σ H (After C ρ H env σ rel fun ρ1 H1 st1 a _ => PostS C ρ1 H1 Z W (k a st1)) := by
  refine ⟨ρ, env, st, hE, R, ?_⟩
  cases h : m Φ env st with
  | bad => rw [h] at p; exact p.elim
  | exc x s =>
    rw [h] at p
    exact fun dx H' ρ' s' r => p dx σ H' ρ' s' (s'.env R hE) r
  | ok a s =>
    rw [h] at p
    exact fun b H' ρ' s' r => ⟨a, s, ρ', s', s'.env R hE, r, PostS.at_ p s'⟩
theorem PS_imp {s : Stmt} {t t' : TS} (h : PS X s t) (k : ∀ Z σ H, t' Z σ H → t Z σ H) : PS X s t' := ⟨fun pins sh σ H Z I w => h.run pins sh σ H Z I (k Z σ H w)⟩
theorem PSs_imp {s : List Stmt} {t t' : TS} (h : PSs X s t) (k : ∀ Z σ H, t' Z σ H → t Z σ H) : PSs X s t' := ⟨fun pins sh σ H Z I w => h.run pins sh σ H Z I (k Z σ H w)⟩
theorem PS_or {s : Stmt} {t t' : TS} (h : PS X s t) (h' : PS X s t') : PS X s (fun Z σ H => t Z σ H ∨ t' Z σ H) := ⟨fun pins sh σ H Z I w => w.elim (h.run pins sh σ H Z I) (h'.run pins sh σ H Z I)⟩
variable {a b c e tg : Expr} {es : List Expr} {ma mb mc m : M D} {mt : M Bool} {ms : M (List D)} {pos : Pos} {s : Stmt} {r ss : List Stmt} {p q : S}
theorem st_nil : PSs X [] (tS C W Φ nilS) := by
  refine PSs_imp pss_nil fun Z σ H w => ?_
  obtain ⟨ρ, env, st, hE, R, p⟩ := w
  exact p σ H ρ (Step.refl R) hE
theorem seq_tS {Z : Ends} {σ : L2.St} {H : Hp} (w : tS C W Φ (seqS p q) Z σ H) : tSeq (tS C W Φ p) (tS C W Φ q) Z σ H := by
  obtain ⟨ρ, env, st, hE, R, pp⟩ := w
  refine ⟨ρ, env, st, hE, R, ?_⟩
  unfold seqS at pp
  cases h : p Φ env st with
  | nx env1 st1 =>
    rw [h] at pp
    exact fun σ' H' ρ' s' hE' => ⟨ρ', env1, st1, hE', s'.rel, PostS.at_ pp s'⟩
  | bk e t => rw [h] at pp; exact pp
  | ct e t => rw [h] at pp; exact pp
  | rt d t => rw [h] at pp; exact pp
  | exc x e t => rw [h] at pp; exact pp
  | bad => rw [h] at pp; exact pp
theorem st_cons (h1 : PS X s (tS C W Φ p)) (h2 : PSs X r (tS C W Φ q)) : PSs X (s :: r) (tS C W Φ (seqS p q)) := PSs_imp (pss_cons h1 h2) fun _ _ _ w => seq_tS w
theorem st_expr (he : PE X e (tE C W Φ m)) (hs : swapsWith e none pos.line X.env = pure false) : PS X (.Expr e pos) (tS C W Φ (exprS m)) := by
  refine PS_imp (ps_expr he hs) fun Z σ H w => ?_
  obtain ⟨ρ, env, st, hE, R, p⟩ := w
  refine tM_imp (tM_S hE R p) ?_
  rintro x H1 ⟨d1, st1, ρ1, s1, hE1, r1, p1⟩
  exact p1 σ H1 ρ1 (Step.refl s1.rel) hE1
theorem st_ret (he : PE X e (tE C W Φ m)) : PS X (.Return (some e) pos) (tS C W Φ (retS m)) := by
  refine PS_imp (ps_ret he) fun Z σ H w => ?_
  obtain ⟨ρ, env, st, hE, R, p⟩ := w
  refine tM_imp (tM_S hE R p) ?_
  rintro x H1 ⟨d1, st1, ρ1, s1, hE1, r1, p1⟩
  exact p1 x H1 ρ1 (Step.refl s1.rel) r1
theorem st_ret0 : PS X (.Return none pos) (tS C W Φ (retS (cstM .non))) := by
  refine PS_imp ps_retN fun Z σ H w => ?_
  obtain ⟨ρ, env, st, hE, R, p⟩ := w
  exact p .non H ρ (Step.refl R) rel_non
theorem asg_tS {g : Tg} {is : List Nat} {tp : Bool} {Z : Ends} {σ : L2.St} {H : Hp} (w : tS C W Φ (asgS g m) Z σ H) : tAsg (tE C W Φ m) (tG C is tp g) Z σ H := by
  obtain ⟨ρ, env, st, hE, R, p⟩ := w
  refine tM_imp (tM_S hE R p) ?_
  rintro x H1 ⟨d1, st1, ρ1, s1, hE1, r1, p1⟩
  split at p1
  · next env1 h1 => exact ⟨ρ1, env, st1, d1, env1, hE1, s1.rel, .inl r1, h1, fun σ' _ hE' => p1 σ' H1 ρ1 (Step.refl s1.rel) hE'⟩
  · exact p1.elim
theorem st_asg {g : Tg} {is : List Nat} {tp : Bool} (he : PE X e (tE C W Φ m)) (hg : PG X tg (tG C is tp g)) (hs : swapsWithSole [tg] e pos.line X.env = pure false) (hw : swappedStores [tg] e X.env = pure none)
    (h1 : (assignEach [tg] X.env).map (·.2) = [assign tg X.env]) : PS X (.Assign [tg] e pos) (tS C W Φ (asgS g m)) := PS_imp (ps_asg he hg hs hw h1) fun _ _ _ w => asg_tS w
theorem st_break : PS X (.Break pos) (tS C W Φ breakS) := by
  refine PS_imp ps_break fun Z σ H w => ?_
  obtain ⟨ρ, env, st, hE, R, p⟩ := w
  exact p σ H ρ (Step.refl R) hE
theorem st_cont : PS X (.Continue pos) (tS C W Φ contS) := by
  refine PS_imp ps_continue fun Z σ H w => ?_
  obtain ⟨ρ, env, st, hE, R, p⟩ := w
  exact p σ H ρ (Step.refl R) hE
theorem st_pass : PS X (.Pass pos) (tS C W Φ nilS) := by
  refine PS_imp ps_pass fun Z σ H w => ?_
  obtain ⟨ρ, env, st, hE, R, p⟩ := w
  exact p σ H ρ (Step.refl R) hE
theorem st_if (hc : PT X c (tT C W Φ mt)) (ha : PSs X r (tS C W Φ p)) (hb : PSs X ss (tS C W Φ q)) : PS X (.If c r ss pos) (tS C W Φ (ifS mt p q)) := by
  refine PS_imp (ps_if hc ha hb) fun Z σ H w => ?_
  obtain ⟨ρ, env, st, hE, R, p⟩ := w
  refine tM_imp (tM_S hE R p) ?_
  rintro x H1 ⟨d1, st1, ρ1, s1, hE1, rfl, p1⟩
  cases d1 with
  | true => exact ⟨ρ1, env, st1, hE1, s1.rel, p1⟩
  | false => exact ⟨ρ1, env, st1, hE1, s1.rel, p1⟩
/-- a loop's body: what is wanted behind a turn -/
theorem turn_tS {Z : Ends} {N : L2.St → Hp → Prop} {k : Env → Sto → SR} {rb : SR} (p : PostS C ρ H Z W (match rb with
      | .nx env2 st2 => k env2 st2
      | .ct env2 st2 => k env2 st2
      | .bk env2 st2 => .nx env2 st2
      | r => r)) (hN : ∀ env2 st2 σ' H' ρ', Step C ρ H ρ' H' st2 → EnvR C ρ' H' env2 σ' → PostS C ρ' H' Z W (k env2 st2) → N σ' H') : PostS C ρ H { Z with nx := N, ct := N, bk := Z.nx } W rb := by
  cases rb with
  | nx env2 st2 => exact fun σ' H' ρ' s hE => hN env2 st2 σ' H' ρ' s hE (PostS.at_ p s)
  | ct env2 st2 => exact fun σ' H' ρ' s hE => hN env2 st2 σ' H' ρ' s hE (PostS.at_ p s)
  | bk env2 st2 => exact p
  | rt d t => exact p
  | exc x e t => exact p
  | bad => exact p
theorem st_for {it : M EV.It} {g : Tg} {is : List Nat} {tp : Bool} (hp : PassesOwn (model X.prog X.w) X.A X.env X.xe) (hc : X.calm = true) (hi : PI X tg e (tI C W Φ tp it)) (hg : PG X tg (tG C is tp g)) (hb : PSs X r (tS C W Φ p))
    (hs : ∀ x, foldedSetIterable e X.env x = pure x) : PS X (.For tg e r [] pos) (tS C W Φ (forS it g p)) := by
  refine PS_imp (ps_for hp hc hi hg hb hs) fun Z σ H w => ?_
  obtain ⟨ρ, env, st, hE, R, pp⟩ := w
  refine tM_imp (tM_S hE R pp) ?_
  rintro J H1 ⟨i, st1, ρ1, s1, hE1, hJ, p1⟩
  refine ⟨fun n m σ' H' => ∃ (ρ' : List Addr) (env' : Env) (st' : Sto), Step C ρ1 H1 ρ' H' st' ∧ EnvR C ρ' H' env' σ' ∧ PostS C ρ' H' Z W (forGo i g (p Φ) m n env' st'), ⟨wfuel, ρ1, env, st1, Step.refl s1.rel, hE1, p1⟩, ?_⟩
  rintro n m σ2 H2 ⟨ρ2, env2, st2, s2, hE2, p2⟩
  cases m with
  | zero => exact p2.elim
  | succ m =>
    have hJ2 := hJ ρ2 H2 st2 n s2.pre (step_keep s1.rel s2) s2.rel
    unfold forGo at p2
    split at p2
    · exact p2.elim
    · next h => exact .inl ⟨hJ2.1 h, p2 σ2 H2 ρ2 (Step.refl s2.rel) hE2⟩
    · next d h =>
      obtain ⟨go, yl⟩ := hJ2.2 d h
      refine .inr ⟨go, fun σ' H' => ∃ (ρ' : List Addr) (env' : Env) (st' : Sto), Step C ρ1 H1 ρ' H' st' ∧ EnvR C ρ' H' env' σ' ∧ PostS C ρ' H' Z W (forGo i g (p Φ) m (n + 1) env' st'), fun σ' H' h => ⟨m, Nat.lt_succ_self _, h⟩, fun x H3 hy => ?_⟩
      obtain ⟨s3, rg⟩ := yl x H3 hy
      split at p2
      · exact p2.elim
      · next env1 h1 =>
        refine ⟨ρ2, env2, st2, d, env1, s3.env s2.rel hE2, s3.rel, rg, h1, fun σ4 _ hE4 => ⟨ρ2, env1, st2, hE4, s3.rel, ?_⟩⟩
        exact turn_tS (PostS.at_ p2 s3) fun env5 st5 σ5 H5 ρ5 s5 hE5 p5 => ⟨ρ5, env5, st5, (s2.trans s3).trans s5, hE5, p5⟩
theorem st_while (hp : PassesOwn (model X.prog X.w) X.A X.env X.xe) (hc : PT X c (tT C W Φ mt)) (hb : PSs X r (tS C W Φ p)) : PS X (.While c r [] pos) (tS C W Φ (whileS mt p)) := by
  refine PS_imp (ps_while hp hc hb) fun Z σ H w => ?_
  obtain ⟨ρ, env, st, hE, R, pp⟩ := w
  refine ⟨fun m σ' H' => ∃ (ρ' : List Addr) (env' : Env) (st' : Sto), EnvR C ρ' H' env' σ' ∧ Rel C ρ' H' st' ∧ PostS C ρ' H' Z W (whileGo (mt Φ) (p Φ) m env' st'), ⟨wfuel, ρ, env, st, hE, R, pp⟩, ?_⟩
  rintro m σ2 H2 ⟨ρ2, env2, st2, hE2, R2, p2⟩
  cases m with
  | zero => exact p2.elim
  | succ m =>
    unfold whileGo at p2
    refine tM_imp (tM_S (m := mt) hE2 R2 p2) ?_
    rintro x H3 ⟨d3, st3, ρ3, s3, hE3, rfl, p3⟩
    cases d3 with
    | false => exact p3 σ2 H3 ρ3 (Step.refl s3.rel) hE3
    | true =>
      rw [if_pos rfl] at p3 ⊢
      refine ⟨fun σ' H' => ∃ (ρ' : List Addr) (env' : Env) (st' : Sto), EnvR C ρ' H' env' σ' ∧ Rel C ρ' H' st' ∧ PostS C ρ' H' Z W (whileGo (mt Φ) (p Φ) m env' st'), fun σ' H' h => ⟨m, Nat.lt_succ_self _, h⟩, ρ3, env2, st3, hE3, s3.rel, ?_⟩
      exact turn_tS p3 fun env5 st5 σ5 H5 ρ5 s5 hE5 p5 => ⟨ρ5, env5, st5, hE5, s5.rel, p5⟩
end
end EV

-- part EvStmt2
set_option Elab.async false
set_option linter.all false
set_option maxRecDepth 100000
/-! Locks, stores into containers, raise, try, calls. -/
namespace EV
open PySem PySem.Spec PyProof.Rows L2
section
variable {C : Ctx} {W : WX} {Φ : Call} {X : Cx} {ρ ρ1 : List Addr} {H H1 : Hp} {Z : Ends} {st st1 : Sto} {env : Env} {σ : L2.St}
variable {a b c e tg : Expr} {es : List Expr} {ma mb mc m : M D} {mt : M Bool} {ms : M (List D)} {pos : Pos} {s : Stmt} {r ss : List Stmt} {p q : S}
theorem EnvR.monoT {C : Ctx} {ρ ρ' : List Addr} {H H' : Hp} {env : Env} {σ : L2.St} (h : EnvR C ρ H env σ) (p : Pre ρ ρ') (k : KeepT H H') : EnvR C ρ' H' env σ :=
  ⟨h.1, fun i d e => let ⟨v, q, r⟩ := h.2 i d e; ⟨v, q, RelD.monoT p k d v r⟩⟩
theorem st_lock {i : Nat} (h : PS X s (tS C W Φ p)) : PS X s (tS C W Φ (lkS i p)) := by
  refine PS_imp (PS_or (ps_lock h) h) fun Z σ H w => ?_
  obtain ⟨ρ, env, st, hE, R, pp⟩ := w
  unfold lkS at pp
  split at pp
  · next rr he =>
    split at pp
    · next kvs hs =>
      obtain ⟨v, hv, rv⟩ := hE.2 i _ he
      obtain ⟨a, ha, rfl⟩ := rel_ref_iff.mp rv
      obtain ⟨kws, hk, rk⟩ := R.dct ha hs
      refine .inl ⟨a, .dK kws, hk, trivial, fun od => ⟨ρ, env, _, hE.mono (Pre.refl _) (lock_keep hk), lock_rel R ha hs hk, ?_⟩⟩
      have un : ∀ {env1 : Env} {st1 : Sto} {k : Env → Sto → SR}, PostS C ρ H Z W (unlk rr env1 st1 k) → ∃ kvs2, st1[rr]? = some (.fdc kvs2) ∧ PostS C ρ H Z W (k env1 (st1.set rr (.dct kvs2))) := by
        intro env1 st1 k hp
        unfold unlk at hp
        split at hp
        · next kvs2 h2 => exact ⟨kvs2, h2, hp⟩
        · exact hp.elim
      cases hm : p Φ env (st.set rr (.fdc kvs)) with
      | bad => rw [hm] at pp; exact pp.elim
      | exc x e2 st1 =>
        rw [hm] at pp
        exact fun dx σ' H' ρ' s hE' r => pp dx σ' H' ρ' (lock_step R ha hk s) hE' r
      | nx env1 st1 =>
        rw [hm] at pp
        obtain ⟨kvs2, hs2, pp⟩ := un pp
        intro σ' H' ρ' s hE'
        obtain ⟨e1, kt, s'⟩ := unlock_step R ha hk s hs2
        exact ⟨e1, pp σ' _ ρ' s' (hE'.monoT (Pre.refl _) kt)⟩
      | bk env1 st1 =>
        rw [hm] at pp
        obtain ⟨kvs2, hs2, pp⟩ := un pp
        intro σ' H' ρ' s hE'
        obtain ⟨e1, kt, s'⟩ := unlock_step R ha hk s hs2
        exact ⟨e1, pp σ' _ ρ' s' (hE'.monoT (Pre.refl _) kt)⟩
      | ct env1 st1 =>
        rw [hm] at pp
        obtain ⟨kvs2, hs2, pp⟩ := un pp
        intro σ' H' ρ' s hE'
        obtain ⟨e1, kt, s'⟩ := unlock_step R ha hk s hs2
        exact ⟨e1, pp σ' _ ρ' s' (hE'.monoT (Pre.refl _) kt)⟩
      | rt d st1 =>
        rw [hm] at pp
        obtain ⟨kvs2, hs2, pp⟩ := un pp
        intro v H' ρ' s rv
        obtain ⟨e1, kt, s'⟩ := unlock_step R ha hk s hs2
        exact ⟨e1, pp v _ ρ' s' (RelD.monoT (Pre.refl _) kt _ _ rv)⟩
    · exact .inr ⟨ρ, env, st, hE, R, pp⟩
  · exact .inr ⟨ρ, env, st, hE, R, pp⟩

/-! ### o[i] = v -/
def rPut (C : Ctx) : TSet := fun o i v H Q => ∃ (ρ : List Addr) (st : Sto) (x y z : D) (st' : Sto), RelD C ρ H x o ∧ RelD C ρ H y i ∧ RelD C ρ H z v ∧ Rel C ρ H st ∧ putF x y z st = some st' ∧ ∀ H', Step C ρ H ρ H' st' → Q H'
theorem RelKV.length {ρ : List Addr} {H : Hp} : ∀ {kvs : List (D × D)} {vs : List (Key × V)}, RelKV C ρ H kvs vs → kvs.length = vs.length
  | [], vs, h => by rw [show vs = [] from h]; rfl
  | p :: t, vs, h => by
    obtain ⟨k, v, r, rfl, _, _, h3⟩ := h
    exact congrArg (· + 1) (RelKV.length h3)
theorem put_ok (hu : X.A.units + 65 < cLine) : PSet X (rPut C) := by
  rintro pins s σ H o i v ov iv u Q I ro ri rv ⟨ρ, st, x, y, z, st', rx, ry, rz, R, e, k⟩
  cases x with
  | ref r =>
    obtain ⟨a, ha, rfl⟩ := rel_ref_iff.mp rx
    simp only [putF] at e
    split at e
    · next xs j hs =>
      obtain ⟨vs, q, rs⟩ := R.lst ha hs
      obtain ⟨n, hn, rfl⟩ := Option.map_eq_some_iff.mp e
      obtain rfl := rel_int_iff.mp ry
      refine set_list pins s σ H _ _ v ov iv u Q I ro ri rv ⟨a, vs, j, n, rfl, rfl, q, by rw [← rs.length]; exact hn, k _ ?_⟩
      exact Step.write R ha (fun b w t => by rw [q] at t; cases t) fun kk => ⟨_, upd_same, RelDs.set n (RelDs.mono (Pre.refl _) kk _ _ rs) (RelD.mono (Pre.refl _) kk _ _ rz)⟩
    · next kvs hs =>
      split at e
      · next h =>
        cases e
        rw [Bool.and_eq_true] at h
        obtain ⟨vs, q, rk⟩ := R.dct ha hs
        obtain ⟨kk, rfl, rkk⟩ := keyOk_rel h.1 ry
        have hl : vs.length < sizeLine := by
          rw [← rk.length, ← line_eq]
          exact Nat.blt_eq.mp h.2
        cases ro
        refine d_setItem (by omega) I (DPut.k (k := kk) (v := v) q hl) ri rv fun s' I' => ⟨_, I', k _ ?_⟩
        exact Step.write R ha (fun b w t => by rw [q] at t; cases t) fun kp => ⟨_, upd_same, putKV_rel rkk (RelD.mono (Pre.refl _) kp _ _ rz) (RelKV.mono (Pre.refl _) kp _ _ rk)⟩
      · cases e
    · cases e
  | _ => cases e
theorem st_put {tpos : Pos} (hu : X.A.units + 65 < cLine) (ha : PE X a (tE C W Φ ma)) (hb : PE X b (tE C W Φ mb)) (he : PE X e (tE C W Φ m)) (hsl : notSlice b = true) (hs : swapsWith e (some (.Subscript a b tpos)) pos.line X.env = pure false) :
    PS X (.Assign [.Subscript a b tpos] e pos) (tS C W Φ (putS ma mb m)) := by
  have hg : PG X (.Subscript a b tpos) (gSub (tE C W Φ ma) (tE C W Φ mb) (rPut C)) := pg_sub ha hb (put_ok hu) fun v => by
    cases b <;> first | rfl | cases hsl
  refine PS_imp (ps_asg he hg hs (by rfl) (by rfl)) fun Z σ H w => ?_
  obtain ⟨ρ, env, st, hE, R, p⟩ := w
  refine tM_imp (tM_S hE R p) ?_
  rintro v H1 ⟨d1, st1, ρ1, s1, hE1, r1, p1⟩
  refine tM_imp (tM_S (m := ma) hE1 s1.rel p1) ?_
  rintro o H2 ⟨d2, st2, ρ2, s2, hE2, r2, p2⟩
  refine tM_imp (tM_S (m := mb) hE2 s2.rel p2) ?_
  rintro i H3 ⟨d3, st3, ρ3, s3, hE3, r3, p3⟩
  split at p3
  · next st4 h4 => exact ⟨ρ3, st3, d2, d3, d1, st4, s3.val s2.rel r2, r3, (s2.trans s3).val s1.rel r1, s3.rel, h4, fun H' s' => p3 σ H' ρ3 s' (s'.env s3.rel hE3)⟩
  · exact p3.elim

/-! ### calls of the text's own functions -/
/-- what the function's evaluator promises of the function -/
def spF (C : Ctx) (n : Nat) (g : List D → Sto → Res D) : Sp := fun vs H Q E => ∃ (ρ : List Addr) (ds : List D) (st : Sto), RelDs C ρ H ds vs ∧ ds.length = n ∧ Rel C ρ H st ∧ Post C ρ H (relV C) Q E (g ds st)
/-- a function of the text, as calls reach it -/
structure FnA (C : Ctx) (X : Cx) (x : Str) (ps : List Str) (g : List D → Sto → Res D) (f : Addr) (k : Nat) (fd : FuncData) : Prop where
  mg : X.mg x = some (.ref f)
  keep : PySem.W.keepIn X.K (.ref f) = true
  room : Room k X.A
  ok : FnOk X.prog X.w X.K X.mg X.base (L2.CX X.prog X.w) k f fd ps (spF C ps.length g)
  bind : Binds X.K fd ps []
theorem s_call {x : Str} {ps : List Str} {f k : Nat} {fa : Addr} {fd : FuncData} {p : Pos} (F : FnA C X x ps (Φ f) fa k fd) (tk : Takes X W) (hg : Gl X x) (hd : (x == ("__debug__" : Str)) = false) (hp : plains (e :: es) = true) (ha : PA X (e :: es) (tA C W Φ ms)) :
    PE X (.Call (.Name x p) (e :: es) [] pos) (tE C W Φ (callM f ps.length ms)) := by
  simp only [plains, Bool.and_eq_true] at hp
  refine PE_imp (pe_callSD F.ok F.room hg F.mg F.keep F.bind .nil (passAt tk) ha hd (star_no hp.1) (plains_any pos es hp.2)) fun σ H Q w => ?_
  obtain ⟨ρ, env, st, hE, R, p⟩ := w
  refine tM_imp (tM_bind hE R p) ?_
  rintro vs H1 ⟨ds, st1, ρ1, s1, hE1, r1, p1⟩
  rw [List.append_nil]
  split at p1
  · next h => exact ⟨ρ1, ds, st1, r1, h, s1.rel, p1⟩
  · exact p1.elim
/-- a call of a function without parameters -/
theorem pe_call0SD {CX : CXT} {k : Nat} {f : Addr} {fd : FuncData} {ps : List Str} {sp : Sp} {x : Str} {p : Pos} {E : L2.St → XK} (F : FnOk X.prog X.w X.K X.mg X.base CX k f fd ps sp) (hr : Room k X.A) (hg : Gl X x) (hm : X.mg x = some (.ref f)) (hk : PySem.W.keepIn X.K (.ref f) = true) (hb : Binds X.K fd ps [])
    (hx : ∀ σ, PassesAt CX X σ (E σ)) (hdb : (x == ("__debug__" : Str)) = false) : PE X (.Call (.Name x p) [] [] pos) (fun σ H Q => sp [] H Q (E σ)) :=
  ⟨fun pins s σ H Q I h => wpAny_Call_Name_kw (ld_glob I hg hm (PySem.W.callWith_K0 I.kIn hk (run_fnSD (us := []) (vs := []) F hr hb .nil (hx σ) I .nil h)) hdb)⟩
theorem s_call0 {x : Str} {ps : List Str} {f k : Nat} {fa : Addr} {fd : FuncData} {p : Pos} (F : FnA C X x ps (Φ f) fa k fd) (tk : Takes X W) (hg : Gl X x) (hd : (x == ("__debug__" : Str)) = false) :
    PE X (.Call (.Name x p) [] [] pos) (tE C W Φ (callM f ps.length nilA)) := by
  refine PE_imp (pe_call0SD F.ok F.room hg F.mg F.keep F.bind (passAt tk) hd) fun σ H Q w => ?_
  obtain ⟨ρ, env, st, hE, R, p⟩ := w
  have p : Post C ρ H (relV C) Q _ (if ([] : List D).length = ps.length then Φ f [] st else .bad) := p
  split at p
  · next h => exact ⟨ρ, [], st, rels_nil_iff.mpr rfl, h, R, p⟩
  · exact p.elim
/-! ### a, b = x, y -/
theorem st_par2 {i j : Nat} {x y : Str} {px py pt : Pos} {kt k2 : Nat} {pt2 : Pos} (hc : X.calm = true) (hN : X.N.Nodup) (hi : X.N[i]? = some x) (hj : X.N[j]? = some y) (hij : i ≠ j)
    (hx : X.env.scope.names.lookup x = some .local) (hy : X.env.scope.names.lookup y = some .local) (ha : PA X [a, b] (tA C W Φ ms))
    (hw : swappedStores [.Tuple [.Name x px, .Name y py] kt pt] (.Tuple [a, b] k2 pt2) X.env = pure (some [x, y])) :
    PS X (.Assign [.Tuple [.Name x px, .Name y py] kt pt] (.Tuple [a, b] k2 pt2) pos) (tS C W Φ (par2S i j ms)) := by
  refine PS_imp (ps_par hc hN hi hj hij hx hy ha hw) fun Z σ H w => ?_
  obtain ⟨ρ, env, st, hE, R, p⟩ := w
  refine tM_imp (tM_S hE R p) ?_
  rintro vs H1 ⟨ds, st1, ρ1, s1, hE1, r1, p1⟩
  match ds, r1, p1 with
  | [d, e], r1, p1 =>
    simp only [RelDs] at r1
    obtain ⟨v, _, rfl, rv, w, _, rfl, rw', rfl⟩ := r1
    exact ⟨v, w, rfl, p1 _ _ ρ1 (Step.refl s1.rel) ((hE1.set rv).set rw')⟩
  | [], _, p1 => exact p1.elim
  | [_], _, p1 => exact p1.elim
  | _ :: _ :: _ :: _, _, p1 => exact p1.elim
theorem st_par3 {i j l : Nat} {x y z : Str} {px py pz pt : Pos} {kt k2 : Nat} {pt2 : Pos} (hc : X.calm = true) (hN : X.N.Nodup) (hi : X.N[i]? = some x) (hj : X.N[j]? = some y) (hl : X.N[l]? = some z) (hij : i ≠ j) (hil : i ≠ l) (hjl : j ≠ l)
    (hx : X.env.scope.names.lookup x = some .local) (hy : X.env.scope.names.lookup y = some .local) (hz : X.env.scope.names.lookup z = some .local) (ha : PA X [a, b, c] (tA C W Φ ms))
    (hw : swappedStores [.Tuple [.Name x px, .Name y py, .Name z pz] kt pt] (.Tuple [a, b, c] k2 pt2) X.env = pure (some [x, y, z])) :
    PS X (.Assign [.Tuple [.Name x px, .Name y py, .Name z pz] kt pt] (.Tuple [a, b, c] k2 pt2) pos) (tS C W Φ (par3S i j l ms)) := by
  refine PS_imp (ps_par3 hc hN hi hj hl hij hil hjl hx hy hz ha hw) fun Z σ H w => ?_
  obtain ⟨ρ, env, st, hE, R, p⟩ := w
  refine tM_imp (tM_S hE R p) ?_
  rintro vs H1 ⟨ds, st1, ρ1, s1, hE1, r1, p1⟩
  match ds, r1, p1 with
  | [d, e, f], r1, p1 =>
    simp only [RelDs] at r1
    obtain ⟨v, _, rfl, rv, w, _, rfl, rw', u, _, rfl, ru, rfl⟩ := r1
    exact ⟨v, w, u, rfl, p1 _ _ ρ1 (Step.refl s1.rel) (((hE1.set rv).set rw').set ru)⟩
  | [], _, p1 => exact p1.elim
  | [_], _, p1 => exact p1.elim
  | [_, _], _, p1 => exact p1.elim
  | _ :: _ :: _ :: _ :: _, _, p1 => exact p1.elim
/-- the keywords of a call -/
theorem k_nil : PK X [] (tA C W Φ nilA) := ⟨fun pos pins s σ H Q I w => by
  obtain ⟨ρ, env, st, hE, R, p⟩ := w
  exact pk_nil.run pos pins s σ H Q I (Post.ok (b := []) R p (rels_nil_iff.mpr rfl))⟩
theorem k_cons {nm : Option Str} {kpos : Pos} {kws : List Keyword} (ha : PE X e (tE C W Φ ma)) (hr : PK X kws (tA C W Φ ms)) : PK X (⟨nm, e, kpos⟩ :: kws) (tA C W Φ (consA ma ms)) := ⟨fun pos pins s σ H Q I w => by
  refine (pk_cons (nm := nm) (kpos := kpos) ha hr).run pos pins s σ H Q I ?_
  obtain ⟨ρ, env, st, hE, R, p⟩ := w
  refine tM_imp (tM_bind hE R p) ?_
  rintro x H1 ⟨d1, st1, ρ1, s1, hE1, r1, p1⟩
  refine tM_imp (tM_bind hE1 s1.rel p1) ?_
  rintro xs H2 ⟨ds, st2, ρ2, s2, hE2, r2, p2⟩
  exact Post.ok (b := x :: xs) s2.rel p2 (rels_cons_iff.mpr ⟨x, xs, rfl, s2.val s1.rel r1, r2⟩)⟩
theorem pick_vals : ∀ (is : List Nat) {zs : List V} {ws : List Value}, Vals zs ws → Vals (pick is zs) (pick is ws)
  | [], _, _, _ => .nil
  | i :: is, zs, ws, r => by
    have ih := pick_vals is r
    unfold pick
    cases h : zs[i]? with
    | none =>
      have h2 : ws[i]? = none := by
        rw [List.getElem?_eq_none_iff] at h ⊢
        rw [← r.length]
        exact h
      rw [h2]
      exact ih
    | some v =>
      obtain ⟨u, hu, ru⟩ := r.get h
      rw [hu]
      exact .cons ru ih
theorem pick_rels {ρ : List Addr} {H : Hp} : ∀ (is : List Nat) {ds : List D} {vs : List V}, RelDs C ρ H ds vs → RelDs C ρ H (pick is ds) (pick is vs)
  | [], _, _, _ => rels_nil_iff.mpr rfl
  | i :: is, ds, vs, r => by
    have ih := pick_rels is r
    unfold pick
    cases h : ds[i]? with
    | none =>
      have h2 : vs[i]? = none := by
        rw [List.getElem?_eq_none_iff] at h ⊢
        rw [← r.length]
        exact h
      rw [h2]
      exact ih
    | some d =>
      obtain ⟨v, hv, rv⟩ := r.get h
      rw [hv]
      exact rels_cons_iff.mpr ⟨v, _, rfl, rv, ih⟩
/-- how a call with keywords binds -/
structure KwA (K : PySem.W.Frag) (fd : FuncData) (ps : List Str) (n : Nat) (ks : List Str) (is : List Nat) : Prop where
  to : ∀ (s : Shared) (us ws : List Value), K.In s.heap → us.length = n → ws.length = ks.length → BindsTo s fd ⟨us, ks.zip ws⟩ (ps.zip (us ++ pick is ws))
theorem run_kw {n k : Nat} {ps ks : List Str} {is : List Nat} {f : Addr} {fd : FuncData} {sp : Sp} {pins : List (Addr × Obj)} {σ : L2.St} {H : Hp} {s : Shared} {Q : VK} {us ws : List Value} {vs zs : List V} {E : L2.St → XK} (F : FnOk X.prog X.w X.K X.mg X.base (L2.CX X.prog X.w) k f fd ps sp) (hr : Room k X.A) (hb : KwA X.K fd ps n ks is) (hx : PassesAt (L2.CX X.prog X.w) X σ (E σ))
    (I : Inv X pins σ H s) (r : Vals vs us) (rz : Vals zs ws) (l1 : vs.length = n) (l2 : zs.length = ks.length) (h : sp (vs ++ pick is zs) H Q (E σ)) : wpAny (model X.prog X.w) X.A (call (.ref f) us (ks.zip ws)) (EP X pins σ Q) X.xe s := by
  have r2 := r.append (pick_vals is rz)
  refine wpAny_call (codeAny_mono (F.run X.A X.stack s H ⟨us, ks.zip ws⟩ (us ++ pick is ws) (vs ++ pick is zs) Q (E σ) hr I.env0 (hb.to s us ws I.kIn (by rw [← r.length]; exact l1) (by rw [← rz.length]; exact l2)) r2 h) fun res s' hq => ?_)
  cases res with
  | error err => exact hx pins H s err s' I hq
  | ok fl => cases fl <;> first | exact I.after hq | exact False.elim hq
theorem kw_all {pos : Pos} : ∀ {kws : List Keyword} {ks : List Str}, kwNames kws = some ks → (backToKw pos (keywordEach kws X.env)).all (·.1.isSome) = true ∧ (backToKw pos (keywordEach kws X.env)).filterMap (·.1) = ks ∧ (backToKw pos (keywordEach kws X.env)).any (·.1.isNone) = false
  | [], ks, h => by cases h; exact ⟨rfl, rfl, rfl⟩
  | ⟨none, v, kp⟩ :: r, ks, h => by cases h
  | ⟨some x, v, kp⟩ :: r, ks, h => by
    obtain ⟨l, hl, rfl⟩ := Option.map_eq_some_iff.mp (show (kwNames r).map (x :: ·) = some ks from h)
    obtain ⟨h1, h2, h3⟩ := kw_all (pos := pos) hl
    have e : ∃ t, backToKw pos (keywordEach (⟨some x, v, kp⟩ :: r) X.env) = (some x, t) :: backToKw pos (keywordEach r X.env) := ⟨_, rfl⟩
    obtain ⟨t, e⟩ := e
    rw [e]
    refine ⟨?_, ?_, ?_⟩
    · rw [List.all_cons, h1]
      rfl
    · rw [List.filterMap_cons, h2]
    · rw [List.any_cons, h3]
      rfl
theorem kw_tE {f n np nk : Nat} {is : List Nat} {mk : M (List D)} {σ : L2.St} {H : Hp} {Q : VK} (w : tE C W Φ (callK f n np nk is ms mk) σ H Q) :
    tA C W Φ ms σ H fun vs H1 => tA C W Φ mk σ H1 fun zs H2 => vs.length = np ∧ zs.length = nk ∧ spF C n (Φ f) (vs ++ pick is zs) H2 Q (WE W σ) := by
  obtain ⟨ρ, env, st, hE, R, p⟩ := w
  refine tM_imp (tM_bind hE R p) ?_
  rintro vs H1 ⟨ds, st1, ρ1, s1, hE1, r1, p1⟩
  refine tM_imp (tM_bind hE1 s1.rel p1) ?_
  rintro zs H2 ⟨es, st2, ρ2, s2, hE2, r2, p2⟩
  split at p2
  · next h => exact ⟨by rw [← r1.length]; exact h.1, by rw [← r2.length]; exact h.2.1, ρ2, _, st2, (s2.vals s1.rel r1).append (pick_rels is r2), h.2.2, s2.rel, p2⟩
  · exact p2.elim
/-- by keywords only -/
theorem s_callK0 {x : Str} {ps ks : List Str} {f k : Nat} {is : List Nat} {fa : Addr} {fd : FuncData} {p : Pos} {kws : List Keyword} {mk : M (List D)} (F : FnA C X x ps (Φ f) fa k fd) (B : KwA X.K fd ps 0 ks is) (tk : Takes X W) (hg : Gl X x) (hd : (x == ("__debug__" : Str)) = false) (hk : kwNames kws = some ks) (ha : PK X kws (tA C W Φ mk)) :
    PE X (.Call (.Name x p) [] kws pos) (tE C W Φ (callK f ps.length 0 ks.length is nilA mk)) := by
  refine ⟨fun pins s σ H Q I h => ?_⟩
  have h := kw_tE h
  obtain ⟨ρ, env, st, hE, R, p⟩ := h
  have h := Post.ok (b := []) R p (rels_nil_iff.mpr rfl)
  obtain ⟨k1, k2, k3⟩ := kw_all (X := X) (pos := pos) hk
  refine wpAny_Call_Name_kw (ld_glob I hg F.mg ?_ hd)
  refine PySem.W.callWith_KW0 (h₀ := X.base) I.ok.mod.kin F.keep k1 (thn (ha.run pos pins s σ H _ I h) fun ws s2 q2 => ?_) (by rw [k3]; rfl)
  obtain ⟨zs, H2, I2, rz, l1, l2, q⟩ := q2
  refine ⟨I2.kIn, ?_⟩
  rw [k2]
  exact run_kw (vs := []) (us := []) F.ok F.room B (passAt tk σ) I2 .nil rz rfl l2 q
/-- some written, the others by keywords -/
theorem s_callK {x : Str} {ps ks : List Str} {f k np : Nat} {is : List Nat} {fa : Addr} {fd : FuncData} {p : Pos} {kws : List Keyword} {mk : M (List D)} (F : FnA C X x ps (Φ f) fa k fd) (B : KwA X.K fd ps np ks is) (tk : Takes X W) (hg : Gl X x) (hd : (x == ("__debug__" : Str)) = false) (hp : plains (e :: es) = true)
    (hk : kwNames kws = some ks) (ha : PA X (e :: es) (tA C W Φ ms)) (hkw : PK X kws (tA C W Φ mk)) : PE X (.Call (.Name x p) (e :: es) kws pos) (tE C W Φ (callK f ps.length np ks.length is ms mk)) := by
  have hp0 := hp
  simp only [plains, Bool.and_eq_true] at hp
  refine ⟨fun pins s σ H Q I h => ?_⟩
  have h := kw_tE h
  obtain ⟨k1, k2, k3⟩ := kw_all (X := X) (pos := pos) hk
  refine wpAny_Call_Name_kw (ld_glob I hg F.mg ?_ hd)
  refine PySem.W.callWith_KW (h₀ := X.base) I.ok.mod.kin F.keep k1 (thn (ha.run pos pins s σ H _ I h) fun us s1 q1 => ?_) (by rw [k3, plains_any pos _ hp0]; rfl) (star_no hp.1)
  obtain ⟨vs, H1, I1, r, q⟩ := q1
  refine thn (hkw.run pos pins s1 σ H1 _ I1 q) fun ws s2 q2 => ?_
  obtain ⟨zs, H2, I2, rz, l1, l2, q⟩ := q2
  refine ⟨I2.kIn, ?_⟩
  rw [k2]
  exact run_kw F.ok F.room B (passAt tk σ) I2 r rz l1 l2 q
end
end EV

-- part EvExc
set_option Elab.async false
set_option linter.all false
set_option maxRecDepth 100000
/-! Exceptions of the text's own classes: made, raised, caught, looked at. -/
namespace EV
open PySem PySem.Spec PyProof.Rows L2

/-! ### values with and without a caught exception -/
section
variable {C : Ctx} {xx : Option (Addr × Nat × Addr)} {ρ ρ' : List Addr} {H H' : Hp}
abbrev Ctx.at_ (C : Ctx) (xx : Option (Addr × Nat × Addr)) : Ctx := { C with xa := xx }
mutual
theorem RelD.up (hx : C.xa = none) : ∀ (d : D) (v : V), RelD C ρ H d v → RelD (C.at_ xx) ρ H d v
  | .non, v, h => by simpa only [RelD] using h
  | .bl b, v, h => by simpa only [RelD] using h
  | .int i, v, h => by simpa only [RelD] using h
  | .str x, v, h => by simpa only [RelD] using h
  | .tup ds, v, h => by
    simp only [RelD] at h ⊢
    obtain ⟨a, vs, e, t, r⟩ := h
    exact ⟨a, vs, e, t, RelDs.up hx ds vs r⟩
  | .lst ds, v, h => by
    simp only [RelD] at h ⊢
    obtain ⟨a, vs, e, t, r⟩ := h
    exact ⟨a, vs, e, t, RelDs.up hx ds vs r⟩
  | .ref i, v, h => by simpa only [RelD] using h
  | .exn c ds, v, h => by
    simp only [RelD] at h
    obtain ⟨a, dd, fs, vs, e1, _⟩ := h
    rw [hx] at e1
    cases e1
theorem RelDs.up (hx : C.xa = none) : ∀ (ds : List D) (vs : List V), RelDs C ρ H ds vs → RelDs (C.at_ xx) ρ H ds vs
  | [], vs, h => by simpa only [RelDs] using h
  | d :: ds, vs, h => by
    simp only [RelDs] at h ⊢
    obtain ⟨v, r, e, a, b⟩ := h
    exact ⟨v, r, e, RelD.up hx d v a, RelDs.up hx ds r b⟩
end
mutual
theorem RelD.down : ∀ (d : D) (v : V), noX d = true → RelD (C.at_ xx) ρ H d v → RelD C ρ H d v
  | .non, v, n, h => by simpa only [RelD] using h
  | .bl b, v, n, h => by simpa only [RelD] using h
  | .int i, v, n, h => by simpa only [RelD] using h
  | .str x, v, n, h => by simpa only [RelD] using h
  | .tup ds, v, n, h => by
    simp only [RelD] at h ⊢
    simp only [noX] at n
    obtain ⟨a, vs, e, t, r⟩ := h
    exact ⟨a, vs, e, t, RelDs.down ds vs n r⟩
  | .lst ds, v, n, h => by
    simp only [RelD] at h ⊢
    simp only [noX] at n
    obtain ⟨a, vs, e, t, r⟩ := h
    exact ⟨a, vs, e, t, RelDs.down ds vs n r⟩
  | .ref i, v, n, h => by simpa only [RelD] using h
  | .exn c ds, v, n, h => by simp [noX] at n
theorem RelDs.down : ∀ (ds : List D) (vs : List V), noXs ds = true → RelDs (C.at_ xx) ρ H ds vs → RelDs C ρ H ds vs
  | [], vs, n, h => by simpa only [RelDs] using h
  | d :: ds, vs, n, h => by
    simp only [RelDs] at h ⊢
    simp only [noXs, Bool.and_eq_true] at n
    obtain ⟨v, r, e, a, b⟩ := h
    exact ⟨v, r, e, RelD.down d v n.1 a, RelDs.down ds r n.2 b⟩
end
theorem RelKV.up (hx : C.xa = none) : ∀ (ds : List (D × D)) (vs : List (Key × V)), RelKV C ρ H ds vs → RelKV (C.at_ xx) ρ H ds vs
  | [], vs, h => h
  | q :: ds, vs, h => by
    obtain ⟨a, v, r, e, ra, rv, rr⟩ := h
    exact ⟨a, v, r, e, ra, RelD.up hx _ _ rv, RelKV.up hx ds r rr⟩
theorem RelKV.down : ∀ (ds : List (D × D)) (vs : List (Key × V)), noXK ds = true → RelKV (C.at_ xx) ρ H ds vs → RelKV C ρ H ds vs
  | [], vs, n, h => h
  | (k, d) :: ds, vs, n, h => by
    simp only [noXK, Bool.and_eq_true] at n
    obtain ⟨a, v, r, e, ra, rv, rr⟩ := h
    exact ⟨a, v, r, e, ra, RelD.down _ _ n.1 rv, RelKV.down ds r n.2 rr⟩
theorem ObjR.up (hx : C.xa = none) {a : Addr} {o : O} (h : ObjR C ρ H a o) : ObjR (C.at_ xx) ρ H a o := by
  cases o with
  | lst xs => obtain ⟨vs, ha, r⟩ := h; exact ⟨vs, ha, RelDs.up hx _ _ r⟩
  | frz xs => obtain ⟨vs, o, ha, r⟩ := h; exact ⟨vs, o, ha, RelDs.up hx _ _ r⟩
  | dct kvs => obtain ⟨vs, ha, r⟩ := h; exact ⟨vs, ha, RelKV.up hx _ _ r⟩
  | fdc kvs => obtain ⟨vs, o, ha, r⟩ := h; exact ⟨vs, o, ha, RelKV.up hx _ _ r⟩
  | iset ns => exact h
theorem ObjR.down {a : Addr} {o : O} (n : noXO o = true) (h : ObjR (C.at_ xx) ρ H a o) : ObjR C ρ H a o := by
  cases o with
  | lst xs => obtain ⟨vs, ha, r⟩ := h; exact ⟨vs, ha, RelDs.down _ _ n r⟩
  | frz xs => obtain ⟨vs, o, ha, r⟩ := h; exact ⟨vs, o, ha, RelDs.down _ _ n r⟩
  | dct kvs => obtain ⟨vs, ha, r⟩ := h; exact ⟨vs, ha, RelKV.down _ _ n r⟩
  | fdc kvs => obtain ⟨vs, o, ha, r⟩ := h; exact ⟨vs, o, ha, RelKV.down _ _ n r⟩
  | iset ns => exact h
theorem Rel.up (hx : C.xa = none) {st : Sto} (R : Rel C ρ H st) : Rel (C.at_ xx) ρ H st := ⟨R.len, R.nd, fun i a o h1 h2 => (R.obj i a o h1 h2).up hx⟩
theorem Rel.down {st : Sto} (n : st.all noXO = true) (R : Rel (C.at_ xx) ρ H st) : Rel C ρ H st :=
  ⟨R.len, R.nd, fun i a o h1 h2 => (R.obj i a o h1 h2).down (List.all_eq_true.mp n o (List.mem_of_getElem? h2))⟩
theorem Step.down {st' : Sto} (n : st'.all noXO = true) (s : Step (C.at_ xx) ρ H ρ' H' st') : Step C ρ H ρ' H' st' := ⟨s.pre, s.rel.down n, s.ext, s.new⟩
theorem EnvR.up (hx : C.xa = none) {env : Env} {σ : L2.St} (h : EnvR C ρ H env σ) : EnvR (C.at_ xx) ρ H env σ :=
  ⟨h.1, fun i d e => let ⟨v, q, r⟩ := h.2 i d e; ⟨v, q, RelD.up hx d v r⟩⟩
theorem noXE_get : ∀ {env : Env} {i : Nat} {d : D}, noXE env = true → env[i]? = some (some d) → noX d = true
  | none :: r, 0, d, n, e => by cases e
  | none :: r, i + 1, d, n, e => noXE_get (env := r) n e
  | some x :: r, 0, d, n, e => by
    cases e
    simp only [noXE, Bool.and_eq_true] at n
    exact n.1
  | some x :: r, i + 1, d, n, e => by
    simp only [noXE, Bool.and_eq_true] at n
    exact noXE_get (env := r) n.2 e
theorem EnvR.down {env : Env} {σ : L2.St} (n : noXE env = true) (h : EnvR (C.at_ xx) ρ H env σ) : EnvR C ρ H env σ :=
  ⟨h.1, fun i d e => let ⟨v, q, r⟩ := h.2 i d e; ⟨v, q, RelD.down d v (noXE_get n e) r⟩⟩
end

/-! ### try -/
section
variable {C : Ctx} {W : WX} {Φ : Call} {X : Cx} {a b c e tg : Expr} {es : List Expr} {ma mb mc m : M D} {mt : M Bool} {ms : M (List D)} {pos : Pos} {s : Stmt} {r ss : List Stmt} {p q : S}
theorem st_try {x n : Str} {i c0 : Nat} {body suite : List Stmt} {b₀ : Stmt} {np pos' : Pos} {sub : Nat → Option Bool} (hx : C.xa = none) (hst : X.stack = X.env :: X.outer) (hf : X.env.frame = some X.env.locals) (hN : X.N.Nodup) (hi : X.N[i]? = some n) (hln : X.env.kindOf n = some .local)
    (hc : Names X x (.ref (C.ca c0))) (tk : Takes X W) (he : ∀ c b, sub c = some b → PySem.W.exmOne X.K (.ref (C.ca c)) (.ref (C.ca c0)) = some b)
    (hb : ∀ (W' : WX) (pn : List (Addr × Obj)) (xe : Value → Shared → Prop), Takes (X.tr pn xe) W' → PassesOwn (model X.prog X.w) X.A X.env xe → PSs (X.tr pn xe) body (tS C W' Φ p))
    (hsu : ∀ (a : Addr) (oe : Obj) (cn : Nat) (dd : Addr) (pn : List (Addr × Obj)), sub cn = some true → Zc (.ref (C.ca cn)) (some dd) oe → (∃ vs, oe.data = .fields vs) → PSs (X.suite a ((a, oe) :: pn)) (b₀ :: suite) (tS (C.at_ (some (a, cn, dd))) noW Φ q)) :
    PS X (.Try body [.ExceptHandler (some (.Name x np)) (some n) (b₀ :: suite) pos'] [] [] pos) (tS C W Φ (tryS p sub i q)) := by
  let ts : Addr → Value → Option Addr → TS := fun a cls d Z σ H => ∃ cn dd, cls = .ref (C.ca cn) ∧ d = some dd ∧ sub cn = some true ∧ tS (C.at_ (some (a, cn, dd))) noW Φ q Z σ H
  refine PS_imp (ps_try_as (ts := ts) hst hf hN hi hln hc tk hb fun a oe cls d pn hz hfs => ⟨fun pins sh σ H Z I w => ?_⟩) fun Z σ H w => ?_
  · obtain ⟨cn, dd, rfl, rfl, hk, w⟩ := w
    exact (hsu a oe cn dd pn hk hz hfs).run pins sh σ H Z I w
  · obtain ⟨ρ, env, st, hE, R, pp⟩ := w
    refine ⟨ρ, env, st, hE, R, ?_⟩
    unfold tryS at pp
    cases hm : p Φ env st with
    | bad => rw [hm] at pp; exact pp
    | nx env1 st1 => rw [hm] at pp; exact pp
    | bk env1 st1 => rw [hm] at pp; exact pp
    | ct env1 st1 => rw [hm] at pp; exact pp
    | rt d st1 => rw [hm] at pp; exact pp
    | exc xn env1 st1 =>
      simp only [hm] at pp
      intro dx σ' H1 ρ1 s1 hE1 xr
      split at pp
      · next hs =>
        refine ⟨true, he _ _ hs, fun _ a hn => ?_, fun h => (nomatch h)⟩
        obtain ⟨fs, vs, h1, h2, h3⟩ := xr
        have R' : Rel (C.at_ (some (a, xn.cls, dx))) ρ1 H1 st1 := s1.rel.up hx
        have hE' : EnvR (C.at_ (some (a, xn.cls, dx))) ρ1 H1 (env1.set i (some (.exn xn.cls xn.vs))) (σ'.set i (some (.ref a))) := by
          refine (hE1.up hx).set ?_
          simp only [RelD]
          exact ⟨a, dx, fs, vs, rfl, rfl, h1, RelDs.up hx _ _ h2, h3⟩
        refine ⟨xn.cls, dx, rfl, rfl, hs, ρ1, _, st1, hE', R', ?_⟩
        cases hq : q Φ (env1.set i (some (.exn xn.cls xn.vs))) st1 with
        | bad => rw [hq] at pp; exact pp.elim
        | exc x2 e2 s2 => rw [hq] at pp; exact pp.elim
        | nx env2 st2 =>
          simp only [hq] at pp
          split at pp
          · next hn =>
            rw [Bool.and_eq_true] at hn
            intro σ2 H2 ρ2 s2 hE2
            exact pp (σ2.set i none) H2 ρ2 (s1.trans (s2.down hn.2)) (EnvR.down hn.1 hE2.unset)
          · exact pp.elim
        | bk env2 st2 =>
          simp only [hq] at pp
          split at pp
          · next hn =>
            rw [Bool.and_eq_true] at hn
            intro σ2 H2 ρ2 s2 hE2
            exact pp (σ2.set i none) H2 ρ2 (s1.trans (s2.down hn.2)) (EnvR.down hn.1 hE2.unset)
          · exact pp.elim
        | ct env2 st2 =>
          simp only [hq] at pp
          split at pp
          · next hn =>
            rw [Bool.and_eq_true] at hn
            intro σ2 H2 ρ2 s2 hE2
            exact pp (σ2.set i none) H2 ρ2 (s1.trans (s2.down hn.2)) (EnvR.down hn.1 hE2.unset)
          · exact pp.elim
        | rt d st2 =>
          simp only [hq] at pp
          split at pp
          · next hn =>
            rw [Bool.and_eq_true] at hn
            intro v H2 ρ2 s2 rv
            exact pp v H2 ρ2 (s1.trans (s2.down hn.2)) (RelD.down _ _ hn.1 rv)
          · exact pp.elim
      · next hs => exact ⟨false, he _ _ hs, fun h => (nomatch h), fun _ => pp dx σ' H1 ρ1 s1 hE1 xr⟩
      · exact pp.elim

/-! ### looks at the caught exception -/
/-- isinstance(e, c), e the caught exception, its dict at dd -/
def rIsX (K : PySem.W.Frag) (B a dd : Addr) : List V → Hp → VK → Prop := fun xs H Q => ∃ (c : V) (cv : Value) (b : Bool) (fs : List (Str × V)), xs = [.ref a, c] ∧ H dd = some (.xd fs) ∧ (∀ u, RelV c u → u = cv) ∧ PySem.W.kitOne K (.ref B) cv = some b ∧ Q (.bl b) H
/-- the suite's context: what is held -/
structure Held (C : Ctx) (X : Cx) (a : Addr) (cn : Nat) (dd : Addr) : Prop where
  xa : C.xa = some (a, cn, dd)
  fld : ∀ (e : Expr) (te : TE) (f : Str) (pos : Pos), PE X e te → attributeBase e f X.env (eval e X.env) = eval e X.env → PySem.W.findIn X.K (.ref (C.ca cn)) f = some none → PE X (.Attribute e f pos) (tXf a (.ref (C.ca cn)) (some dd) (C.ca cn) f te)
  isi : CallR X (.builtin "isinstance") (rIsX X.K (C.ca cn) a dd)
theorem held_of {a : Addr} {cn : Nat} {dd : Addr} {oe : Obj} {pn : List (Addr × Obj)} (hz : Zc (.ref (C.ca cn)) (some dd) oe) (hf : ∃ vs, oe.data = .fields vs) (T : XfC X.K (C.ca cn)) (E : ExcC X.K (C.ca cn)) : Held (C.at_ (some (a, cn, dd))) (X.suite a ((a, oe) :: pn)) a cn dd where
  xa := rfl
  fld := fun e te f pos he hb hno => pe_xf T hno hz hf he hb
  isi := by
    rintro pins s σ H xs us Q I r ⟨c, cv, b, fs, rfl, hdd, hcv, e, q⟩
    obtain ⟨u1, u2, rfl, r1, r2⟩ := vals2 r
    cases r1
    have ec := hcv _ r2
    subst ec
    obtain ⟨hget, _⟩ := I.pin (a, oe) (List.mem_append.mpr (.inl List.mem_cons_self))
    obtain ⟨vs, hv⟩ := hf
    have hx : ObjOk X.prog X.w H s.heap dd (.xd fs) := I.hok dd _ hdd
    obtain ⟨mA, hns, hr⟩ := hx
    obtain ⟨od, ho, hl⟩ := lookIn_ns hns
    have J : PySem.W.InstAt s.heap a oe (C.ca cn) (some od) := ⟨hget, hz.1, by unfold PySem.W.notCls; rw [hv] <;> rfl, by rw [hz.2]; exact ho⟩
    have hcl : (PySem.W.clsIn X.K (C.ca cn)).isSome = true := by
      obtain ⟨cd, hc, _⟩ := PySem.W.any_some E.hd
      rw [hc]
      rfl
    exact PySem.W.kia_one (PySem.W.kitx_exc (ox := oe) (od := some od) hcl E.hg E.hk E.hs E.ha E.hn E.ht E.hm) I.kIn J e (fun z => nomatch z) fun tk => ⟨.bl b, H, I.kept (t' := tk) fun _ _ z => z, rfl, q⟩
theorem exn_iff {ρ : List Addr} {H : Hp} {c : Nat} {ds : List D} {v : V} : RelD C ρ H (.exn c ds) v ↔ ∃ a dd fs vs, C.xa = some (a, c, dd) ∧ v = .ref a ∧ H dd = some (.xd fs) ∧ RelDs C ρ H ds vs ∧ ∀ (i : Nat) (f : Str) (v : V), (C.fl c)[i]? = some f → vs[i]? = some v → fs.lookup f = some v := by simp only [RelD]
/-- e.f -/
theorem s_xf {a : Addr} {cn : Nat} {dd : Addr} {f : Str} {n : Nat → Option Nat} (L : Held C X a cn dd) (he : PE X e (tE C W Φ m)) (hb : attributeBase e f X.env (eval e X.env) = eval e X.env) (hno : PySem.W.findIn X.K (.ref (C.ca cn)) f = some none) (hn : ∀ c i, n c = some i → (C.fl c)[i]? = some f) :
    PE X (.Attribute e f pos) (tE C W Φ (op1M (excF n) m)) := by
  refine PE_imp (L.fld e _ f pos he hb hno) fun σ H Q w => ?_
  obtain ⟨ρ, env, st, hE, R, p⟩ := w
  refine tM_imp (tM_bind hE R p) ?_
  rintro x H1 ⟨d1, st1, ρ1, s1, hE1, r1, p1⟩
  cases d1 with
  | exn c ds =>
    obtain ⟨a2, dd2, fs, vs, e1, rfl, h1, rs, lk⟩ := exn_iff.mp r1
    rw [L.xa] at e1
    cases e1
    simp only [excF] at p1
    split at p1
    · next v hv =>
      obtain ⟨i, hi, hv⟩ := Option.bind_eq_some_iff.mp hv
      obtain ⟨u, hu, ru⟩ := rs.get hv
      exact ⟨rfl, rfl, dd, fs, u, rfl, h1, lk i f u (hn _ i hi) hu, Post.ok (b := u) s1.rel p1 ru⟩
    · exact p1.elim
  | _ => exact p1.elim
/-- isinstance(e, C) -/
theorem s_isE {a : Addr} {cn : Nat} {dd : Addr} {x : Str} {c0 : Nat} {sub : Nat → Option Bool} {p p1 : Pos} (L : Held C X a cn dd) (hg : Gl X "isinstance") (hm : X.mg "isinstance" = none) (he : PE X e (tE C W Φ m)) (hs : notStar e = true) (hx : PE X (.Name x p1) (tC (.ref (C.ca c0))))
    (hsub : ∀ b, sub cn = some b → PySem.W.kitOne X.K (.ref (C.ca cn)) (.ref (C.ca c0)) = some b) :
    PE X (.Call (.Name "isinstance" p) [e, .Name x p1] [] pos) (tE C W Φ (op1M (excIs sub) m)) := by
  refine PE_imp (pe_callB L.isi hg hm boot_isi (pa_cons he (pa_cons hx pa_nil) (star_no hs)) (by decide) (by decide) (star_no hs) rfl) fun σ H Q w => ?_
  obtain ⟨ρ, env, st, hE, R, p⟩ := w
  refine tM_imp (tM_bind hE R p) ?_
  rintro y H1 ⟨d1, st1, ρ1, s1, hE1, r1, p1⟩
  cases d1 with
  | exn c ds =>
    obtain ⟨a2, dd2, fs, vs, e1, rfl, h1, rs, lk⟩ := exn_iff.mp r1
    rw [L.xa] at e1
    cases e1
    simp only [excIs] at p1
    obtain ⟨b, hb, q⟩ := retB_elim s1.rel p1
    exact ⟨.ref (C.ca c0), .ref (C.ca c0), b, fs, rfl, h1, fun u r => r, hsub b hb, q⟩
  | _ => exact p1.elim
end

/-! ### making one -/
section
variable {C : Ctx} {W : WX} {Φ : Call} {X : Cx} {a b c e tg : Expr} {es : List Expr} {ma mb mc m : M D} {mt : M Bool} {ms : M (List D)} {pos : Pos}
/-- the class whose __init__ is ValueError's -/
structure BaseI (K : PySem.W.Frag) (B : Addr) : Prop where
  rd : PySem.W.readsIn K B (.type "type") = true
  ga : PySem.W.specialIn K (.ref B) "__getattribute__" = some (some (.builtin "type.__getattribute__"))
  at_ : PySem.W.findCls K (.ref B) (.type "type") "__init__" = some (.val (.builtin "ValueError.__init__"))
theorem pe_binit {ta : TA} {x : Str} {B : Addr} {p1 p2 : Pos} {pl : Sem Bool} (I : BaseI X.K B) (hg : Gl X x) (hm : X.mg x = some (.ref B)) (hd : (x == ("__debug__" : Str)) = false) (ha : PA X (e :: es) ta)
    (hc : eval (.Call (.Attribute (.Name x p1) "__init__" p2) (e :: es) [] pos) X.env = (do
      let ov ← eval (.Name x p1) X.env
      standAt p2.atName
      let (f, first) ← holding [ov] (getMethod ov "__init__" pl)
      callWith pos f first (backTo pos (starEach (e :: es) X.env)) (backToKw pos (keywordEach [] X.env))) := by rfl)
    (he : starEach (e :: es) X.env = (false, eval e X.env) :: starEach es X.env := by rfl) (hpl : (backTo pos (starEach es X.env)).any (·.1) = false := by rfl) :
    PE X (.Call (.Attribute (.Name x p1) "__init__" p2) (e :: es) [] pos) (tVeI X.K ta) := by
  refine ⟨fun pins s σ H Q J h => ?_⟩
  refine PySem.W.methodCall_KW (ld_glob J hg hm ?_ hd) hc
  refine PySem.W.method_cls J.kIn I.ga (PySem.W.cls_value J.kIn I.rd I.at_ (by decide +kernel) ?_)
  show wpAny _ _ (callWith pos (Value.builtin "ValueError.__init__") [] (backTo pos (starEach (e :: es) X.env)) []) _ _ _
  refine PyProof.Rows.callWith_method1 (thn (ha.run pos pins _ σ H _ (J.tok _) h) fun us s1 w => ?_) he hpl
  obtain ⟨vs, H1, I1, r1, a, B2, ys, rfl, hl, T, ea, q⟩ := w
  cases r1 with
  | @cons _ u0 _ ur ra rw' =>
    obtain rfl : u0 = Value.ref a := ra
    have hlen : ur.length ≤ sizeLine := by
      rw [← Paired.length rw', sizeLine_eq]
      omega
    exact oinit_ok T I1 ea hlen fun s' J' => ⟨.non, H1, J', rfl, q⟩
/-- what such an __init__ promises: the fields stand in the dict -/
def spI (K : PySem.W.Frag) (fl : List Str) : Sp := fun vs H Q E => ∃ (a B : Addr) (ys : List V), vs = .ref a :: ys ∧ ys.length = fl.length ∧ fl.length ≤ 100 ∧ OexC K B ∧ (∀ f ∈ fl, PySem.W.findIn K (.ref B) f = some none) ∧ H a = some (exo a B none) ∧
  ∀ dx, H dx = none → dx ≠ a → Q .non (upd (upd H dx (exd dx (fl.zip ys).reverse)) a (exo a B (some dx)))
/-- self.f = f, one by one -/
inductive Stores (X : Cx) (x : Str) : List Stmt → List (Str × Nat) → Prop
  | nil : Stores X x [] []
  | cons {f y : Str} {i : Nat} {p0 p1 p2 pos : Pos} {ss : List Stmt} {l : List (Str × Nat)} (h0 : PE X (.Name x p0) (tVar 0)) (h1 : PE X (.Name y p1) (tVar i)) (t : Stores X x ss l) : Stores X x (.Assign [.Attribute (.Name x p0) f p2] (.Name y p1) pos :: ss) ((f, i) :: l)
/-- behind the first store -/
def tSt (K : PySem.W.Frag) (l : List (Str × Nat)) : TS := fun Z σ H => ∃ (a B dx : Addr) (fs : List (Str × V)) (ys : List V), OexC K B ∧ (∀ p ∈ l, PySem.W.findIn K (.ref B) p.1 = some none) ∧ σ[0]? = some (some (.ref a)) ∧ dx ≠ a ∧ H a = some (exo a B (some dx)) ∧ H dx = some (exd dx fs) ∧
  fs.length + l.length ≤ 900 ∧ ys.length = l.length ∧ (∀ (j : Nat) (p : Str × Nat), l[j]? = some p → ∃ y, ys[j]? = some y ∧ σ[p.2]? = some (some y)) ∧ Z.nx σ (upd H dx (exd dx (((l.map (·.1)).zip ys).reverse ++ fs)))
theorem stores_ok {x : Str} {ss : List Stmt} {l : List (Str × Nat)} (h : Stores X x ss l) : PSs X ss (tSt X.K l) := by
  induction h with
  | nil =>
    refine PSs_imp pss_nil fun Z σ H w => ?_
    obtain ⟨a, B, dx, fs, ys, T, _, h0, hne, ha, hd, _, hl, _, q⟩ := w
    have e : upd H dx (exd dx fs) = H := by
      funext b
      by_cases hb : b = dx
      · rw [hb, upd_same, hd]
      · rw [upd_ne hb]
    simp only [List.map_nil, List.zip_nil_left, List.reverse_nil, List.nil_append, e] at q
    exact q
  | @cons f y i p0 p1 p2 pos ss l h0 h1 t ih =>
    refine PSs_imp (pss_cons (ps_ost h0 h1) ih) fun Z σ H w => ?_
    obtain ⟨a, B, dx, fs, ys, T, hno, hs, hne, ha, hd, hz, hl, hy, q⟩ := w
    obtain ⟨y0, hy0, hs0⟩ := hy 0 (f, i) rfl
    cases ys with
    | nil => cases hy0
    | cons y1 ys =>
      cases hy0
      refine ⟨y0, hs0, .ref a, hs, a, B, rfl, T, hno (f, i) List.mem_cons_self, .inr ⟨dx, fs, ha, hd, by simp only [List.length_cons] at hz; omega, ?_⟩⟩
      refine ⟨a, B, dx, (f, y0) :: fs, ys, T, fun p hp => hno p (List.mem_cons_of_mem _ hp), hs, hne, by rw [upd_ne (Ne.symm hne)]; exact ha, upd_same, by simp only [List.length_cons] at hz ⊢; omega, by simpa using hl, fun j p hp => hy (j + 1) p hp, ?_⟩
      have e : upd (upd H dx (exd dx ((f, y0) :: fs))) dx (exd dx (((l.map (·.1)).zip ys).reverse ++ (f, y0) :: fs)) = upd H dx (exd dx (((((f, i) :: l).map (·.1)).zip (y0 :: ys)).reverse ++ fs)) := by
        funext b
        by_cases hb : b = dx
        · rw [hb, upd_same, upd_same]
          simp
        · rw [upd_ne hb, upd_ne hb, upd_ne hb]
      rw [e]
      exact q
end
end EV

-- part EvRaise
set_option Elab.async false
set_option linter.all false
set_option maxRecDepth 100000
/-! An exception class's own __init__; raise. -/
namespace EV
open PySem PySem.Spec PyProof.Rows L2

theorem slotOf_ok {x : Str} : ∀ {N : List Str} {n i : Nat}, slotOf x N n = some i → ∃ j, i = n + j ∧ N[j]? = some x
  | [], n, i, h => by cases h
  | y :: N, n, i, h => by
    unfold slotOf at h
    split at h
    · next e =>
      cases h
      exact ⟨0, rfl, by rw [beq_iff_eq.mp e]; rfl⟩
    · obtain ⟨j, rfl, hj⟩ := slotOf_ok h
      exact ⟨j + 1, by omega, hj⟩
theorem slot0 {x : Str} {N : List Str} {i : Nat} (h : slotOf x N 0 = some i) : N[i]? = some x := by
  obtain ⟨j, rfl, hj⟩ := slotOf_ok h
  rw [Nat.zero_add]
  exact hj
theorem visible_ok {sc : Scope} {x : Str} (h : visible sc x = true) : Vis sc x := by
  unfold visible at h
  split at h <;> first | exact .inl (by assumption) | exact .inr (.inl (by assumption)) | exact .inr (.inr (by assumption)) | cases h
theorem glob_ok {sc : Scope} {x : Str} (h : isGlob sc x = true) : sc.names.lookup x = some .globalImplicit := by
  unfold isGlob at h
  split at h <;> first | assumption | cases h
theorem plain_ok {x : Str} (h : plainName x = true) : (x == ("__debug__" : Str)) = false ∧ (x == ("__classdict__" : Str)) = false ∧ x ≠ "__name__" := by
  unfold plainName at h
  simp only [Bool.and_eq_true, Bool.not_eq_true'] at h
  obtain ⟨⟨h1, h2⟩, h3⟩ := h
  refine ⟨h1, h2, fun e => ?_⟩
  rw [e] at h3
  cases h3
theorem pe_slot {X : Cx} {N : List Str} {sc : Scope} {x : Str} {i : Nat} {p : Pos} (hN : X.N = N) (hs : X.env.scope = sc) (h1 : plainName x = true) (h2 : visible sc x = true) (h3 : slotOf x N 0 = some i) : PE X (.Name x p) (tVar i) := by
  subst hN hs
  exact pe_var (slot0 h3) (visible_ok h2) (plain_ok h1).1 (plain_ok h1).2.1

/-- self.f = f, ..: the fields with their slots -/
def storesOf (sc : Scope) (N : List Str) (x : Str) : List Stmt → Option (List (Str × Nat))
  | [] => some []
  | st :: r => match st with
    | .Assign [.Attribute (.Name x' _) f _] (.Name y _) _ => if x' == x && plainName x && visible sc x && slotOf x N 0 == some 0 && plainName y && visible sc y then (match slotOf y N 0, storesOf sc N x r with
      | some i, some l => some ((f, i) :: l)
      | _, _ => none) else none
    | _ => none
theorem storesOf_ok {X : Cx} {sc : Scope} {N : List Str} {x : Str} (hN : X.N = N) (hs : X.env.scope = sc) : ∀ {ss : List Stmt} {l : List (Str × Nat)}, storesOf sc N x ss = some l → Stores X x ss l
  | [], l, h => by cases h; exact .nil
  | st :: r, l, h => by
    unfold storesOf at h
    split at h
    · split at h
      · next hc =>
        simp only [Bool.and_eq_true, beq_iff_eq] at hc
        obtain ⟨⟨⟨⟨⟨h1, h2⟩, h3⟩, h4⟩, h5⟩, h6⟩ := hc
        subst h1
        split at h
        · next i l' hi hl =>
          cases h
          exact .cons (pe_slot hN hs h2 h3 h4) (pe_slot hN hs h5 h6 hi) (storesOf_ok hN hs hl)
        · cases h
      · cases h
    · cases h
/-- an exception class's __init__: the base it calls, the fields with their slots -/
def initOf (sc : Scope) (N : List Str) : List Stmt → Option (Str × List (Str × Nat))
  | st :: r => match st with
    | .Expr (.Call (.Attribute (.Name b _) m apos) [.Name x _, .Constant (.str _) _ _] [] cp) _ => if apos.endLine == cp.line && m == ("__init__" : Str) && isGlob sc b && plainName b && plainName x && visible sc x && slotOf x N 0 == some 0 then (storesOf sc N x r).map (b, ·) else none
    | _ => none
  | _ => none
/-- the fields come one behind another from the parameters -/
def inRow : Nat → List (Str × Nat) → Bool
  | _, [] => true
  | n, (_, i) :: r => i == n && inRow (n + 1) r
theorem inRow_get : ∀ {l : List (Str × Nat)} {n j : Nat} {p : Str × Nat}, inRow n l = true → l[j]? = some p → p.2 = n + j
  | [], n, j, p, h, e => by cases e
  | (f, i) :: r, n, 0, p, h, e => by
    cases e
    simp only [inRow, Bool.and_eq_true, beq_iff_eq] at h
    exact h.1
  | (f, i) :: r, n, j + 1, p, h, e => by
    simp only [inRow, Bool.and_eq_true, beq_iff_eq] at h
    have q := inRow_get (l := r) h.2 e
    omega
theorem start_get {N : List Str} {vs : List V} {i : Nat} {v : V} (h : vs[i]? = some v) : (L2.start N vs)[i]? = some (some v) := by
  have l := (List.getElem?_eq_some_iff.mp h).1
  unfold L2.start
  rw [List.getElem?_append_left (by simpa using l), List.getElem?_map, h]
  rfl
theorem meth_eq {env : PySem.Env} {b m x : Str} {c : Const} {j : Nat} {p1 p2 p3 p4 p5 : Pos} (h : (p2.endLine == p5.line) = true) : eval (.Call (.Attribute (.Name b p1) m p2) [.Name x p3, .Constant c j p4] [] p5) env = (do
      let ov ← eval (.Name b p1) env
      standAt p2.atName
      let (f, first) ← holding [ov] (getMethod ov m (do return (← importBound (.Name b p1) env).getD true))
      callWith p5 f first (backTo p5 (starEach [.Name x p3, .Constant c j p4] env)) (backToKw p5 (keywordEach [] env))) := by
  have e : methodCallPos true (.Name b p1) env p2 p5 = pure p5 := by
    unfold methodCallPos
    rw [h]
    rfl
  refine congrArg (fun k => eval (.Name b p1) env >>= k) (funext fun ov => congrArg (fun k => standAt p2.atName >>= k) (funext fun _ => ?_))
  refine congrArg (fun k => holding [ov] (getMethod ov m (do return (← importBound (.Name b p1) env).getD true)) >>= k) (funext fun fx => ?_)
  show (methodCallPos true (.Name b p1) env p2 p5 >>= fun cp => callWith cp fx.1 fx.2 (backTo p5 (starEach [.Name x p3, .Constant c j p4] env)) (backToKw p5 (keywordEach [] env))) = _
  rw [e]
  rfl
theorem init_ok {P : Program} {w : World} {K : PySem.W.Frag} {mg : Str → Option Value} {base : Heap} {qual : Str} {params : Arguments} {body : List Stmt} {scope : Scope} {f : Addr} {fd : FuncData} {N ps : List Str} {k : Nat} {b : Str} {B0 : Addr} {l : List (Str × Nat)} {nm : Str}
    (F : FunD K nm qual params body scope [] [] f fd) (S : FnScope N ps scope) (h : initOf scope N body = some (b, l)) (hr : inRow 1 l = true) (hne : l ≠ []) (hps : ps.length = l.length + 1) (I : BaseI K B0) (hm : mg b = some (.ref B0)) :
    FnOk P w K mg base (L2.CX P w) (k + 1) f fd ps (spI K (l.map (·.1))) := by
  refine F.ok S ?_ ?_
  · rintro vs H Q E ⟨a, B, ys, rfl, hl, _⟩
    rw [List.length_cons, hl, List.length_map, hps]
  · rintro cdv A outer s H vs Q E hroom ⟨a, B, ys, rfl, hl, hz, T, hno, ha, hq⟩
    rw [List.length_map] at hl
    rw [List.length_map] at hz
    unfold initOf at h
    split at h
    · next st r =>
      split at h
      · next b' p1 m p2 x p3 z j p4 p5 p6 =>
        split at h
        · next hc =>
          simp only [Bool.and_eq_true, beq_iff_eq] at hc
          obtain ⟨⟨⟨⟨⟨⟨h7, h1⟩, h2⟩, h3⟩, h4⟩, h5⟩, h6⟩ := hc
          subst h1
          obtain ⟨l', hl', e⟩ := Option.map_eq_some_iff.mp h
          cases e
          cases l with
          | nil => exact absurd rfl hne
          | cons p l =>
            obtain ⟨f0, i0⟩ := p
            generalize hX : cxOf (L2.CX P w) P w K mg base N qual scope f cdv A outer s H E = X
            have eK : X.K = K := by rw [← hX]; rfl
            have eN : X.N = N := by rw [← hX]; rfl
            have eS : X.env.scope = scope := by rw [← hX]; rfl
            have eM : X.mg = mg := by rw [← hX]; rfl
            have st := storesOf_ok eN eS hl'
            have vx := pe_slot (X := X) (p := p3) eN eS h4 h5 h6
            have call : PS X (.Expr (.Call (.Attribute (.Name b p1) "__init__" p2) [.Name x p3, .Constant (.str z) j p4] [] p5) p6) (tDrop (tVeI X.K (tCons (tVar 0) (tCons (tC (.str z)) tNil)))) :=
              ps_expr (pe_binit (by rw [eK]; exact I) (by show X.env.scope.names.lookup _ = _; rw [eS]; exact glob_ok h2) (by rw [eM]; exact hm) (plain_ok h3).1 (pa_cons vx (pa_cons pe_str pa_nil)) (meth_eq (by rw [h7]; exact beq_self_eq_true _)))
            cases st with
            | @cons _ y _ q0 q1 q2 q3 ss _ g0 g1 t =>
              refine ⟨_, pss_cons call (pss_cons (ps_ost g0 g1) (stores_ok t)), ?_⟩
              rw [eK]
              have row := inRow_get (l := (f0, i0) :: l) (j := 0) hr rfl
              cases ys with
              | nil => cases hl
              | cons y0 ys =>
                have len : ys.length = l.length := by simpa using hl
                refine ⟨.ref a, start_get rfl, a, B, [.str z], rfl, by simp, T, ha, ?_⟩
                have s1 : (L2.start N (.ref a :: y0 :: ys))[i0]? = some (some y0) := start_get (by rw [show i0 = 1 from row]; rfl)
                refine ⟨y0, s1, .ref a, start_get rfl, a, B, rfl, T, hno f0 (by simp), .inl ⟨ha, fun dx hdx hda => ?_⟩⟩
                refine ⟨a, B, dx, [(f0, y0)], ys, T, fun p hp => hno p.1 (by simp only [List.map_cons, List.mem_cons]; exact .inr (List.mem_map_of_mem hp)), start_get rfl, hda, upd_same, by rw [upd_ne hda]; exact upd_same, by simp only [List.length_cons, List.length_nil] at hz ⊢; omega, len, fun j p hp => ?_, ?_⟩
                · have r2 := inRow_get (l := (f0, i0) :: l) (j := j + 1) hr hp
                  have lj := (List.getElem?_eq_some_iff.mp hp).1
                  refine ⟨ys[j]'(by omega), List.getElem?_eq_getElem (by omega), start_get ?_⟩
                  rw [r2, show 1 + (j + 1) = (j + 1) + 1 by omega]
                  simp only [List.getElem?_cons_succ]
                  exact List.getElem?_eq_getElem (by omega)
                · have e : upd (upd (upd H dx (exd dx [(f0, y0)])) a (exo a B (some dx))) dx (exd dx (((l.map (·.1)).zip ys).reverse ++ [(f0, y0)])) = upd (upd H dx (exd dx ((((f0, i0) :: l).map (·.1)).zip (y0 :: ys)).reverse)) a (exo a B (some dx)) := by
                    funext b
                    by_cases hb : b = dx
                    · rw [hb, upd_same, upd_ne hda, upd_same]
                      simp
                    · rw [upd_ne hb]
                      by_cases hb2 : b = a
                      · rw [hb2, upd_same, upd_same]
                      · rw [upd_ne hb2, upd_ne hb2, upd_ne hb, upd_ne hb]
                  show Q V.non _
                  rw [e]
                  exact hq dx hdx hda
        · cases h
      · cases h
    · cases h

/-! ### raise C(..) -/
/-- a class of the text, as raise reaches it -/
structure ClsA (C : Ctx) (X : Cx) (x : Str) (c : Nat) : Prop where
  mg : X.mg x = some (.ref (C.ca c))
  oex : OexC X.K (C.ca c)
  no : ∀ f ∈ C.fl c, PySem.W.findIn X.K (.ref (C.ca c)) f = some none
  nd : (C.fl c).Nodup
  few : (C.fl c).length ≤ 100
  init : ∃ (fI : Addr) (fd : FuncData) (k : Nat) (ps : List Str), PySem.W.findIn X.K (.ref (C.ca c)) "__init__" = some (some (.ref fI)) ∧ PySem.W.typeIn X.K (.ref fI) = some (.type "function") ∧
    FnOk X.prog X.w X.K X.mg X.base (L2.CX X.prog X.w) k fI fd ps (spI X.K (C.fl c)) ∧ Room (k + 1) X.A ∧ Binds X.K fd ps []
theorem lookup_zip : ∀ {fl : List Str} {ys : List V} {i : Nat} {f : Str} {v : V}, fl.Nodup → fl[i]? = some f → ys[i]? = some v → (fl.zip ys).lookup f = some v
  | [], _, _, _, _, _, h, _ => by cases h
  | _ :: _, [], _, _, _, _, _, h => by cases h
  | g :: fl, y :: ys, 0, f, v, nd, h1, h2 => by
    cases h1
    cases h2
    simp [List.lookup]
  | g :: fl, y :: ys, i + 1, f, v, nd, h1, h2 => by
    have nd' := List.nodup_cons.mp nd
    have ne : (f == g) = false := by
      rw [beq_eq_false_iff_ne]
      rintro rfl
      exact nd'.1 (List.mem_of_getElem? h1)
    rw [List.zip_cons_cons, List.lookup_cons, ne]
    exact lookup_zip nd'.2 h1 h2
theorem lookup_rev : ∀ {l : List (Str × V)} {f : Str}, (l.map (·.1)).Nodup → l.reverse.lookup f = l.lookup f
  | [], f, _ => rfl
  | (g, v) :: l, f, nd => by
    simp only [List.map_cons] at nd
    have nd' := List.nodup_cons.mp nd
    have ih := lookup_rev (f := f) nd'.2
    rw [List.reverse_cons, List.lookup_append, ih, List.lookup_cons]
    by_cases e : f = g
    · subst e
      have : l.lookup f = none := by
        rw [List.lookup_eq_none_iff]
        intro p hp
        have : f ≠ p.1 := by
          rintro rfl
          exact nd'.1 (List.mem_map_of_mem hp)
        simpa using this
      rw [this]
      simp
    · have : (f == g) = false := beq_eq_false_iff_ne.mpr e
      rw [this]
      cases h : l.lookup f <;> simp [List.lookup, this, h]
section
variable {C : Ctx} {W : WX} {Φ : Call} {X : Cx} {e : Expr} {es : List Expr} {ms : M (List D)} {pos : Pos}
theorem st_raise {x : Str} {c : Nat} {p cpos : Pos} (A : ClsA C X x c) (hcalm : X.calm = true) (tk : Takes X W) (hg : Gl X x) (hd : (x == ("__debug__" : Str)) = false) (hp : plains (e :: es) = true) (ha : PA X (e :: es) (tA C W Φ ms)) :
    PS X (.Raise (some (.Call (.Name x p) (e :: es) [] cpos)) none pos) (tS C W Φ (raiseS c (C.fl c).length ms)) := by
  simp only [plains, Bool.and_eq_true] at hp
  obtain ⟨fI, fd, k, ps, h1, h2, h3, h4, h5⟩ := A.init
  have mk := pmk_oex (p := p) (pos := cpos) A.oex h1 h2 h3 h4 h5 (.nil) (passes_call tk fun _ _ _ _ z => z.elim) hg A.mg ha hd (star_no hp.1) (plains_any cpos es hp.2)
  refine PS_imp (ps_raise hcalm tk mk) fun Z σ H w => ?_
  obtain ⟨ρ, env, st, hE, R, pp⟩ := w
  refine tM_imp (tM_S hE R pp) ?_
  rintro vs H1 ⟨ds, st1, ρ1, s1, hE1, rs, p1⟩
  split at p1
  · next hl =>
    have hlv : vs.length = (C.fl c).length := by rw [← rs.length]; exact hl
    refine ⟨by rw [hlv]; exact Nat.le_trans A.few (by decide), fun a hna => ?_⟩
    refine ⟨a, C.ca c, vs, by rw [List.append_nil], hlv, A.few, A.oex, A.no, upd_same, fun dx hdx hda => ?_⟩
    have hdx1 : H1 dx = none := by rwa [upd_ne hda] at hdx
    refine ⟨rfl, dx, ((C.fl c).zip vs).reverse, upd_same, by rw [upd_ne hda]; exact upd_same, hdx1, ?_⟩
    have e : upd (del (upd (upd (upd H1 a (exo a (C.ca c) none)) dx (exd dx ((C.fl c).zip vs).reverse)) a (exo a (C.ca c) (some dx))) a) dx (.xd ((C.fl c).zip vs).reverse) = upd H1 dx (.xd ((C.fl c).zip vs).reverse) := by
      funext b
      by_cases hb : b = dx
      · rw [hb, upd_same, upd_same]
      · rw [upd_ne hb, upd_ne hb]
        by_cases hb2 : b = a
        · rw [hb2, del_same, hna]
        · rw [del_ne hb2, upd_ne hb2, upd_ne hb, upd_ne hb2]
    rw [e]
    have sg := Step.grow (H' := upd H1 dx (.xd ((C.fl c).zip vs).reverse)) s1.rel (grow_upd hdx1)
    refine p1 dx σ _ _ sg (sg.env s1.rel hE1) ⟨_, vs, upd_same, sg.vals s1.rel rs, fun i f v hf hv => ?_⟩
    have nd : (((C.fl c).zip vs).map (·.1)).Nodup := by
      rw [List.map_fst_zip (by omega)]
      exact A.nd
    rw [lookup_rev nd]
    exact lookup_zip A.nd hf hv
  · exact p1.elim
end
end EV

-- part EvFn
set_option Elab.async false
set_option linter.all false
set_option maxRecDepth 100000
/-! Functions: a body in a store of its own, what it brings back. -/
namespace EV
open PySem PySem.Spec PyProof.Rows L2
section
variable {C : Ctx} {ρ ρ' : List Addr} {H H' : Hp}
mutual
theorem RelD.free : ∀ (d : D) (v : V), noRef d = true → RelD C ρ H d v → RelD C ρ' H d v
  | .non, v, n, h => by simpa only [RelD] using h
  | .bl b, v, n, h => by simpa only [RelD] using h
  | .int i, v, n, h => by simpa only [RelD] using h
  | .str x, v, n, h => by simpa only [RelD] using h
  | .tup ds, v, n, h => by
    simp only [RelD] at h ⊢
    simp only [noRef] at n
    obtain ⟨a, vs, e, t, r⟩ := h
    exact ⟨a, vs, e, t, RelDs.free ds vs n r⟩
  | .lst ds, v, n, h => by
    simp only [RelD] at h ⊢
    simp only [noRef] at n
    obtain ⟨a, vs, e, t, r⟩ := h
    exact ⟨a, vs, e, t, RelDs.free ds vs n r⟩
  | .ref i, v, n, h => by simp [noRef] at n
  | .exn c ds, v, n, h => by simp [noRef] at n
theorem RelDs.free : ∀ (ds : List D) (vs : List V), noRefs ds = true → RelDs C ρ H ds vs → RelDs C ρ' H ds vs
  | [], vs, n, h => by simpa only [RelDs] using h
  | d :: ds, vs, n, h => by
    simp only [RelDs] at h ⊢
    simp only [noRefs, Bool.and_eq_true] at n
    obtain ⟨v, r, e, a, b⟩ := h
    exact ⟨v, r, e, RelD.free d v n.1 a, RelDs.free ds r n.2 b⟩
end
mutual
theorem RelD.shift (hx : C.xa = none) : ∀ (d : D) (v : V), RelD C ρ' H d v → RelD C (ρ ++ ρ') H (shift ρ.length d) v
  | .non, v, h => by simpa only [EV.shift, RelD] using h
  | .bl b, v, h => by simpa only [EV.shift, RelD] using h
  | .int i, v, h => by simpa only [EV.shift, RelD] using h
  | .str x, v, h => by simpa only [EV.shift, RelD] using h
  | .tup ds, v, h => by
    simp only [EV.shift, RelD] at h ⊢
    obtain ⟨a, vs, e, t, r⟩ := h
    exact ⟨a, vs, e, t, RelDs.shift hx ds vs r⟩
  | .lst ds, v, h => by
    simp only [EV.shift, RelD] at h ⊢
    obtain ⟨a, vs, e, t, r⟩ := h
    exact ⟨a, vs, e, t, RelDs.shift hx ds vs r⟩
  | .ref i, v, h => by
    simp only [EV.shift, RelD] at h ⊢
    obtain ⟨a, e, q⟩ := h
    exact ⟨a, by rw [List.getElem?_append_right (Nat.le_add_right _ _), Nat.add_sub_cancel_left]; exact e, q⟩
  | .exn c ds, v, h => by
    simp only [RelD] at h
    obtain ⟨a, dd, fs, vs, e1, _⟩ := h
    rw [hx] at e1
    cases e1
theorem RelDs.shift (hx : C.xa = none) : ∀ (ds : List D) (vs : List V), RelDs C ρ' H ds vs → RelDs C (ρ ++ ρ') H (shifts ρ.length ds) vs
  | [], vs, h => by simpa only [shifts, RelDs] using h
  | d :: ds, vs, h => by
    simp only [shifts, RelDs] at h ⊢
    obtain ⟨v, r, e, a, b⟩ := h
    exact ⟨v, r, e, RelD.shift hx d v a, RelDs.shift hx ds r b⟩
end
theorem RelKey.shift {k : D} {l : Key} (h : RelKey k l) : RelKey (EV.shift ρ.length k) l := by
  cases k <;> first | exact h | exact h.elim
theorem RelKV.shift (hx : C.xa = none) : ∀ (ds : List (D × D)) (vs : List (Key × V)), RelKV C ρ' H ds vs → RelKV C (ρ ++ ρ') H (shiftKV ρ.length ds) vs
  | [], vs, h => h
  | (k, d) :: ds, vs, h => by
    obtain ⟨l, v, r, e, ra, rv, rr⟩ := h
    exact ⟨l, v, r, e, RelKey.shift ra, RelD.shift hx _ _ rv, RelKV.shift hx ds r rr⟩
theorem ObjR.shift (hx : C.xa = none) {a : Addr} {o : O} (h : ObjR C ρ' H a o) : ObjR C (ρ ++ ρ') H a (O.shift ρ.length o) := by
  cases o with
  | lst xs => obtain ⟨vs, ha, r⟩ := h; exact ⟨vs, ha, RelDs.shift hx _ _ r⟩
  | frz xs => obtain ⟨vs, o, ha, r⟩ := h; exact ⟨vs, o, ha, RelDs.shift hx _ _ r⟩
  | dct kvs => obtain ⟨vs, ha, r⟩ := h; exact ⟨vs, ha, RelKV.shift hx _ _ r⟩
  | fdc kvs => obtain ⟨vs, o, ha, r⟩ := h; exact ⟨vs, o, ha, RelKV.shift hx _ _ r⟩
  | iset ns => exact h
mutual
theorem RelD.below (p : Pre ρ ρ') : ∀ (d : D) (v : V), below ρ.length d = true → RelD C ρ' H d v → RelD C ρ H d v
  | .non, v, n, h => by simpa only [RelD] using h
  | .bl b, v, n, h => by simpa only [RelD] using h
  | .int i, v, n, h => by simpa only [RelD] using h
  | .str x, v, n, h => by simpa only [RelD] using h
  | .tup ds, v, n, h => by
    simp only [RelD] at h ⊢
    simp only [EV.below] at n
    obtain ⟨a, vs, e, t, r⟩ := h
    exact ⟨a, vs, e, t, RelDs.below p ds vs n r⟩
  | .lst ds, v, n, h => by
    simp only [RelD] at h ⊢
    simp only [EV.below] at n
    obtain ⟨a, vs, e, t, r⟩ := h
    exact ⟨a, vs, e, t, RelDs.below p ds vs n r⟩
  | .ref i, v, n, h => by
    simp only [EV.below] at n
    have lt : i < ρ.length := Nat.blt_eq.mp n
    simp only [RelD] at h ⊢
    obtain ⟨a, e, q⟩ := h
    have e2 := p i _ (List.getElem?_eq_getElem lt)
    rw [e] at e2
    cases e2
    exact ⟨_, List.getElem?_eq_getElem lt, q⟩
  | .exn c ds, v, n, h => by simp [EV.below] at n
theorem RelDs.below (p : Pre ρ ρ') : ∀ (ds : List D) (vs : List V), belows ρ.length ds = true → RelDs C ρ' H ds vs → RelDs C ρ H ds vs
  | [], vs, n, h => by simpa only [RelDs] using h
  | d :: ds, vs, n, h => by
    simp only [RelDs] at h ⊢
    simp only [belows, Bool.and_eq_true] at n
    obtain ⟨v, r, e, a, b⟩ := h
    exact ⟨v, r, e, RelD.below p d v n.1 a, RelDs.below p ds r n.2 b⟩
end
theorem RelKV.below (p : Pre ρ ρ') : ∀ (ds : List (D × D)) (vs : List (Key × V)), belowKV ρ.length ds = true → RelKV C ρ' H ds vs → RelKV C ρ H ds vs
  | [], vs, n, h => h
  | (k, d) :: ds, vs, n, h => by
    simp only [belowKV, Bool.and_eq_true] at n
    obtain ⟨l, v, r, e, ra, rv, rr⟩ := h
    exact ⟨l, v, r, e, ra, RelD.below p _ _ n.1.2 rv, RelKV.below p ds r n.2 rr⟩
theorem ObjR.below (p : Pre ρ ρ') {a : Addr} {o : O} (n : O.below ρ.length o = true) (h : ObjR C ρ' H a o) : ObjR C ρ H a o := by
  cases o with
  | lst xs => obtain ⟨vs, ha, r⟩ := h; exact ⟨vs, ha, RelDs.below p _ _ n r⟩
  | frz xs => obtain ⟨vs, o, ha, r⟩ := h; exact ⟨vs, o, ha, RelDs.below p _ _ n r⟩
  | dct kvs => obtain ⟨vs, ha, r⟩ := h; exact ⟨vs, ha, RelKV.below p _ _ n r⟩
  | fdc kvs => obtain ⟨vs, o, ha, r⟩ := h; exact ⟨vs, o, ha, RelKV.below p _ _ n r⟩
  | iset ns => exact h
theorem allBelow_get : ∀ {st : Sto} {i n : Nat} {o : O}, allBelow n st = true → st[i]? = some o → O.below n o = true
  | o :: st, 0, n, _, h, e => by
    cases e
    simp only [allBelow, Bool.and_eq_true] at h
    exact h.1
  | o :: st, i + 1, n, _, h, e => by
    simp only [allBelow, Bool.and_eq_true] at h
    exact allBelow_get (st := st) h.2 e
variable {st st' own : Sto}
/-- what came in a store of its own, on the caller's side: all of it -/
theorem step_bring (hx : C.xa = none) (R : Rel C ρ H st) (s : Step C [] H ρ' H' own) : Step C ρ H (ρ ++ ρ') H' (st ++ own.map (O.shift st.length)) := by
  have ext : ∀ a o, H a = some o → H' a = some o := fun a o h => s.ext a o h (.inl (List.not_mem_nil))
  have R' := (Step.grow R ext).rel
  refine ⟨Pre.add _ _, ⟨by simp [R.len, s.rel.len], ?_, fun i a o h1 h2 => ?_⟩, fun a o h _ => ext a o h, fun a m n => ?_⟩
  · rw [List.nodup_append]
    refine ⟨R.nd, s.rel.nd, fun x hx y hy => ?_⟩
    rintro rfl
    obtain ⟨u, hu, _⟩ := R.there hx
    rw [s.new x hy (List.not_mem_nil)] at hu
    cases hu
  · by_cases hi : i < ρ.length
    · rw [List.getElem?_append_left hi] at h1
      rw [List.getElem?_append_left (by rw [← R.len]; exact hi)] at h2
      exact (R'.obj i a o h1 h2).mono (Pre.add _ _) (Keep.refl _) rfl
    · have hi := Nat.le_of_not_lt hi
      rw [List.getElem?_append_right hi] at h1
      rw [List.getElem?_append_right (by rw [← R.len]; exact hi), List.getElem?_map] at h2
      obtain ⟨o', h3, rfl⟩ := Option.map_eq_some_iff.mp h2
      rw [← R.len] at h3 ⊢
      exact ObjR.shift hx (s.rel.obj _ a o' h1 h3)
  · rcases List.mem_append.mp m with m | m
    · exact absurd m n
    · exact s.new a m (List.not_mem_nil)
theorem step_none (R : Rel C ρ H st) (s : Step C [] H ρ' H' own) : Step C ρ H ρ H' st := Step.grow R fun a o h => s.ext a o h (.inl (List.not_mem_nil))
/-- one list of it alone -/
theorem step_one (R : Rel C ρ H st) (s : Step C [] H ρ' H' own) {i : Nat} {a : Addr} {xs : List D} (ha : ρ'[i]? = some a) (ho : own[i]? = some (.lst xs)) (n : noRefs xs = true) : Step C ρ H (ρ ++ [a]) H' (st ++ [.lst xs]) := by
  have ext : ∀ a o, H a = some o → H' a = some o := fun a o h => s.ext a o h (.inl (List.not_mem_nil))
  have R' := (Step.grow R ext).rel
  have na : H a = none := s.new a (List.mem_of_getElem? ha) (List.not_mem_nil)
  have nr := R.ne_none na
  obtain ⟨vs, q, rs⟩ := s.rel.lst ha ho
  refine ⟨Pre.add _ _, ⟨by simp [R.len], ?_, fun j b o h1 h2 => ?_⟩, fun a o h _ => ext a o h, fun b m n => ?_⟩
  · rw [List.nodup_append]
    refine ⟨R.nd, by simp, fun x hx y hy => ?_⟩
    have e : y = a := by simpa using hy
    rw [e]
    rintro rfl
    exact nr hx
  · by_cases hi : j < ρ.length
    · rw [List.getElem?_append_left hi] at h1
      rw [List.getElem?_append_left (by rw [← R.len]; exact hi)] at h2
      exact (R'.obj j b o h1 h2).mono (Pre.add _ _) (Keep.refl _) rfl
    · have hi2 : j = ρ.length := by
        have := (List.getElem?_eq_some_iff.mp h1).1
        simp at this
        omega
      subst hi2
      have e1 : a = b := by simpa using h1
      have e2 : O.lst xs = o := by rw [R.len] at h2; simpa using h2
      subst e1 e2
      exact ⟨vs, q, RelDs.free _ _ n rs⟩
  · rcases List.mem_append.mp m with m | m
    · exact absurd m n
    · have e : b = a := by simpa using m
      rw [e]
      exact na
/-- the places that nobody knows go -/
theorem step_tidy (R : Rel C ρ H st) (s : Step C ρ H ρ' H' st') (n : allBelow st.length (st'.take st.length) = true) : Step C ρ H ρ H' (st'.take st.length) := by
  have hl : ρ.length ≤ ρ'.length := by
    by_cases h : ρ.length = 0
    · omega
    · have lt : ρ.length - 1 < ρ.length := by omega
      have := (List.getElem?_eq_some_iff.mp (s.pre (ρ.length - 1) _ (List.getElem?_eq_getElem lt))).1
      omega
  refine ⟨Pre.refl _, ⟨?_, R.nd, fun i a o h1 h2 => ?_⟩, s.ext, fun a m q => absurd m q⟩
  · rw [List.length_take, ← s.rel.len, R.len]
    rw [R.len] at hl
    omega
  · have h3 : st'[i]? = some o := by
      have lt := (List.getElem?_eq_some_iff.mp h2).1
      rw [List.length_take] at lt
      rw [List.getElem?_take_of_lt (by omega)] at h2
      exact h2
    have nb := allBelow_get n h2
    rw [← R.len] at nb
    exact ObjR.below s.pre nb (s.rel.obj i a o (s.pre i a h1) h3)
theorem step_tidy1 (R : Rel C ρ H st) (s : Step C ρ H ρ' H' st') (n : allBelow st.length (st'.take st.length) = true) {i : Nat} {a : Addr} {xs : List D} (hi : ¬ i < st.length) (ha : ρ'[i]? = some a) (ho : st'[i]? = some (.lst xs)) (nx : belows st.length xs = true) :
    Step C ρ H (ρ ++ [a]) H' (st'.take st.length ++ [.lst xs]) := by
  have s1 := step_tidy R s n
  have nr : a ∉ ρ := fun m => by
    obtain ⟨j, hj⟩ := List.getElem?_of_mem m
    have lj := (List.getElem?_eq_some_iff.mp hj).1
    have q := s.pre j a hj
    obtain ⟨l1, e1⟩ := List.getElem?_eq_some_iff.mp q
    obtain ⟨l2, e2⟩ := List.getElem?_eq_some_iff.mp ha
    have := (List.getElem_inj s.rel.nd).mp (e1.trans e2.symm)
    rw [R.len] at lj
    omega
  have na : H a = none := s.new a (List.mem_of_getElem? ha) nr
  obtain ⟨vs, q, rs⟩ := s.rel.lst ha ho
  refine ⟨Pre.add _ _, ⟨by simp [s1.rel.len], ?_, fun j b o h1 h2 => ?_⟩, s.ext, fun b m n => ?_⟩
  · rw [List.nodup_append]
    refine ⟨R.nd, by simp, fun x hx y hy => ?_⟩
    have e : y = a := by simpa using hy
    rw [e]
    rintro rfl
    exact nr hx
  · by_cases hi : j < ρ.length
    · rw [List.getElem?_append_left hi] at h1
      rw [List.getElem?_append_left (by rw [← s1.rel.len]; exact hi)] at h2
      exact (s1.rel.obj j b o h1 h2).mono (Pre.add _ _) (Keep.refl _) rfl
    · have hi2 : j = ρ.length := by
        have := (List.getElem?_eq_some_iff.mp h1).1
        simp at this
        omega
      subst hi2
      have e1 : a = b := by simpa using h1
      have e2 : O.lst xs = o := by rw [s1.rel.len] at h2; simpa using h2
      subst e1 e2
      exact ⟨vs, q, RelDs.mono (Pre.add _ _) (Keep.refl _) _ _ (RelDs.below s.pre _ _ (by rw [R.len]; exact nx) rs)⟩
  · rcases List.mem_append.mp m with m | m
    · exact absurd m n
    · have e : b = a := by simpa using m
      rw [e]
      exact na
theorem exc_free {x : Exn} {dx : Addr} (n : noRefs x.vs = true) (h : ExcR C ρ' H x dx) : ExcR C ρ H x dx := by
  obtain ⟨fs, vs, h1, h2, h3⟩ := h
  exact ⟨fs, vs, h1, RelDs.free _ _ n h2, h3⟩
theorem own_ok (hx : C.xa = none) {n : Nat} {g : List D → Sto → Res D} {vs : List V} {Q : VK} {E : XK} (h : spF C n (inOwn g) vs H Q E) : spF C n g vs H Q E := by
  obtain ⟨ρ, ds, st, rs, hn, R, p⟩ := h
  unfold inOwn at p
  split at p
  · next nr =>
    have R0 : Rel C [] H [] := ⟨rfl, List.nodup_nil, fun i a o h => by cases h⟩
    refine ⟨[], ds, [], RelDs.free _ _ nr rs, hn, R0, ?_⟩
    cases hg : g ds [] with
    | bad => rw [hg] at p; exact p
    | exc x own =>
      simp only [hg] at p
      split at p
      · next nx => exact fun dx H' ρ' s xr => p dx H' ρ (step_none R s) (exc_free nx xr)
      · exact p.elim
    | ok d own =>
      simp only [hg] at p
      intro b H' ρ' s rd
      have all : Post C ρ H (relV C) Q E (.ok (EV.shift st.length d) (st ++ own.map (O.shift st.length))) → Q b H' := fun p => by
        refine p b H' _ (step_bring hx R s) ?_
        rw [← R.len]
        exact RelD.shift hx _ _ rd
      unfold bring at p
      split at p
      · next nd => exact p b H' ρ (step_none R s) (RelD.free _ _ nd rd)
      · split at p
        · next i =>
          split at p
          · next xs ho =>
            split at p
            · next nx =>
              obtain ⟨a, ha, rfl⟩ := rel_ref_iff.mp rd
              exact p _ H' _ (step_one R s ha ho nx) (rel_ref_iff.mpr ⟨a, by rw [← R.len]; simp, rfl⟩)
            · exact all p
          · exact all p
        · exact all p
  · refine ⟨ρ, ds, st, rs, hn, R, ?_⟩
    cases hg : g ds st with
    | bad => rw [hg] at p; exact p
    | exc x own => rw [hg] at p; exact p
    | ok d st1 =>
      simp only [hg] at p
      unfold tidy at p
      split at p
      · next nb =>
        intro b H' ρ' s rd
        split at p
        · next bd => exact p b H' ρ (step_tidy R s nb) (RelD.below s.pre _ _ (by rw [R.len]; exact bd) rd)
        · next bd =>
          split at p
          · next i =>
            split at p
            · next xs ho =>
              split at p
              · next nx =>
                obtain ⟨a, ha, rfl⟩ := rel_ref_iff.mp rd
                have hi : ¬ i < st.length := fun l => bd (Nat.blt_eq.mpr l)
                have s1 := step_tidy1 R s nb hi ha ho nx
                refine p _ H' _ s1 (rel_ref_iff.mpr ⟨a, ?_, rfl⟩)
                have := (step_tidy R s nb).rel.len
                rw [← this]
                simp
              · exact p b H' ρ' s rd
            · exact p b H' ρ' s rd
          · exact p b H' ρ' s rd
      · exact p
theorem start_env {N : List Str} {vs : List V} {ds : List D} (r : RelDs C ρ H ds vs) : EnvR C ρ H (startE N.length ds) (L2.start N vs) := by
  have hl := r.length
  refine ⟨by simp [startE, L2.start, hl], fun i d e => ?_⟩
  unfold startE at e
  by_cases hi : i < ds.length
  · rw [List.getElem?_append_left (by simpa using hi), List.getElem?_map] at e
    obtain ⟨d', h1, h2⟩ := Option.map_eq_some_iff.mp e
    cases h2
    obtain ⟨v, hv, rv⟩ := r.get h1
    exact ⟨v, start_get hv, rv⟩
  · rw [List.getElem?_append_right (by simpa using hi), List.getElem?_replicate] at e
    split at e <;> cases e
end
end EV

-- part EvGc
set_option Elab.async false
set_option linter.all false
set_option maxRecDepth 100000
/-! What a turn leaves that nobody needs. -/
namespace EV
open PySem PySem.Spec PyProof.Rows L2
section
variable {C : Ctx} {W : WX} {Φ : Call} {X : Cx} {ρ ρ' : List Addr} {H H' : Hp} {Z : Ends} {st st' : Sto} {env : Env} {σ : L2.St} {r : List Stmt} {p : S}
theorem EnvR.forget {i : Nat} (h : EnvR C ρ H env σ) : EnvR C ρ H (env.set i none) σ := by
  refine ⟨by simp [h.1], fun j e q => ?_⟩
  by_cases hj : i = j
  · subst hj
    by_cases hl : i < env.length
    · rw [List.getElem?_set_self hl] at q
      cases q
    · rw [List.getElem?_eq_none (by simpa using hl)] at q
      cases q
  · rw [List.getElem?_set_ne hj] at q
    exact h.2 j e q
theorem EnvR.forgets (h : EnvR C ρ H env σ) : ∀ vs : List Nat, EnvR C ρ H (wipeE env vs) σ
  | [] => h
  | v :: vs => by
    unfold wipeE
    exact EnvR.forget (EnvR.forgets h vs)
theorem belowE_get {n : Nat} : ∀ {env : Env} {i : Nat} {d : D}, belowE n env = true → env[i]? = some (some d) → EV.below n d = true
  | [], i, d, _, e => by simp at e
  | none :: r, i, d, h, e => by
    cases i with
    | zero => simp at e
    | succ i => exact belowE_get (env := r) h (by simpa using e)
  | some c :: r, i, d, h, e => by
    simp only [belowE, Bool.and_eq_true] at h
    cases i with
    | zero =>
      have : c = d := by simpa using e
      exact this ▸ h.1
    | succ i => exact belowE_get (env := r) h.2 (by simpa using e)
theorem EnvR.below_ (p : Pre ρ ρ') (n : belowE ρ.length env = true) (h : EnvR C ρ' H env σ) : EnvR C ρ H env σ :=
  ⟨h.1, fun i d e => let ⟨v, q, r⟩ := h.2 i d e; ⟨v, q, RelD.below p d v (belowE_get n e) r⟩⟩
theorem own_post {vs : List Nat} {f : L2.St → Hp → Prop} {env1 : Env} {st1 : Sto} (R : Rel C ρ H st) (b : (allBelow st.length (st1.take st.length) && belowE st.length (wipeE env1 vs)) = true)
    (h : ∀ σ' H' ρ', Step C ρ H ρ' H' (st1.take st.length) → EnvR C ρ' H' (wipeE env1 vs) σ' → f σ' H') : ∀ σ' H' ρ', Step C ρ H ρ' H' st1 → EnvR C ρ' H' env1 σ' → f σ' H' := by
  intro σ' H' ρ' s hE
  rw [Bool.and_eq_true] at b
  exact h σ' H' ρ (step_tidy R s b.1) (EnvR.below_ s.pre (by rw [R.len]; exact b.2) (hE.forgets vs))
theorem ownS_post {vs : List Nat} (R : Rel C ρ H st) (h : PostS C ρ H Z W (ownS vs p Φ env st)) : PostS C ρ H Z W (p Φ env st) := by
  unfold ownS at h
  cases e : p Φ env st with
  | nx env1 st1 =>
    rw [e] at h
    dsimp only at h
    split at h
    · next b => exact own_post R b h
    · exact h
  | ct env1 st1 =>
    rw [e] at h
    dsimp only at h
    split at h
    · next b => exact own_post R b h
    · exact h
  | _ => rw [e] at h; exact h
theorem st_own {vs : List Nat} (h : PSs X r (tS C W Φ p)) : PSs X r (tS C W Φ (ownS vs p)) := PSs_imp h fun Z σ H w => by
  obtain ⟨ρ, env, st, hE, R, q⟩ := w
  exact ⟨ρ, env, st, hE, R, ownS_post R q⟩
theorem st_own1 {vs : List Nat} {s : Stmt} (h : PS X s (tS C W Φ p)) : PS X s (tS C W Φ (ownS vs p)) := PS_imp h fun Z σ H w => by
  obtain ⟨ρ, env, st, hE, R, q⟩ := w
  exact ⟨ρ, env, st, hE, R, ownS_post R q⟩
theorem ownO_ok1 {o : Option (List Nat)} {s : Stmt} (h : PS X s (tS C W Φ p)) : PS X s (tS C W Φ (ownO o p)) := by
  cases o with
  | none => exact h
  | some vs => exact st_own1 h
theorem ownO_ok {o : Option (List Nat)} (h : PSs X r (tS C W Φ p)) : PSs X r (tS C W Φ (ownO o p)) := by
  cases o with
  | none => exact h
  | some vs => exact st_own h
end
end EV

-- part EvLeaf
set_option Elab.async false
set_option linter.all false
set_option maxRecDepth 100000
/-! A call whose arguments are plain data and flat objects runs in a store of these objects alone. -/
namespace EV
open PySem PySem.Spec PyProof.Rows L2
mutual
/-- places renamed -/
def renD (f : Nat → Nat) : D → D
  | .tup xs => .tup (renDs f xs)
  | .lst xs => .lst (renDs f xs)
  | .ref i => .ref (f i)
  | .exn c xs => .exn c xs
  | .non => .non
  | .bl b => .bl b
  | .int i => .int i
  | .str x => .str x
def renDs (f : Nat → Nat) : List D → List D
  | [] => []
  | d :: ds => renD f d :: renDs f ds
end
def renKV (f : Nat → Nat) : List (D × D) → List (D × D)
  | [] => []
  | (k, v) :: r => (renD f k, renD f v) :: renKV f r
def O.ren (f : Nat → Nat) : O → O
  | .lst xs => .lst (renDs f xs)
  | .frz xs => .frz (renDs f xs)
  | .dct kvs => .dct (renKV f kvs)
  | .fdc kvs => .fdc (renKV f kvs)
  | .iset xs => .iset xs
def noRefKV : List (D × D) → Bool
  | [] => true
  | (k, v) :: r => noRef k && noRef v && noRefKV r
def O.flat : O → Bool
  | .lst xs => noRefs xs
  | .frz xs => noRefs xs
  | .dct kvs => noRefKV kvs
  | .fdc kvs => noRefKV kvs
  | .iset _ => true
/-- the flat objects that arguments name, each once -/
def leafI (st : Sto) : List D → List Nat → Option (List Nat)
  | [], I => some I
  | .ref i :: r, I => if i ∈ I then leafI st r I else (match st[i]? with
    | some o => if o.flat then leafI st r (I ++ [i]) else none
    | none => none)
  | d :: r, I => if noRef d then leafI st r I else none
def inF (I : List Nat) (i : Nat) : Nat := I.idxOf i
def outF (I : List Nat) (n j : Nat) : Nat := match I[j]? with
  | some i => i
  | none => n + (j - I.length)
def setAll (st : Sto) : List Nat → List O → Sto
  | i :: I, o :: os => setAll (st.set i o) I os
  | _, _ => st
def leafSt (I : List Nat) (st own : Sto) : Sto := setAll st I ((own.take I.length).map (O.ren (outF I st.length))) ++ (own.drop I.length).map (O.ren (outF I st.length))
def subSt (I : List Nat) (st : Sto) : Sto := I.map fun i => (st[i]?).getD (.iset [])
def leafR (I : List Nat) (st : Sto) (r : Res D) : Res D := match r with
  | .ok d own => .ok (renD (outF I st.length) d) (leafSt I st own)
  | .exc x own => .exc ⟨x.cls, renDs (outF I st.length) x.vs⟩ (leafSt I st own)
  | .bad => .bad
def inLeaf (g : List D → Sto → Res D) (ds : List D) (st : Sto) : Res D := match leafI st ds [] with
  | some (i :: I) => leafR (i :: I) st (g (renDs (inF (i :: I)) ds) (subSt (i :: I) st))
  | _ => g ds st
section
variable {C : Ctx} {ρ ρ' ρ2 : List Addr} {H H' : Hp} {f : Nat → Nat}
mutual
theorem RelD.ren (hx : C.xa = none) (hf : ∀ (i : Nat) (a : Addr), ρ'[i]? = some a → ρ2[f i]? = some a) : ∀ (d : D) (v : V), RelD C ρ' H d v → RelD C ρ2 H (renD f d) v
  | .non, v, h => by simpa only [renD, RelD] using h
  | .bl b, v, h => by simpa only [renD, RelD] using h
  | .int i, v, h => by simpa only [renD, RelD] using h
  | .str x, v, h => by simpa only [renD, RelD] using h
  | .tup ds, v, h => by
    simp only [renD, RelD] at h ⊢
    obtain ⟨a, vs, e, t, r⟩ := h
    exact ⟨a, vs, e, t, RelDs.ren hx hf ds vs r⟩
  | .lst ds, v, h => by
    simp only [renD, RelD] at h ⊢
    obtain ⟨a, vs, e, t, r⟩ := h
    exact ⟨a, vs, e, t, RelDs.ren hx hf ds vs r⟩
  | .ref i, v, h => by
    simp only [renD, RelD] at h ⊢
    obtain ⟨a, e, q⟩ := h
    exact ⟨a, hf i a e, q⟩
  | .exn c ds, v, h => by
    simp only [RelD] at h
    obtain ⟨a, dd, fs, vs, e1, _⟩ := h
    rw [hx] at e1
    cases e1
theorem RelDs.ren (hx : C.xa = none) (hf : ∀ (i : Nat) (a : Addr), ρ'[i]? = some a → ρ2[f i]? = some a) : ∀ (ds : List D) (vs : List V), RelDs C ρ' H ds vs → RelDs C ρ2 H (renDs f ds) vs
  | [], vs, h => by simpa only [renDs, RelDs] using h
  | d :: ds, vs, h => by
    simp only [renDs, RelDs] at h ⊢
    obtain ⟨v, r, e, a, b⟩ := h
    exact ⟨v, r, e, RelD.ren hx hf d v a, RelDs.ren hx hf ds r b⟩
end
theorem RelKey.ren {k : D} {l : Key} (h : RelKey k l) : RelKey (renD f k) l := by
  cases k <;> first | exact h | exact h.elim
theorem RelKV.ren (hx : C.xa = none) (hf : ∀ (i : Nat) (a : Addr), ρ'[i]? = some a → ρ2[f i]? = some a) : ∀ (ds : List (D × D)) (vs : List (Key × V)), RelKV C ρ' H ds vs → RelKV C ρ2 H (renKV f ds) vs
  | [], vs, h => h
  | (k, d) :: ds, vs, h => by
    obtain ⟨l, v, r, e, ra, rv, rr⟩ := h
    exact ⟨l, v, r, e, RelKey.ren ra, RelD.ren hx hf _ _ rv, RelKV.ren hx hf ds r rr⟩
theorem ObjR.ren (hx : C.xa = none) (hf : ∀ (i : Nat) (a : Addr), ρ'[i]? = some a → ρ2[f i]? = some a) {a : Addr} {o : O} (h : ObjR C ρ' H a o) : ObjR C ρ2 H a (O.ren f o) := by
  cases o with
  | lst xs => obtain ⟨vs, ha, r⟩ := h; exact ⟨vs, ha, RelDs.ren hx hf _ _ r⟩
  | frz xs => obtain ⟨vs, o, ha, r⟩ := h; exact ⟨vs, o, ha, RelDs.ren hx hf _ _ r⟩
  | dct kvs => obtain ⟨vs, ha, r⟩ := h; exact ⟨vs, ha, RelKV.ren hx hf _ _ r⟩
  | fdc kvs => obtain ⟨vs, o, ha, r⟩ := h; exact ⟨vs, o, ha, RelKV.ren hx hf _ _ r⟩
  | iset ns => exact h
theorem RelKV.free : ∀ (ds : List (D × D)) (vs : List (Key × V)), noRefKV ds = true → RelKV C ρ H ds vs → RelKV C ρ' H ds vs
  | [], vs, n, h => h
  | (k, d) :: ds, vs, n, h => by
    simp only [noRefKV, Bool.and_eq_true] at n
    obtain ⟨l, v, r, e, ra, rv, rr⟩ := h
    exact ⟨l, v, r, e, ra, RelD.free _ _ n.1.2 rv, RelKV.free ds r n.2 rr⟩
theorem ObjR.free {a : Addr} {o : O} (n : o.flat = true) (h : ObjR C ρ H a o) : ObjR C ρ' H a o := by
  cases o with
  | lst xs => obtain ⟨vs, ha, r⟩ := h; exact ⟨vs, ha, RelDs.free _ _ n r⟩
  | frz xs => obtain ⟨vs, o, ha, r⟩ := h; exact ⟨vs, o, ha, RelDs.free _ _ n r⟩
  | dct kvs => obtain ⟨vs, ha, r⟩ := h; exact ⟨vs, ha, RelKV.free _ _ n r⟩
  | fdc kvs => obtain ⟨vs, o, ha, r⟩ := h; exact ⟨vs, o, ha, RelKV.free _ _ n r⟩
  | iset ns => exact h
variable {st own : Sto}
theorem leafI_ok : ∀ (ds : List D) (I0 I : List Nat), leafI st ds I0 = some I → I0.Nodup → (∀ i ∈ I0, ∃ o, st[i]? = some o ∧ o.flat = true) →
    I.Nodup ∧ (∀ i ∈ I, ∃ o, st[i]? = some o ∧ o.flat = true) ∧ (∀ i ∈ I0, i ∈ I) ∧ ∀ d ∈ ds, noRef d = true ∨ ∃ i ∈ I, d = .ref i
  | [], I0, I, h, n, q => by
    cases h
    exact ⟨n, q, fun _ h => h, fun d hd => by cases hd⟩
  | d :: r, I0, I, h, n, q => by
    by_cases hd : noRef d = true
    · have h' : leafI st r I0 = some I := by
        cases d <;> first | (simp only [leafI, hd, if_true] at h; exact h) | (simp [noRef] at hd)
      obtain ⟨a, b, c, e⟩ := leafI_ok r I0 I h' n q
      exact ⟨a, b, c, fun x hx => by
        rcases List.mem_cons.mp hx with rfl | hx
        · exact .inl hd
        · exact e x hx⟩
    · cases d with
      | ref i =>
        simp only [leafI] at h
        split at h
        · next hi =>
          obtain ⟨a, b, c, e⟩ := leafI_ok r I0 I h n q
          exact ⟨a, b, c, fun x hx => by
            rcases List.mem_cons.mp hx with rfl | hx
            · exact .inr ⟨i, c i hi, rfl⟩
            · exact e x hx⟩
        · next hi =>
          split at h
          · next o ho =>
            split at h
            · next hf =>
              obtain ⟨a, b, c, e⟩ := leafI_ok r (I0 ++ [i]) I h (by
                rw [List.nodup_append]
                refine ⟨n, by simp, fun x hx y hy => ?_⟩
                have e : y = i := by simpa using hy
                rw [e]
                rintro rfl
                exact hi hx) (fun j hj => by
                rcases List.mem_append.mp hj with hj | hj
                · exact q j hj
                · have e : j = i := by simpa using hj
                  rw [e]
                  exact ⟨o, ho, hf⟩)
              exact ⟨a, b, fun j hj => c j (List.mem_append_left _ hj), fun x hx => by
                rcases List.mem_cons.mp hx with rfl | hx
                · exact .inr ⟨i, c i (List.mem_append_right _ (List.mem_singleton.mpr rfl)), rfl⟩
                · exact e x hx⟩
            · cases h
          · cases h
      | tup xs => simp only [leafI, hd] at h; cases h
      | lst xs => simp only [leafI, hd] at h; cases h
      | exn c xs => simp only [leafI, hd] at h; cases h
      | _ => exact absurd rfl hd
theorem setAll_len : ∀ (I : List Nat) (os : List O) (st : Sto), (setAll st I os).length = st.length
  | [], _, _ => by unfold setAll; rfl
  | _ :: _, [], _ => by unfold setAll; rfl
  | i :: I, o :: os, st => by
    unfold setAll
    rw [setAll_len I os, List.length_set]
theorem setAll_not : ∀ (I : List Nat) (os : List O) (st : Sto) (i : Nat), i ∉ I → (setAll st I os)[i]? = st[i]?
  | [], _, _, _, _ => by unfold setAll; rfl
  | _ :: _, [], _, _, _ => by unfold setAll; rfl
  | j :: I, o :: os, st, i, h => by
    unfold setAll
    rw [setAll_not I os _ i (fun m => h (List.mem_cons_of_mem _ m)), List.getElem?_set_ne]
    rintro rfl
    exact h List.mem_cons_self
theorem setAll_at : ∀ (I : List Nat) (os : List O) (st : Sto) (j i : Nat) (o : O), I.Nodup → I[j]? = some i → os[j]? = some o → i < st.length → (setAll st I os)[i]? = some o
  | [], _, _, _, _, _, _, h, _, _ => by cases h
  | _ :: _, [], _, _, _, _, _, _, h, _ => by cases h
  | k :: I, o' :: os, st, 0, i, o, n, h1, h2, l => by
    cases h1
    cases h2
    unfold setAll
    rw [setAll_not I os _ _ (List.nodup_cons.mp n).1, List.getElem?_set_self l]
  | k :: I, o' :: os, st, j + 1, i, o, n, h1, h2, l => by
    unfold setAll
    exact setAll_at I os _ j i o (List.nodup_cons.mp n).2 h1 h2 (by rw [List.length_set]; exact l)
mutual
theorem renD_free : ∀ d : D, noRef d = true → renD f d = d
  | .non, n => by simp only [renD]
  | .bl b, n => by simp only [renD]
  | .int i, n => by simp only [renD]
  | .str x, n => by simp only [renD]
  | .tup ds, n => by
    simp only [noRef] at n
    simp only [renD, renDs_free ds n]
  | .lst ds, n => by
    simp only [noRef] at n
    simp only [renD, renDs_free ds n]
  | .ref i, n => by simp [noRef] at n
  | .exn c ds, n => by simp [noRef] at n
theorem renDs_free : ∀ ds : List D, noRefs ds = true → renDs f ds = ds
  | [], n => by simp only [renDs]
  | d :: ds, n => by
    simp only [noRefs, Bool.and_eq_true] at n
    simp only [renDs, renD_free d n.1, renDs_free ds n.2]
end
theorem renDs_len : ∀ ds : List D, (renDs f ds).length = ds.length
  | [] => by simp only [renDs]
  | d :: ds => by simp only [renDs, List.length_cons, renDs_len ds]
theorem renDs_in {I : List Nat} {ρs : List Addr} (hs : ∀ (j i : Nat), I[j]? = some i → ρs[j]? = ρ[i]?) : ∀ (ds : List D) (vs : List V), (∀ d ∈ ds, noRef d = true ∨ ∃ i ∈ I, d = .ref i) → RelDs C ρ H ds vs → RelDs C ρs H (renDs (inF I) ds) vs
  | [], vs, _, h => by simpa only [renDs, RelDs] using h
  | d :: ds, vs, q, h => by
    simp only [renDs, RelDs] at h ⊢
    obtain ⟨v, r, e, a, b⟩ := h
    refine ⟨v, r, e, ?_, renDs_in hs ds r (fun d hd => q d (List.mem_cons_of_mem _ hd)) b⟩
    rcases q d List.mem_cons_self with n | ⟨i, hi, rfl⟩
    · have e : renD (inF I) d = d := renD_free d n
      rw [e]
      exact RelD.free _ _ n a
    · simp only [renD, RelD] at a ⊢
      obtain ⟨x, e1, e2⟩ := a
      refine ⟨x, ?_, e2⟩
      have l := List.idxOf_lt_length_of_mem hi
      have : I[inF I i]? = some i := by
        unfold inF
        rw [List.getElem?_eq_getElem l, List.getElem_idxOf l]
      rw [hs _ _ this]
      exact e1
theorem outF_lt {I : List Nat} {n j i : Nat} (h : I[j]? = some i) : outF I n j = i := by unfold outF; rw [h]
theorem outF_ge {I : List Nat} {n j : Nat} (h : I.length ≤ j) : outF I n j = n + (j - I.length) := by unfold outF; rw [List.getElem?_eq_none h]
/-- what a call in a store of some objects alone brings back -/
theorem step_leaf (hx : C.xa = none) (R : Rel C ρ H st) {I : List Nat} {ρs : List Addr} (nd : I.Nodup) (hI : ∀ i ∈ I, ∃ o, st[i]? = some o ∧ o.flat = true) (hl : ρs.length = I.length) (hs : ∀ (j i : Nat), I[j]? = some i → ρs[j]? = ρ[i]?)
    (s : Step C ρs H ρ' H' own) :
    Step C ρ H (ρ ++ ρ'.drop I.length) H' (leafSt I st own) ∧ ∀ (j : Nat) (a : Addr), ρ'[j]? = some a → (ρ ++ ρ'.drop I.length)[outF I st.length j]? = some a := by
  have hsub : ∀ a ∈ ρs, a ∈ ρ := fun a m => by
    obtain ⟨j, hj⟩ := List.getElem?_of_mem m
    have lj := (List.getElem?_eq_some_iff.mp hj).1
    have e := hs j _ (List.getElem?_eq_getElem (by omega : j < I.length))
    rw [hj] at e
    exact List.mem_of_getElem? e.symm
  have hp : ∀ (j : Nat) (a : Addr), ρs[j]? = some a → ρ'[j]? = some a := s.pre
  have hll : ρs.length ≤ ρ'.length := by
    by_cases h : ρs.length = 0
    · omega
    · have := (List.getElem?_eq_some_iff.mp (s.pre (ρs.length - 1) _ (List.getElem?_eq_getElem (by omega)))).1
      omega
  have hf : ∀ (j : Nat) (a : Addr), ρ'[j]? = some a → (ρ ++ ρ'.drop I.length)[outF I st.length j]? = some a := fun j a h => by
    by_cases lj : j < I.length
    · have e := List.getElem?_eq_getElem lj
      rw [outF_lt e]
      have e2 := hs j _ e
      have e3 := hp j _ (List.getElem?_eq_getElem (by omega : j < ρs.length))
      rw [h] at e3
      rw [List.getElem?_eq_getElem (by omega : j < ρs.length), ← Option.some.inj e3] at e2
      rw [List.getElem?_append_left (List.getElem?_eq_some_iff.mp e2.symm).1]
      exact e2.symm
    · have lj := Nat.le_of_not_lt lj
      rw [outF_ge lj, List.getElem?_append_right (by rw [R.len]; exact Nat.le_add_right _ _), R.len, Nat.add_sub_cancel_left, List.getElem?_drop]
      have : I.length + (j - I.length) = j := by omega
      rw [this]
      exact h
  have hdrop : ∀ a ∈ ρ'.drop I.length, a ∉ ρs ∧ H a = none := fun a m => by
    obtain ⟨j, hj⟩ := List.getElem?_of_mem m
    rw [List.getElem?_drop] at hj
    have n1 : a ∉ ρs := fun m => by
      obtain ⟨i, hi⟩ := List.getElem?_of_mem m
      have li := (List.getElem?_eq_some_iff.mp hi).1
      obtain ⟨l1, e1⟩ := List.getElem?_eq_some_iff.mp (hp i a hi)
      obtain ⟨l2, e2⟩ := List.getElem?_eq_some_iff.mp hj
      have := (List.getElem_inj s.rel.nd).mp (e1.trans e2.symm)
      omega
    exact ⟨n1, s.new a (List.mem_of_getElem? hj) n1⟩
  have ext : Ext ρ H H' := fun a o h n => s.ext a o h (n.imp_left fun m q => m (hsub a q))
  have hlen : (leafSt I st own).length = st.length + (own.length - I.length) := by
    unfold leafSt
    rw [List.length_append, setAll_len, List.length_map, List.length_drop]
  refine ⟨⟨Pre.add _ _, ⟨?_, ?_, fun i a o h1 h2 => ?_⟩, ext, fun a m n => ?_⟩, hf⟩
  · rw [hlen, List.length_append, List.length_drop, R.len, s.rel.len]
  · rw [List.nodup_append]
    refine ⟨R.nd, s.rel.nd.sublist (List.drop_sublist _ _), fun x hx y hy => ?_⟩
    rintro rfl
    obtain ⟨u, hu, _⟩ := R.there hx
    rw [(hdrop x hy).2] at hu
    cases hu
  · by_cases hi : i < ρ.length
    · rw [List.getElem?_append_left hi] at h1
      unfold leafSt at h2
      rw [List.getElem?_append_left (by rw [setAll_len, ← R.len]; exact hi)] at h2
      by_cases m : i ∈ I
      · obtain ⟨j, hj⟩ := List.getElem?_of_mem m
        have lj := (List.getElem?_eq_some_iff.mp hj).1
        have e1 : ρs[j]? = some a := (hs j i hj).trans h1
        have e2 := hp j a e1
        have lo : j < own.length := by
          have := (List.getElem?_eq_some_iff.mp e2).1
          rw [s.rel.len] at this
          exact this
        have e3 : ((own.take I.length).map (O.ren (outF I st.length)))[j]? = some (O.ren (outF I st.length) own[j]) := by
          rw [List.getElem?_map, List.getElem?_take_of_lt lj, List.getElem?_eq_getElem lo]
          rfl
        rw [setAll_at I _ st j i _ nd hj e3 (by rw [← R.len]; exact hi)] at h2
        cases h2
        exact ObjR.ren hx hf (s.rel.obj j a _ e2 (List.getElem?_eq_getElem lo))
      · rw [setAll_not I _ _ _ m] at h2
        have na : a ∉ ρs := fun q => by
          obtain ⟨j, hj⟩ := List.getElem?_of_mem q
          have lj := (List.getElem?_eq_some_iff.mp hj).1
          have e := List.getElem?_eq_getElem (by omega : j < I.length)
          have e2 := hs j _ e
          rw [hj] at e2
          obtain ⟨l1, q1⟩ := List.getElem?_eq_some_iff.mp h1
          obtain ⟨l2, q2⟩ := List.getElem?_eq_some_iff.mp e2.symm
          have := (List.getElem_inj R.nd).mp (q1.trans q2.symm)
          rw [this] at m
          exact m (List.getElem_mem _)
        obtain ⟨u, hu, _⟩ := R.there (List.mem_of_getElem? h1)
        exact (R.obj i a o h1 h2).mono (Pre.add _ _) (R.keep ext) ((s.ext a u hu (.inl na)).trans hu.symm)
    · have hi := Nat.le_of_not_lt hi
      rw [List.getElem?_append_right hi, List.getElem?_drop] at h1
      unfold leafSt at h2
      rw [List.getElem?_append_right (by rw [setAll_len, ← R.len]; exact hi), List.getElem?_map, List.getElem?_drop, setAll_len, ← R.len] at h2
      obtain ⟨o', h3, rfl⟩ := Option.map_eq_some_iff.mp h2
      rw [← R.len] at hf
      exact ObjR.ren hx hf (s.rel.obj _ a o' h1 h3)
  · rcases List.mem_append.mp m with m | m
    · exact absurd m n
    · exact (hdrop a m).2
theorem leaf_ok (hx : C.xa = none) {n : Nat} {g : List D → Sto → Res D} {vs : List V} {Q : VK} {E : XK} (h : spF C n (inLeaf g) vs H Q E) : spF C n g vs H Q E := by
  obtain ⟨ρ, ds, st, rs, hn, R, p⟩ := h
  unfold inLeaf at p
  split at p
  · next i I0 hI =>
    obtain ⟨nd, fl, _, qd⟩ := leafI_ok ds [] (i :: I0) hI List.nodup_nil (fun _ h => by cases h)
    generalize i :: I0 = I at *
    obtain ⟨ρs, hρ⟩ : ∃ ρs : List Addr, ρs = I.map fun i => (ρ[i]?).getD 0 := ⟨_, rfl⟩
    have hl : ρs.length = I.length := by rw [hρ, List.length_map]
    have hat : ∀ i ∈ I, i < ρ.length := fun i m => by
      obtain ⟨o, ho, _⟩ := fl i m
      rw [R.len]
      exact (List.getElem?_eq_some_iff.mp ho).1
    have hs : ∀ (j i : Nat), I[j]? = some i → ρs[j]? = ρ[i]? := fun j i h => by
      have l := hat i (List.mem_of_getElem? h)
      rw [hρ, List.getElem?_map, h, Option.map_some, List.getElem?_eq_getElem l, Option.getD_some]
    have Rs : Rel C ρs H (subSt I st) := by
      refine ⟨by rw [hl]; unfold subSt; rw [List.length_map], ?_, fun j a o h1 h2 => ?_⟩
      · rw [hρ]
        refine List.pairwise_map.mpr (nd.imp_of_mem fun {a b} ma mb ne q => ne ?_)
        have la := hat a ma
        have lb := hat b mb
        rw [List.getElem?_eq_getElem la, List.getElem?_eq_getElem lb] at q
        exact (List.getElem_inj R.nd).mp q
      · have lj := (List.getElem?_eq_some_iff.mp h1).1
        have e := List.getElem?_eq_getElem (by omega : j < I.length)
        obtain ⟨o', ho, hf⟩ := fl _ (List.getElem_mem (by omega : j < I.length))
        unfold subSt at h2
        rw [List.getElem?_map, e] at h2
        simp only [Option.map_some, ho, Option.getD_some, Option.some.injEq] at h2
        subst h2
        rw [hs j _ e] at h1
        exact ObjR.free hf (R.obj _ a _ h1 ho)
    refine ⟨ρs, renDs (inF I) ds, subSt I st, renDs_in hs ds vs qd rs, by rw [renDs_len]; exact hn, Rs, ?_⟩
    cases hg : g (renDs (inF I) ds) (subSt I st) with
    | bad => rw [hg] at p; exact p
    | exc x own =>
      rw [hg] at p
      intro dx H' ρ' s xr
      obtain ⟨s1, hf⟩ := step_leaf hx R nd fl hl hs s
      refine p dx H' _ s1 ?_
      obtain ⟨fs, us, h1, h2, h3⟩ := xr
      exact ⟨fs, us, h1, RelDs.ren hx hf _ _ h2, h3⟩
    | ok d own =>
      rw [hg] at p
      intro b H' ρ' s rd
      obtain ⟨s1, hf⟩ := step_leaf hx R nd fl hl hs s
      exact p b H' _ s1 (RelD.ren hx hf _ _ rd)
  · exact ⟨ρ, ds, st, rs, hn, R, p⟩
end
/-- the defs, to a depth of calls -/
def runL (fns : List Fn) : Nat → Call
  | 0 => fun _ _ _ => .bad
  | k + 1 => fun f ds st => match fns[f]? with
    | some F => inOwn (inLeaf (bodyF F (runL fns k))) ds st
    | none => .bad
theorem fn_ok {C : Ctx} {P : Program} {w : World} {mg : Str → Option Value} {base : Heap} {nm qual : Str} {params : Arguments} {body : List Stmt} {scope : Scope} {dvs : List V} {kws : List (Str × V)} {f : Addr} {fd : FuncData} {N ps : List Str} {k : Nat} {F : Fn} {Φ : Call} (hx : C.xa = none)
    (FD : FunD C.K nm qual params body scope dvs kws f fd) (S : FnScope N ps scope) (hN : F.slots = N.length) (hP : F.params = ps.length)
    (hb : ∀ (cdv : Value) (A : Around) (outer : List PySem.Env) (s : Shared) (H : Hp) (E : XK), Room k (A.deeper (envOfC qual scope s.heap.objs.size f cdv)) →
      PSs (cxOf (L2.CX P w) P w C.K mg base N qual scope f cdv A outer s H E) body (tS C (fun c d _ H' => E c d H') Φ F.body)) :
    FnOk P w C.K mg base (L2.CX P w) (k + 1) f fd ps (spF C ps.length (inOwn (inLeaf (bodyF F Φ)))) := by
  refine FnOk.imp (sp := spF C ps.length (bodyF F Φ)) (FD.ok S ?_ ?_) fun vs H Q E h => leaf_ok hx (own_ok hx h)
  · rintro vs H Q E ⟨ρ, ds, st, rs, hn, _⟩
    rw [← rs.length]
    exact hn
  · rintro cdv A outer s H vs Q E hr ⟨ρ, ds, st, rs, hn, R, p⟩
    refine ⟨_, hb cdv A outer s H E hr, ρ, startE N.length ds, st, start_env rs, R, ?_⟩
    unfold bodyF at p
    rw [if_pos (by rw [hn, hP]), hN] at p
    cases h : F.body Φ (startE N.length ds) st with
    | bad => rw [h] at p; exact p.elim
    | nx e t => rw [h] at p; exact fun σ' H' ρ' s' _ => p .non H' ρ' s' rel_non
    | bk e t => rw [h] at p; exact p.elim
    | ct e t => rw [h] at p; exact p.elim
    | rt d t => rw [h] at p; exact fun v H' ρ' s' r => p v H' ρ' s' r
    | exc x e t => rw [h] at p; exact fun dx σ' H' ρ' s' _ xr => p dx H' ρ' s' xr
end EV

-- part EvSound
set_option Elab.async false
set_option linter.all false
set_option maxRecDepth 100000
/-! What the compiled text does is what the text does: expressions. -/
namespace EV
open PySem PySem.Spec PyProof.Rows L2

/-- what stands around an expression -/
structure Okx (G : Gs) (C : Ctx) (W : Wh) (X : Cx) (Wx : WX) (Φ : Call) : Prop where
  K : X.K = C.K
  w : X.w = C.w
  N : X.N = W.N
  nd : X.N.Nodup
  sc : X.env.scope = W.sc
  fb : X.fn = W.fb
  u : X.A.units + 65 < cLine
  un : ∀ x, x ∈ G.free → X.mg x = none
  cst : ∀ x d, gvOf x G.tab = some (.cst d) → ∃ v u, X.mg x = some u ∧ RelV v u ∧ ∀ ρ H, RelD C ρ H d v
  cls : ∀ x c r, gvOf x G.tab = some (.cls c r) → X.mg x = some (.ref (C.ca c))
  rai : W.hot = false → ∀ x c, gvOf x G.tab = some (.cls c true) → ClsA C X x c
  fl : ∀ c, C.fl c = G.fld c
  exx : ∀ c c0 b, G.sub c c0 = some b → PySem.W.exmOne X.K (.ref (C.ca c)) (.ref (C.ca c0)) = some b ∧ PySem.W.kitOne X.K (.ref (C.ca c)) (.ref (C.ca c0)) = some b ∧ XfC X.K (C.ca c) ∧ ExcC X.K (C.ca c) ∧ ∀ f ∈ G.fld c, PySem.W.findIn X.K (.ref (C.ca c)) f = some none
  calm : W.hot = false → X.calm = true
  tk : W.hot = false → Takes X Wx
  fn : W.hot = false → ∀ x g ps, gvOf x G.tab = some (.fn g ps) → ∃ fa k fd, FnA C X x ps (Φ g) fa k fd ∧ ∀ n ks is, kwOf x n ks G.kws = some is → KwA X.K fd ps n ks is
  held : W.hot = true → ∃ a cn dd c0, Held C X a cn dd ∧ G.sub cn c0 = some true
  xa : W.hot = false → C.xa = none

section
variable {G : Gs} {C : Ctx} {W : Wh} {X : Cx} {Wx : WX} {Φ : Call}
theorem op2_ok (hK : X.K = C.K) {op : Operator} {f : Op2} (h : op2Of op = some f) : OpR X (binaryOp op) (rF2 C f) := by
  cases op <;> first
    | (cases h; exact opAdd_ok hK)
    | (cases h; exact opSub_ok)
    | (cases h; exact opMul_ok hK)
    | (cases h; exact opFdiv_ok)
    | (cases h; exact opMod_ok)
    | (cases h; exact opPow_ok)
    | cases h
theorem cmp_ok (hK : X.K = C.K) (hu : X.A.units + 65 < cLine) {op : CmpOp} {f : Op2} (h : cmpOf op = some f) : OpR X (compareOp op) (rF2 C f) := by
  cases op <;> first
    | (cases h; exact opEq_ok hK (by omega))
    | (cases h; exact opNe_ok hK (by omega))
    | (cases h; exact opLt_ok)
    | (cases h; exact opLe_ok)
    | (cases h; exact opGt_ok)
    | (cases h; exact opGe_ok)
    | (cases h; exact opIs_ok)
    | (cases h; exact opIsnt_ok)
    | (cases h; exact opIn_ok hK hu)
    | (cases h; exact opNotin_ok hK hu)
theorem boots : ∀ b ∈ bltTab, bootBuiltins b.name = some (if b.isTy then .type b.id else .builtin b.id) := by decide +kernel
theorem bltOf_mem {x : Str} : ∀ {l : List Blt} {b : Blt}, bltOf x l = some b → b ∈ l ∧ x = b.name
  | [], b, h => by cases h
  | c :: l, b, h => by
    unfold bltOf at h
    split at h
    · next e =>
      cases h
      exact ⟨List.mem_cons_self, beq_iff_eq.mp e⟩
    · obtain ⟨h1, h2⟩ := bltOf_mem h
      exact ⟨List.mem_cons_of_mem _ h1, h2⟩
theorem blt_ok (hK : X.K = C.K) (hw : X.w = C.w) {b : Blt} (h : b ∈ bltTab) (hc : b.calm = true → X.calm = true) : CallR X (if b.isTy then .type b.id else .builtin b.id) (rFn C b.f) := by
  simp only [bltTab, List.mem_cons, List.not_mem_nil, or_false] at h
  rcases h with rfl | rfl | rfl | rfl | rfl | rfl | rfl | rfl | rfl | rfl | rfl
  · exact bLen_ok hK
  · exact bTuple_ok hK
  · exact bAll_ok hK (hc rfl)
  · exact bAny_ok hK (hc rfl)
  · exact bInt_ok
  · exact bAbs_ok
  · exact bMax_ok (hc rfl)
  · exact bMin_ok (hc rfl)
  · exact bSum_ok hK (hc rfl)
  · exact bSorted_ok hK hw (hc rfl)
  · exact bDict_ok hK (hc rfl)
theorem Okx.gl (O : Okx G C W X Wx Φ) {x : Str} (h : isGlob W.sc x = true) : Gl X x := by
  show X.env.scope.names.lookup x = _
  rw [O.sc]
  exact glob_ok h
theorem free_ok (O : Okx G C W X Wx Φ) {x : Str} (h : freeB G W x = true) : Gl X x ∧ X.mg x = none ∧ plainName x = true := by
  unfold freeB at h
  simp only [Bool.and_eq_true] at h
  exact ⟨O.gl h.1.1, O.un x (by simpa using h.1.2), h.2⟩
theorem boot_tys : ∀ p ∈ tyTab, bootBuiltins p.1 = some (.type (tyNm p.2)) := by decide +kernel
theorem tyOfName_mem {x : Str} : ∀ {l : List (Str × Ty)} {t : Ty}, tyOfName x l = some t → (x, t) ∈ l
  | [], t, h => by cases h
  | (y, u) :: l, t, h => by
    unfold tyOfName at h
    split at h
    · next e =>
      cases h
      rw [beq_iff_eq.mp e]
      exact List.mem_cons_self
    · exact List.mem_cons_of_mem _ (tyOfName_mem h)
theorem nmTy_ok (O : Okx G C W X Wx Φ) {x : Str} {u : Ty} (h : freeB G W x = true) (h2 : tyOfName x tyTab = some u) : NmTy X x u := by
  obtain ⟨h3, h4, h5⟩ := free_ok O h
  exact ⟨h3, h4, boot_tys _ (tyOfName_mem h2), (plain_ok h5).2.2, (plain_ok h5).1⟩
theorem nmTys_ok (O : Okx G C W X Wx Φ) : ∀ {es : List Expr} {us : List Ty}, cTys G W es = some us → NmTys X es us
  | [], us, h => by cases h; exact .nil
  | e :: r, us, h => by
    unfold cTys at h
    split at h
    · split at h
      · next hf =>
        split at h
        · next t ts h1 h2 =>
          cases h
          exact .cons (nmTy_ok O hf h1) (nmTys_ok O h2)
        · cases h
      · cases h
    · cases h
theorem base_eq {o : Expr} {m : Str} {env : PySem.Env} {whole : Sem Value} (h : plainE o = true) : attributeBase o m env whole = whole := by
  cases o with
  | Call f es kws pos =>
    cases f with
    | Name x p =>
      cases es with
      | nil => cases h
      | cons e es => rfl
    | _ => cases h
  | _ => first | rfl | cases h
theorem fold_eq {e : Expr} {env : PySem.Env} {x : Value} (h : plainE e = true ∨ ∃ f es ks pos, e = .Call f es ks pos) : foldedSetIterable e env x = pure x := by
  rcases h with h | ⟨f, es, ks, pos, rfl⟩
  · cases e <;> first | rfl | cases h
  · rfl

/-! ### targets -/
theorem slotsOf_mem {N : List Str} : ∀ {xs : List Str} {own : List (Str × Nat)}, slotsOf N xs = some own → ∀ x ∈ xs, ∀ i, slotOf x N 0 = some i → i ∈ own.map (·.2)
  | [], own, h, x, hx, i, hi => by cases hx
  | y :: ys, own, h, x, hx, i, hi => by
    unfold slotsOf at h
    split at h
    · next j r h1 h2 =>
      cases h
      rcases List.mem_cons.mp hx with rfl | hx
      · rw [h1] at hi
        cases hi
        simp
      · exact List.mem_cons_of_mem _ (slotsOf_mem h2 x hx i hi)
    · cases h
/-- the slots are those of the target's names -/
def SlotsIn (N : List Str) (is : List Nat) (xs : List Str) : Prop := ∀ i ∈ is, ∃ x ∈ xs, slotOf x N 0 = some i
theorem cG_ok (O : Okx G C W X Wx Φ) : ∀ (n : Nat) (e : Expr) (g : Tg), cG W n e = some g → ∃ is, PG X e (tG C is (isTupE e) g) ∧ ∀ m xs, tgNames m e = some xs → SlotsIn W.N is xs
  | 0, e, g, h => by cases h
  | n + 1, e, g, h => by
    unfold cG at h
    split at h
    · next x p =>
      split at h
      · next i hi =>
        have hx : X.N[i]? = some x := by rw [O.N]; exact slot0 hi
        have key : (Loc X.env.scope x ∧ (X.fn x = true ∨ X.env.scope.names.lookup x = some .local)) → g = setG i → ∃ is, PG X (.Name x p) (tG C is (isTupE (.Name x p)) g) ∧ ∀ m xs, tgNames m (.Name x p) = some xs → SlotsIn W.N is xs := by
          rintro ⟨h1, h2⟩ rfl
          refine ⟨[i], g_name O.nd hx h1 h2 rfl, fun m xs hm => ?_⟩
          cases m with
          | zero => cases hm
          | succ m =>
            cases hm
            rintro j hj
            have e : j = i := by simpa using hj
            subst e
            exact ⟨x, by simp, hi⟩
        split at h
        · next hl =>
          cases h
          exact key ⟨.inl (by rw [O.sc]; exact hl), .inr (by rw [O.sc]; exact hl)⟩ rfl
        · next hl =>
          split at h
          · next hb =>
            cases h
            exact key ⟨.inr (by rw [O.sc]; exact hl), .inl (by rw [O.fb]; exact hb)⟩ rfl
          · cases h
        · cases h
      · cases h
    · next es k p =>
      split at h
      · cases h
      · next hh =>
        have hhot : W.hot = false := by simpa using hh
        obtain ⟨gs, hgs, rfl⟩ := Option.map_eq_some_iff.mp h
        have go : ∀ (es : List Expr) (gs : List D → Env → Sto → Option Env), cG.go (cG W n) es = some gs → plains es = true ∧ ∃ is, PGs X es (tGs C is gs) ∧ ∀ m xs, tgNames.go (tgNames m) es = some xs → SlotsIn W.N is xs := by
          intro es
          induction es with
          | nil =>
            intro gs h
            cases h
            exact ⟨rfl, [], g_nil, fun m xs _ j hj => by cases hj⟩
          | cons e es ih =>
            intro gs h
            unfold cG.go at h
            split at h
            · next a b h1 h2 =>
              split at h
              · next hs =>
                cases h
                obtain ⟨p1, is2, k1, k2⟩ := ih b h2
                obtain ⟨is1, k3, k4⟩ := cG_ok O n e a h1
                refine ⟨by simp [plains, hs, p1], is1 ++ is2, g_cons k3 k1 hs, fun m xs hm => ?_⟩
                unfold tgNames.go at hm
                split at hm
                · next xa xb h3 h4 =>
                  cases hm
                  intro j hj
                  rcases List.mem_append.mp hj with hj | hj
                  · obtain ⟨x, hx, hi⟩ := k4 m xa h3 j hj
                    exact ⟨x, List.mem_append_left _ hx, hi⟩
                  · obtain ⟨x, hx, hi⟩ := k2 m xb h4 j hj
                    exact ⟨x, List.mem_append_right _ hx, hi⟩
                · cases hm
              · cases h
            · cases h
        obtain ⟨p1, is, k1, k2⟩ := go es gs hgs
        refine ⟨is, g_tup O.K (O.calm hhot) k1 p1, fun m xs hm => ?_⟩
        cases m with
        | zero => cases hm
        | succ m => exact k2 m xs hm
    · cases h
theorem slots_own {N : List Str} {is : List Nat} {xs : List Str} {own : List (Str × Nat)} (h : SlotsIn N is xs) (hs : slotsOf N xs = some own) : ∀ i ∈ is, i ∈ own.map (·.2) := fun i hi => by
  obtain ⟨x, hx, h1⟩ := h i hi
  exact slotsOf_mem hs x hx i h1
end
end EV

-- part EvSound2
set_option Elab.async false
set_option linter.all false
set_option maxRecDepth 100000
/-! What the compiled text does is what the text does: expressions, all at once. -/
namespace EV
open PySem PySem.Spec PyProof.Rows L2

/-- a comprehension's parts -/
inductive CompOk (C : Ctx) (Wx : WX) (Φ : Call) (X : Cx) (elt : Expr) (scope : Scope) : List Comprehension → M (List D) → Prop
  | one {tg iter : Expr} {ifs : List Expr} {own : List (Str × Nat)} {tp : Bool} {is : List Nat} {i : M EV.It} {g : Tg} {t : M Bool} {e : M D} (hi : PI X tg iter (tI C Wx Φ tp i)) (ok : BlkOk X.N X.env.scope scope own) (his : ∀ i ∈ is, i ∈ own.map (·.2))
      (hg : ∀ (s : Shared) (H : Hp) (Ca : Addr) (cl : List (Str × Addr)) (fp : List Addr), PG (X.blk s H scope (compEnvC scope cl Ca X.env) fp) tg (tG C is tp g))
      (ht : ∀ (s : Shared) (H : Hp) (Ca : Addr) (cl : List (Str × Addr)) (fp : List Addr), PTs (X.blk s H scope (compEnvC scope cl Ca X.env) fp) ifs (tT C noW Φ t))
      (he : ∀ (s : Shared) (H : Hp) (Ca : Addr) (cl : List (Str × Addr)) (fp : List Addr), PE (X.blk s H scope (compEnvC scope cl Ca X.env) fp) elt (tE C noW Φ e))
      (hs : ∀ x, foldedSetIterable iter X.env x = pure x) : CompOk C Wx Φ X elt scope [⟨tg, iter, ifs, 0⟩] (compI i (own.map (·.2)) g t e)
  | two {tg iter tg1 iter1 : Expr} {ifs ifs1 : List Expr} {own own1 : List (Str × Nat)} {tp tp1 : Bool} {is is1 : List Nat} {i i1 : M EV.It} {g g1 : Tg} {t t1 : M Bool} {e : M D} (hi : PI X tg iter (tI C Wx Φ tp i)) (ok : BlkOk X.N X.env.scope scope own) (hsub : ∀ i ∈ own1.map (·.2), i ∈ own.map (·.2)) (his : ∀ i ∈ is, i ∈ own.map (·.2)) (his1 : ∀ i ∈ is1, i ∈ own1.map (·.2))
      (hg : ∀ (s : Shared) (H : Hp) (Ca : Addr) (cl : List (Str × Addr)) (fp : List Addr), PG (X.blk s H scope (compEnvC scope cl Ca X.env) fp) tg (tG C is tp g))
      (ht : ∀ (s : Shared) (H : Hp) (Ca : Addr) (cl : List (Str × Addr)) (fp : List Addr), PTs (X.blk s H scope (compEnvC scope cl Ca X.env) fp) ifs (tT C noW Φ t))
      (hi1 : ∀ (s : Shared) (H : Hp) (Ca : Addr) (cl : List (Str × Addr)) (fp : List Addr), PI (X.blk s H scope (compEnvC scope cl Ca X.env) fp) tg1 iter1 (tI C noW Φ tp1 i1))
      (hg1 : ∀ (s : Shared) (H : Hp) (Ca : Addr) (cl : List (Str × Addr)) (fp : List Addr), PG (X.blk s H scope (compEnvC scope cl Ca X.env) fp) tg1 (tG C is1 tp1 g1))
      (ht1 : ∀ (s : Shared) (H : Hp) (Ca : Addr) (cl : List (Str × Addr)) (fp : List Addr), PTs (X.blk s H scope (compEnvC scope cl Ca X.env) fp) ifs1 (tT C noW Φ t1))
      (he : ∀ (s : Shared) (H : Hp) (Ca : Addr) (cl : List (Str × Addr)) (fp : List Addr), PE (X.blk s H scope (compEnvC scope cl Ca X.env) fp) elt (tE C noW Φ e))
      (hs : ∀ x, foldedSetIterable iter X.env x = pure x) (hs1 : ∀ env x, foldedSetIterable iter1 env x = pure x) : CompOk C Wx Φ X elt scope [⟨tg, iter, ifs, 0⟩, ⟨tg1, iter1, ifs1, 0⟩] (compI2 i (own.map (·.2)) g t i1 (own1.map (·.2)) g1 t1 e)
section
variable {G : Gs} {C : Ctx} {W : Wh} {X : Cx} {Wx : WX} {Φ : Call} {elt : Expr} {gens : List Comprehension} {scope : Scope} {c : M (List D)} {pos : Pos}
theorem CompOk.pe (O : Okx G C W X Wx Φ) (hh : W.hot = false) (h : CompOk C Wx Φ X elt scope gens c) : PE X (.ListComp elt gens scope pos) (tE C Wx Φ (compM c)) := by
  cases h with
  | one hi ok his hg ht he hs => exact PE_imp (pe_lc (O.calm hh) O.nd hi ok hg ht he hs) fun _ _ _ w => lc_tE his w
  | two hi ok hsub his his1 hg ht hi1 hg1 ht1 he hs hs1 => exact PE_imp (pe_lc2 (O.calm hh) O.nd hi ok hsub hg ht hi1 hg1 ht1 he hs hs1) fun _ _ _ w => lc2_tE his his1 w
theorem CompOk.sc {gn : Comprehension} (O : Okx G C W X Wx Φ) (hh : W.hot = false) (h : CompOk C Wx Φ X elt scope [gn] c) : PE X (.SetComp elt [gn] scope pos) (tE C Wx Φ (scompM c)) := by
  cases h with
  | one hi ok his hg ht he hs => exact PE_imp (pe_scI (O.calm hh) O.nd hi ok hg ht he hs) fun _ _ _ w => by rw [O.w]; exact sc_tE his w
theorem asg_set {i : Nat} {m : M D} {Z : Ends} {σ : L2.St} {H : Hp} (w : tS C Wx Φ (asgS (setG i) m) Z σ H) : tE C Wx Φ m σ H fun x H1 => Z.nx (σ.set i (some x)) H1 := by
  obtain ⟨ρ, env, st, hE, R, p⟩ := w
  refine tM_imp (tM_S hE R p) ?_
  rintro x H1 ⟨d1, st1, ρ1, s1, hE1, r1, p1⟩
  exact p1 _ H1 ρ1 (Step.refl s1.rel) (hE1.set r1)
theorem CompOk.ps {i : Nat} {y : Str} {py spos : Pos} (O : Okx G C W X Wx Φ) (hh : W.hot = false) (hy : X.N[i]? = some y) (hyl : X.env.scope.names.lookup y = some .local) (hsw : swapsWith (.ListComp elt gens scope pos) (some (.Name y py)) spos.line X.env = pure true) (h : CompOk C Wx Φ X elt scope gens c) :
    PS X (.Assign [.Name y py] (.ListComp elt gens scope pos) spos) (tS C Wx Φ (asgS (setG i) (compM c))) := by
  cases h with
  | one hi ok his hg ht he hs => exact PS_imp (ps_setLc (O.calm hh) O.nd hy hyl hsw hi ok hg ht he hs) fun _ _ _ w => lc_tE his (asg_set w)
  | two hi ok hsub his his1 hg ht hi1 hg1 ht1 he hs hs1 => exact PS_imp (ps_setLc2 (O.calm hh) O.nd hy hyl hsw hi ok hsub hg ht hi1 hg1 ht1 he hs hs1) fun _ _ _ w => lc2_tE his his1 (asg_set w)
theorem Okx.blk (O : Okx G C W X Wx Φ) (hh : W.hot = false) (s : Shared) (H : Hp) (Ca : Addr) (cl : List (Str × Addr)) (fp : List Addr) : Okx G C (blkW W scope) (X.blk s H scope (compEnvC scope cl Ca X.env) fp) noW Φ where
  K := O.K
  w := O.w
  N := O.N
  nd := O.nd
  sc := by
    show L2.relS scope X.env.scope = L2.relS scope W.sc
    rw [O.sc]
  fb := rfl
  u := O.u
  un := O.un
  cst := O.cst
  cls := O.cls
  rai := fun h x c hx => by
    have A := O.rai hh x c hx
    exact ⟨A.mg, A.oex, A.no, A.nd, A.few, A.init⟩
  fl := O.fl
  exx := O.exx
  calm := fun _ => O.calm hh
  tk := fun _ u s' x => by
    obtain ⟨a, B, sI, pins, σ, H, cls, d, _, _, _, _, _, _, _, _, w⟩ := x
    exact w.elim
  fn := fun _ x g ps hx => by
    obtain ⟨fa, k, fd, F, kw⟩ := O.fn hh x g ps hx
    exact ⟨fa, k, fd, ⟨F.mg, F.keep, F.room, F.ok, F.bind⟩, kw⟩
  held := fun h => by
    have : W.hot = true := h
    rw [hh] at this
    cases this
  xa := fun _ => O.xa hh
/-- the parts of the induction -/
structure Snd (G : Gs) (C : Ctx) (W : Wh) (X : Cx) (Wx : WX) (Φ : Call) (n : Nat) : Prop where
  e : ∀ e m, cE G W n e = some m → PE X e (tE C Wx Φ m)
  t : ∀ e m, cT G W n e = some m → PT X e (tT C Wx Φ m) ∧ ∀ op es pos, e = .BoolOp op es pos → PW X e (tT C Wx Φ m)
  a : ∀ es m, cA G W n es = some m → PA X es (tA C Wx Φ m)
  b : ∀ o m, cB G W n o = some m → PO X o (tO C Wx Φ m)
  k : ∀ ks m, cK G W n ks = some m → PK X ks (tA C Wx Φ m)
  i : ∀ tg e m, cI G W n tg e = some m → PI X tg e (tI C Wx Φ (isTupE tg) m) ∧ ∀ env x, foldedSetIterable e env x = pure x
  c : ∀ elt gens scope m, W.hot = false → cC G W n elt gens scope = some m → CompOk C Wx Φ X elt scope gens m
  f : ∀ ifs m, cF G W n ifs = some m → PTs X ifs (tT C Wx Φ m)
theorem lkO_ok {e : Expr} {m : M D} {o : Option Nat} (h : PE X e (tE C Wx Φ m)) : PE X e (tE C Wx Φ (lkO o m)) := by
  cases o with
  | none => exact h
  | some i => exact s_lock h
end
end EV

-- part EvSound3
set_option Elab.async false
set_option linter.all false
set_option maxRecDepth 100000
/-! The induction over the text's expressions. -/
namespace EV
open PySem PySem.Spec PyProof.Rows L2
section
variable {G : Gs} {C : Ctx} {Φ : Call} {n : Nat}
/-- what is known at the fuel below -/
abbrev Ih (G : Gs) (C : Ctx) (Φ : Call) (n : Nat) : Prop := ∀ (W : Wh) (X : Cx) (Wx : WX), Okx G C W X Wx Φ → Snd G C W X Wx Φ n
section
variable {W : Wh} {X : Cx} {Wx : WX}
theorem snd_a (O : Okx G C W X Wx Φ) (ih : Snd G C W X Wx Φ n) : ∀ es m, cA G W (n + 1) es = some m → PA X es (tA C Wx Φ m) := by
  intro es m h
  unfold cA at h
  split at h
  · cases h
    exact s_nil
  · split at h
    · split at h
      · next x y h1 h2 =>
        cases h
        exact s_star O.K (ih.e _ _ h1) (ih.a _ _ h2)
      · cases h
    · split at h
      · next hs =>
        split at h
        · next x y h1 h2 =>
          cases h
          exact s_cons hs (ih.e _ _ h1) (ih.a _ _ h2)
        · cases h
      · cases h
theorem snd_b (ih : Snd G C W X Wx Φ n) : ∀ o m, cB G W (n + 1) o = some m → PO X o (tO C Wx Φ m) := by
  intro o m h
  unfold cB at h
  split at h
  · cases h
    exact s_noB
  · obtain ⟨x, h1, rfl⟩ := Option.map_eq_some_iff.mp h
    exact s_someB (ih.e _ _ h1)
theorem snd_k (ih : Snd G C W X Wx Φ n) : ∀ ks m, cK G W (n + 1) ks = some m → PK X ks (tA C Wx Φ m) := by
  intro ks m h
  unfold cK at h
  split at h
  · cases h
    exact k_nil
  · split at h
    · next x y h1 h2 =>
      cases h
      exact k_cons (ih.e _ _ h1) (ih.k _ _ h2)
    · cases h
theorem snd_f (ih : Snd G C W X Wx Φ n) : ∀ ifs m, cF G W (n + 1) ifs = some m → PTs X ifs (tT C Wx Φ m) := by
  intro ifs m h
  unfold cF at h
  split at h
  · cases h
    refine ⟨fun pins s σ H Q I w => pts_nil.run pins s σ H Q I ?_⟩
    obtain ⟨ρ, env, st, hE, R, p⟩ := w
    exact Post.ok (b := true) R p rfl
  · exact pts_one (ih.t _ _ h).1
  · cases h
theorem tup_shape {tg : Expr} (h : isTupE tg = true) : ∃ es k p, tg = .Tuple es k p := by
  cases tg <;> first | exact ⟨_, _, _, rfl⟩ | cases h
theorem snd_i (O : Okx G C W X Wx Φ) (ih : Snd G C W X Wx Φ n) : ∀ tg e m, cI G W (n + 1) tg e = some m → PI X tg e (tI C Wx Φ (isTupE tg) m) ∧ ∀ env x, foldedSetIterable e env x = pure x := by
  intro tg e m h
  unfold cI at h
  split at h
  · next x p es kws pos =>
    refine ⟨?_, fun env y => fold_eq (.inr ⟨_, _, _, _, rfl⟩)⟩
    have val : ∀ {m}, (cE G W n (.Call (.Name x p) es kws pos)).map itM = some m → PI X tg (.Call (.Name x p) es kws pos) (tI C Wx Φ (isTupE tg) m) := by
      intro m h
      obtain ⟨x, h1, rfl⟩ := Option.map_eq_some_iff.mp h
      exact i_val O.K (ih.e _ _ h1)
    split at h
    · next hf =>
      obtain ⟨g1, g2, g3⟩ := free_ok O hf
      split at h
      · next hx =>
        obtain rfl := beq_iff_eq.mp hx
        split at h
        · next a =>
          split at h
          · next hs =>
            obtain ⟨x, h1, rfl⟩ := Option.map_eq_some_iff.mp h
            exact i_rng1 g1 g2 (ih.a _ _ h1) hs
          · cases h
        · next a b =>
          split at h
          · next hs =>
            rw [Bool.and_eq_true] at hs
            obtain ⟨x, h1, rfl⟩ := Option.map_eq_some_iff.mp h
            exact i_rng2 g1 g2 (ih.a _ _ h1) hs.1 hs.2
          · cases h
        · cases h
      · split at h
        · next hx =>
          obtain rfl := beq_iff_eq.mp hx
          split at h
          · next a =>
            split at h
            · next hs =>
              rw [Bool.and_eq_true] at hs
              obtain ⟨x, h1, rfl⟩ := Option.map_eq_some_iff.mp h
              obtain ⟨_, _, _, rfl⟩ := tup_shape hs.2
              exact i_enum O.K g1 g2 (ih.e _ _ h1) hs.1
            · cases h
          · cases h
        · split at h
          · next hx =>
            obtain rfl := beq_iff_eq.mp hx
            split at h
            · next a b =>
              split at h
              · next hs =>
                simp only [Bool.and_eq_true] at hs
                split at h
                · next x y h1 h2 =>
                  cases h
                  obtain ⟨_, _, _, rfl⟩ := tup_shape hs.2
                  exact i_zip O.K g1 g2 (ih.e _ _ h1) (ih.e _ _ h2) hs.1.1 hs.1.2
                · cases h
              · cases h
            · cases h
          · exact val h
    · exact val h
  · split at h
    · next hp =>
      obtain ⟨x, h1, rfl⟩ := Option.map_eq_some_iff.mp h
      exact ⟨i_val O.K (ih.e _ _ h1), fun env y => fold_eq (.inl hp)⟩
    · cases h
theorem slots_sub {N : List Str} {xs ys : List Str} {own own1 : List (Str × Nat)} (h1 : slotsOf N (xs ++ ys) = some own) (h2 : slotsOf N ys = some own1) : ∀ i ∈ own1.map (·.2), i ∈ own.map (·.2) := by
  have mem : ∀ {ys : List Str} {own1 : List (Str × Nat)}, slotsOf N ys = some own1 → ∀ i ∈ own1.map (·.2), ∃ y ∈ ys, slotOf y N 0 = some i := by
    intro ys
    induction ys with
    | nil =>
      intro own1 h i hi
      cases h
      cases hi
    | cons y ys ih =>
      intro own1 h i hi
      unfold slotsOf at h
      split at h
      · next j r h1 h2 =>
        cases h
        simp only [List.map_cons, List.mem_cons] at hi
        rcases hi with rfl | hi
        · exact ⟨y, List.mem_cons_self, h1⟩
        · obtain ⟨z, hz, e⟩ := ih h2 i hi
          exact ⟨z, List.mem_cons_of_mem _ hz, e⟩
      · cases h
  intro i hi
  obtain ⟨y, hy, e⟩ := mem h2 i hi
  exact slotsOf_mem h1 y (List.mem_append_right _ hy) i e
theorem snd_c (O : Okx G C W X Wx Φ) (ih : Ih G C Φ n) : ∀ elt gens scope m, W.hot = false → cC G W (n + 1) elt gens scope = some m → CompOk C Wx Φ X elt scope gens m := by
  intro elt gens scope m hh h
  have I := ih W X Wx O
  have B : ∀ (s : Shared) (H : Hp) (Ca : Addr) (cl : List (Str × Addr)) (fp : List Addr), Snd G C (blkW W scope) (X.blk s H scope (compEnvC scope cl Ca X.env) fp) noW Φ n := fun s H Ca cl fp => ih _ _ _ (O.blk hh s H Ca cl fp)
  have Gt : ∀ {tg : Expr} {g : Tg} {xs : List Str} {own : List (Str × Nat)}, cG (blkW W scope) 8 tg = some g → tgNames 8 tg = some xs → slotsOf W.N xs = some own →
      ∃ is, (∀ i ∈ is, i ∈ own.map (·.2)) ∧ ∀ (s : Shared) (H : Hp) (Ca : Addr) (cl : List (Str × Addr)) (fp : List Addr), PG (X.blk s H scope (compEnvC scope cl Ca X.env) fp) tg (tG C is (isTupE tg) g) := by
    intro tg g xs own h1 h2 h3
    refine ⟨own.map (·.2), fun i hi => hi, fun s H Ca cl fp => ?_⟩
    obtain ⟨is, k1, k2⟩ := cG_ok (O.blk hh s H Ca cl fp) 8 tg g h1
    exact g_is (slots_own (k2 8 xs h2) h3) k1
  unfold cC at h
  split at h
  · next tg iter ifs isA =>
    split at h
    · next xs h0 =>
      split at h
      · next own hown =>
        split at h
        · next hb =>
          split at h
          · next i g t e h1 h2 h3 h4 =>
            cases h
            obtain ⟨is, k1, k2⟩ := Gt h2 h0 hown
            obtain ⟨w1, w2⟩ := I.i _ _ _ h1
            exact .one w1 (by rw [O.N, O.sc]; exact blkOk_by hb) k1 k2 (fun s H Ca cl fp => (B s H Ca cl fp).f _ _ h3) (fun s H Ca cl fp => (B s H Ca cl fp).e _ _ h4) (w2 _)
          · cases h
        · cases h
      · cases h
    · cases h
  · next tg iter ifs isA tg1 iter1 ifs1 isA1 =>
    split at h
    · next xs ys h0 h01 =>
      split at h
      · next own own1 hown hown1 =>
        split at h
        · next hb =>
          split at h
          · next i g t i1 g1 t1 e h1 h2 h3 h5 h6 h7 h4 =>
            cases h
            have hown0 : ∃ own0, slotsOf W.N xs = some own0 ∧ ∀ i ∈ own0.map (·.2), i ∈ own.map (·.2) := by
              have cut : ∀ {xs ys : List Str} {own : List (Str × Nat)}, slotsOf W.N (xs ++ ys) = some own → ∃ own0, slotsOf W.N xs = some own0 ∧ ∀ i ∈ own0.map (·.2), i ∈ own.map (·.2) := by
                intro xs
                induction xs with
                | nil => intro ys own h; exact ⟨[], rfl, fun i hi => by cases hi⟩
                | cons x xs ihx =>
                  intro ys own h
                  rw [List.cons_append] at h
                  unfold slotsOf at h
                  split at h
                  · next j r h1 h2 =>
                    cases h
                    obtain ⟨o0, q1, q2⟩ := ihx h2
                    refine ⟨(x, j) :: o0, by unfold slotsOf; rw [h1, q1], fun i hi => ?_⟩
                    simp only [List.map_cons, List.mem_cons] at hi ⊢
                    rcases hi with rfl | hi
                    · exact .inl rfl
                    · exact .inr (q2 i hi)
                  · cases h
              exact cut hown
            obtain ⟨own0, q1, q2⟩ := hown0
            obtain ⟨is, k1, k2⟩ := Gt h2 h0 q1
            obtain ⟨is1, k3, k4⟩ := Gt h6 h01 hown1
            obtain ⟨w1, w2⟩ := I.i _ _ _ h1
            refine .two w1 (by rw [O.N, O.sc]; exact blkOk_by hb) (slots_sub hown hown1) (fun i hi => q2 i (k1 i hi)) k3 k2 (fun s H Ca cl fp => (B s H Ca cl fp).f _ _ h3) (fun s H Ca cl fp => ((B s H Ca cl fp).i _ _ _ h5).1) k4 (fun s H Ca cl fp => (B s H Ca cl fp).f _ _ h7) (fun s H Ca cl fp => (B s H Ca cl fp).e _ _ h4) (w2 _) fun env x => ?_
            exact ((B X.s_0 X.H_0 0 [] []).i _ _ _ h5).2 env x
          · cases h
        · cases h
      · cases h
    · cases h
  · cases h
theorem snd_t (O : Okx G C W X Wx Φ) (ih : Snd G C W X Wx Φ n) : ∀ e m, cT G W (n + 1) e = some m → PT X e (tT C Wx Φ m) ∧ ∀ op es pos, e = .BoolOp op es pos → PW X e (tT C Wx Φ m) := by
  intro e m h
  unfold cT at h
  split at h
  · split at h
    · obtain ⟨x, h1, rfl⟩ := Option.map_eq_some_iff.mp h
      exact ⟨s_notT (ih.t _ _ h1).1, fun _ _ _ z => nomatch z⟩
    · cases h
  · next op es pos =>
    have key : PW X (.BoolOp op es pos) (tT C Wx Φ m) := by
      split at h
      · cases h
      · exact s_oneT (ih.t _ _ h).1
      · next a b r =>
        split at h
        · next x y h1 h2 =>
          cases h
          cases op with
          | And => exact s_andT (ih.t _ _ h1).1 ((ih.t _ _ h2).2 _ _ _ rfl)
          | Or => exact s_orT (ih.t _ _ h1).1 ((ih.t _ _ h2).2 _ _ _ rfl)
        · cases h
    exact ⟨key.pt, fun _ _ _ _ => key⟩
  · next a ops bs pos =>
    refine ⟨?_, fun _ _ _ z => nomatch z⟩
    split at h
    · next op b =>
      split at h
      · next f x y h1 h2 h3 =>
        split at h
        · cases h
        · next hm =>
          cases h
          exact s_cmpT (cmp_ok O.K O.u h1) (ih.e _ _ h2) (ih.e _ _ h3) (by simpa using hm)
      · cases h
    · next op op' b c =>
      split at h
      · next f g x y z h1 h2 h3 h4 h5 =>
        split at h
        · cases h
        · next hm =>
          cases h
          exact s_chainT (cmp_ok O.K O.u h1) (cmp_ok O.K O.u h2) (ih.e _ _ h3) (ih.e _ _ h4) (ih.e _ _ h5) (by simpa using hm)
      · cases h
    · cases h
  · obtain ⟨x, h1, rfl⟩ := Option.map_eq_some_iff.mp h
    exact ⟨s_val O.K (ih.e _ _ h1) fun _ => rfl, fun _ _ _ z => nomatch z⟩
  · obtain ⟨x, h1, rfl⟩ := Option.map_eq_some_iff.mp h
    exact ⟨s_val O.K (ih.e _ _ h1) fun _ => rfl, fun _ _ _ z => nomatch z⟩
  · obtain ⟨x, h1, rfl⟩ := Option.map_eq_some_iff.mp h
    exact ⟨s_val O.K (ih.e _ _ h1) fun _ => rfl, fun _ _ _ z => nomatch z⟩
  · cases h
end
end
end EV

-- part EvSound4
set_option Elab.async false
set_option linter.all false
set_option maxRecDepth 100000
/-! The induction over the text's expressions: values. -/
namespace EV
open PySem PySem.Spec PyProof.Rows L2
section
variable {G : Gs} {C : Ctx} {Φ : Call} {n : Nat} {W : Wh} {X : Cx} {Wx : WX}
theorem codes_ws (x : Str) : ws (codes x) = x := by
  show (⟨x.cps.toList.toArray⟩ : Str) = x
  simp
theorem fits_ok {x : List Nat} (h : strFits x = true) : x.length ≤ sizeLine ∧ x.all (Nat.blt · 0x110000) = true := by
  unfold strFits at h
  rw [Bool.and_eq_true] at h
  exact ⟨le_line h.1, h.2⟩
/-- e.f where the class does not know f: never come to -/
theorem s_never {e : Expr} {m : M D} {f : Str} {k : Nat → Option Nat} {a : Addr} {cn : Nat} {dd : Addr} {pos : Pos} (L : Held C X a cn dd) (he : PE X e (tE C Wx Φ m)) (hb : attributeBase e f X.env (eval e X.env) = eval e X.env) (hk : k cn = none) : PE X (.Attribute e f pos) (tE C Wx Φ (op1M (excF k) m)) := by
  refine ⟨fun pins s σ H Q I w => ?_⟩
  obtain ⟨ρ, env, st, hE, R, p⟩ := w
  have q : tE C Wx Φ m σ H fun _ _ => False := by
    refine tM_imp (tM_bind hE R p) ?_
    rintro x H1 ⟨d1, st1, ρ1, s1, hE1, r1, p1⟩
    cases d1 with
    | exn c ds =>
      obtain ⟨a2, dd2, fs, vs, e1, _⟩ := exn_iff.mp r1
      rw [L.xa] at e1
      cases e1
      simp only [excF, hk] at p1
      exact p1
    | _ => exact p1
  exact attr_of hb (thn (he.run pins s σ H _ I q) fun u s1 hh => by
    obtain ⟨_, _, _, _, f⟩ := hh
    exact f.elim)
theorem snd_isi (O : Okx G C W X Wx Φ) (ih : Snd G C W X Wx Φ n) {p pos : Pos} {a t : Expr} {m : M D} (hg : Gl X "isinstance") (hm : X.mg "isinstance" = none) (hs : notStar a = true) (h : (match t with
      | .Name y _ => if freeB G W y then (match cE G W n a, tyOfName y tyTab with
          | some m, some u => some (op1M (bIsinst [u]) m)
          | _, _ => none)
        else if W.hot && isGlob W.sc y && plainName y then (match gvOf y G.tab with
          | some (.cls c0 _) => (cE G W n a).map (op1M (excIs fun c => G.sub c c0))
          | _ => none) else none
      | .Tuple ts _ _ => (match cE G W n a, cTys G W ts with
        | some m, some us => if Nat.ble us.length 100 then some (op1M (bIsinst us) m) else none
        | _, _ => none)
      | _ => none) = some m) : PE X (.Call (.Name "isinstance" p) [a, t] [] pos) (tE C Wx Φ m) := by
  split at h
  · next y py =>
    split at h
    · next hf =>
      split at h
      · next m' u h1 h2 =>
        cases h
        exact s_isi O.K hg hm (ih.e _ _ h1) hs (nmTy_ok O hf h2)
      · cases h
    · split at h
      · next hc =>
        simp only [Bool.and_eq_true] at hc
        split at h
        · next c0 r hv =>
          obtain ⟨m', h1, rfl⟩ := Option.map_eq_some_iff.mp h
          obtain ⟨a2, cn, dd, c1, L, hsub⟩ := O.held hc.1.1
          exact s_isE L hg hm (ih.e _ _ h1) hs (pe_glob (O.gl hc.1.2) (O.cls _ _ _ hv) rfl (plain_ok hc.2).1) fun b hb => (O.exx cn c0 b hb).2.1
        · cases h
      · cases h
  · next ts k pt =>
    split at h
    · next m' us h1 h2 =>
      split at h
      · next hl =>
        cases h
        exact s_isiT O.K hg hm (ih.e _ _ h1) hs (nmTys_ok O h2) (Nat.le_of_ble_eq_true hl)
      · cases h
    · cases h
  · cases h
theorem snd_call (O : Okx G C W X Wx Φ) (ih : Snd G C W X Wx Φ n) {f : Expr} {es : List Expr} {kws : List Keyword} {cpos : Pos} {m : M D} (h : cE G W (n + 1) (.Call f es kws cpos) = some m) : PE X (.Call f es kws cpos) (tE C Wx Φ m) := by
  unfold cE at h
  dsimp only at h
  split at h
  · next x p =>
    split at h
    · next hx =>
      rw [Bool.and_eq_true] at hx
      have hg := O.gl hx.2
      have pl := plain_ok hx.1
      split at h
      · next g ps hv =>
        split at h
        · cases h
        · next hh =>
          have hh : W.hot = false := by simpa using hh
          obtain ⟨fa, k, fd, F, kw⟩ := O.fn hh x g ps hv
          split at h
          · split at h
            · next e es =>
              split at h
              · next hp =>
                obtain ⟨ms, h1, rfl⟩ := Option.map_eq_some_iff.mp h
                exact s_call F (O.tk hh) hg pl.1 hp (ih.a _ _ h1)
              · cases h
            · cases h
              exact s_call0 F (O.tk hh) hg pl.1
          · next kws hne =>
            split at h
            · next ks hks =>
              split at h
              · next is his =>
                have B := kw _ _ _ his
                split at h
                · obtain ⟨mk, h1, rfl⟩ := Option.map_eq_some_iff.mp h
                  exact s_callK0 F B (O.tk hh) hg pl.1 hks (ih.k _ _ h1)
                · next e es =>
                  split at h
                  · next hp =>
                    split at h
                    · next a b h1 h2 =>
                      cases h
                      exact s_callK F B (O.tk hh) hg pl.1 hp hks (ih.a _ _ h1) (ih.k _ _ h2)
                    · cases h
                  · cases h
              · cases h
            · cases h
      · cases h
      · next hv =>
        split at h
        · cases h
        · next hfr =>
        have hm := O.un x (by simpa using hfr)
        split at h
        · next he =>
          obtain rfl := beq_iff_eq.mp he
          split at h
          · next a t =>
            split at h
            · next hs => exact snd_isi O ih hg hm hs h
            · cases h
          · cases h
        · split at h
          · next b e es hb =>
            split at h
            · next hp =>
              rw [Bool.and_eq_true] at hp
              obtain ⟨ms, h1, rfl⟩ := Option.map_eq_some_iff.mp h
              obtain ⟨mem, rfl⟩ := bltOf_mem hb
              have hc : b.calm = true → X.calm = true := fun q => by
                refine O.calm ?_
                have := hp.2
                rw [q] at this
                simpa using this
              have cr := blt_ok (X := X) O.K O.w mem hc
              have bt := boots b mem
              cases hty : b.isTy with
              | true =>
                rw [hty, if_pos rfl] at cr bt
                exact s_ty cr hg hm bt (ih.a _ _ h1) pl.2.2 pl.1 hp.1
              | false =>
                rw [hty, if_neg Bool.false_ne_true] at cr bt
                exact s_blt cr hg hm bt (ih.a _ _ h1) pl.2.2 pl.1 hp.1
            · cases h
          · cases h
    · cases h
  · next o mm apos =>
    split at h
    · next a =>
      split at h
      · next hc =>
        simp only [Bool.and_eq_true] at hc
        split at h
        · next x y h1 h2 =>
          split at h
          · next he =>
            obtain rfl := beq_iff_eq.mp he
            cases h
            exact s_meth PySem.F.plainAttrs_list PySem.F.slot_list_append PySem.F.type_list_append append_ok O.K (ih.e _ _ h1) (ih.e _ _ h2) hc.1.1.2 (base_eq hc.1.1.1) hc.2
          · split at h
            · next he =>
              obtain rfl := beq_iff_eq.mp he
              cases h
              exact s_meth PySem.F.plainAttrs_list PySem.F.slot_list_index PySem.F.type_list_index (index_ok O.K O.u) O.K (ih.e _ _ h1) (ih.e _ _ h2) hc.1.1.2 (base_eq hc.1.1.1) hc.2
            · cases h
        · cases h
      · cases h
    · cases h
  · cases h
theorem snd_e (O : Okx G C W X Wx Φ) (ih : Snd G C W X Wx Φ n) (ihc : ∀ elt gens scope m, W.hot = false → cC G W n elt gens scope = some m → CompOk C Wx Φ X elt scope gens m) : ∀ e m, cE G W (n + 1) e = some m → PE X e (tE C Wx Φ m) := by
  intro e m h
  cases e with
  | Call f es kws pos => exact snd_call O ih h
  | Name x pos =>
    unfold cE at h
    dsimp only at h
    split at h
    · next hp =>
      split at h
      · next hv =>
        obtain ⟨i, hi, rfl⟩ := Option.map_eq_some_iff.mp h
        exact s_var (pe_slot O.N O.sc hp hv hi)
      · split at h
        · next hg =>
          split at h
          · next d hd =>
            cases h
            obtain ⟨v, u, h1, h2, h3⟩ := O.cst x d hd
            exact s_cst (pe_glob (O.gl hg) h1 h2 (plain_ok hp).1) h3
          · cases h
        · cases h
    · cases h
  | Constant c j pos =>
    unfold cE at h
    dsimp only at h
    split at h
    · cases h; exact s_cst pe_non fun _ _ => rel_non
    · cases h; exact s_cst pe_bl fun _ _ => rel_bl
    · cases h; exact s_cst pe_int fun _ _ => rel_int
    · next x =>
      split at h
      · next hf =>
        cases h
        obtain ⟨h1, h2⟩ := fits_ok hf
        refine s_cst pe_str fun ρ H => ?_
        have q := rel_str (C := C) (ρ := ρ) (H := H) h1 h2
        rwa [codes_ws] at q
      · cases h
    · cases h
  | BinOp a op b pos =>
    unfold cE at h
    dsimp only at h
    split at h
    · next f x y h1 h2 h3 =>
      cases h
      exact s_bin (op2_ok O.K h1) (ih.e _ _ h2) (ih.e _ _ h3)
    · cases h
  | UnaryOp op a pos =>
    unfold cE at h
    dsimp only at h
    split at h
    · obtain ⟨x, h1, rfl⟩ := Option.map_eq_some_iff.mp h
      exact s_neg (ih.e _ _ h1)
    · obtain ⟨x, h1, rfl⟩ := Option.map_eq_some_iff.mp h
      exact s_not O.K (ih.e _ _ h1)
    · cases h
  | BoolOp op es pos =>
    unfold cE at h
    dsimp only at h
    split at h
    · cases h
    · exact s_one (ih.e _ _ h)
    · split at h
      · next x y h1 h2 =>
        cases h
        cases op with
        | And => exact s_and O.K (ih.e _ _ h1) (ih.e _ _ h2)
        | Or => exact s_or O.K (ih.e _ _ h1) (ih.e _ _ h2)
      · cases h
  | Compare a ops bs pos =>
    unfold cE at h
    dsimp only at h
    split at h
    · next op b =>
      split at h
      · next f x y h1 h2 h3 =>
        split at h
        · cases h
        · next hm =>
          cases h
          exact s_cmp (cmp_ok O.K O.u h1) (ih.e _ _ h2) (ih.e _ _ h3) (by simpa using hm)
      · cases h
    · next op op' b c =>
      split at h
      · next f g x y z h1 h2 h3 h4 h5 =>
        split at h
        · cases h
        · next hm =>
          cases h
          exact s_chain (cmp_ok O.K O.u h1) (cmp_ok O.K O.u h2) (ih.e _ _ h3) (ih.e _ _ h4) (ih.e _ _ h5) (by simpa using hm)
      · cases h
    · cases h
  | IfExp t a b pos =>
    unfold cE at h
    dsimp only at h
    split at h
    · next x y z h1 h2 h3 =>
      cases h
      exact s_if (ih.t _ _ h1).1 (ih.e _ _ h2) (ih.e _ _ h3)
    · cases h
  | Tuple es k pos =>
    unfold cE at h
    obtain ⟨x, h1, rfl⟩ := Option.map_eq_some_iff.mp h
    exact s_tup (ih.a _ _ h1)
  | List es pos =>
    unfold cE at h
    obtain ⟨x, h1, rfl⟩ := Option.map_eq_some_iff.mp h
    exact s_lst (ih.a _ _ h1)
  | Dict ks vs pos =>
    unfold cE at h
    dsimp only at h
    split at h
    · cases h; exact s_dnew
    · cases h
  | Subscript a i pos =>
    unfold cE at h
    dsimp only at h
    split at h
    · next lo hi st p2 =>
      split at h
      · next x l hh h1 h2 h3 =>
        cases h
        exact s_slice O.K (ih.e _ _ h1) (ih.b _ _ h2) (ih.b _ _ h3)
      · cases h
    · split at h
      · next hs =>
        split at h
        · next x y h1 h2 =>
          cases h
          exact s_ix O.K O.u (ih.e _ _ h1) (ih.e _ _ h2) hs
        · cases h
      · cases h
  | Attribute o f pos =>
    unfold cE at h
    dsimp only at h
    split at h
    · next hc =>
      rw [Bool.and_eq_true] at hc
      obtain ⟨x, h1, rfl⟩ := Option.map_eq_some_iff.mp h
      obtain ⟨a2, cn, dd, c1, L, hsub⟩ := O.held hc.1
      cases hk : slotOf f (G.fld cn) 0 with
      | none => exact s_never L (ih.e _ _ h1) (base_eq hc.2) hk
      | some i =>
        refine s_xf L (ih.e _ _ h1) (base_eq hc.2) ((O.exx cn c1 true hsub).2.2.2.2 f (List.mem_of_getElem? (slot0 hk))) fun c j hj => ?_
        rw [O.fl]
        exact slot0 hj
    · cases h
  | ListComp elt gens scope pos =>
    unfold cE at h
    dsimp only at h
    split at h
    · cases h
    · next hh =>
      have hh : W.hot = false := by simpa using hh
      obtain ⟨c, h1, rfl⟩ := Option.map_eq_some_iff.mp h
      exact lkO_ok ((ihc _ _ _ _ hh h1).pe O hh)
  | SetComp elt gens scope pos =>
    unfold cE at h
    dsimp only at h
    split at h
    · cases h
    · next hh =>
      have hh : W.hot = false := by simpa using hh
      split at h
      · obtain ⟨c, h1, rfl⟩ := Option.map_eq_some_iff.mp h
        exact lkO_ok ((ihc _ _ _ _ hh h1).sc O hh)
      · cases h
  | _ => unfold cE at h; cases h
end
theorem snd_all {G : Gs} {C : Ctx} {Φ : Call} : ∀ n, Ih G C Φ n
  | 0 => fun W X Wx O => by
    refine ⟨?_, ?_, ?_, ?_, ?_, ?_, ?_, ?_⟩
    · intro e m h; cases h
    · intro e m h; cases h
    · intro e m h; cases h
    · intro e m h; cases h
    · intro e m h; cases h
    · intro tg e m h; cases h
    · intro elt gens scope m hh h; cases h
    · intro e m h; cases h
  | n + 1 => fun W X Wx O =>
    have ih := snd_all (G := G) (C := C) (Φ := Φ) n
    have I := ih W X Wx O
    ⟨snd_e O I I.c, snd_t O I, snd_a O I, snd_b I, snd_k I, snd_i O I, snd_c O ih, snd_f I⟩
end EV

-- part EvSound5
set_option Elab.async false
set_option linter.all false
set_option maxRecDepth 100000
/-! The induction over the text's statements. -/
namespace EV
open PySem PySem.Spec PyProof.Rows L2

/-- what stands around a statement -/
structure Oks (G : Gs) (C : Ctx) (W : Wh) (X : Cx) (Wx : WX) (Φ : Call) : Prop where
  x : Okx G C W X Wx Φ
  po : W.hot = false → PassesOwn (model X.prog X.w) X.A X.env X.xe
  st : X.stack = X.env :: X.outer
  fr : X.env.frame = some X.env.locals
  kind : X.env.scope.kind = .function
section
variable {G : Gs} {C : Ctx} {W : Wh} {X : Cx} {Wx : WX} {Φ : Call}
theorem Oks.tr (O : Oks G C W X Wx Φ) (hh : W.hot = false) {W' : WX} {pn : List (Addr × Obj)} {xe : Value → Shared → Prop} (tk : Takes (X.tr pn xe) W') (po : PassesOwn (model X.prog X.w) X.A X.env xe) : Oks G C W (X.tr pn xe) W' Φ where
  x :=
    { K := O.x.K, w := O.x.w, N := O.x.N, nd := O.x.nd, sc := O.x.sc, fb := O.x.fb, u := O.x.u, un := O.x.un, cst := O.x.cst, cls := O.x.cls
      rai := fun h x c hx => by
        have A := O.x.rai hh x c hx
        exact ⟨A.mg, A.oex, A.no, A.nd, A.few, A.init⟩
      fl := O.x.fl, exx := O.x.exx, calm := O.x.calm
      tk := fun _ => tk
      fn := fun _ x g ps hx => by
        obtain ⟨fa, k, fd, F, kw⟩ := O.x.fn hh x g ps hx
        exact ⟨fa, k, fd, ⟨F.mg, F.keep, F.room, F.ok, F.bind⟩, kw⟩
      held := fun h => by rw [hh] at h; cases h
      xa := O.x.xa }
  po := fun _ => po
  st := O.st
  fr := O.fr
  kind := O.kind
theorem Oks.suite (O : Oks G C W X Wx Φ) (hh : W.hot = false) {a : Addr} {oe : Obj} {cn c0 : Nat} {dd : Addr} {pn : List (Addr × Obj)} (hs : G.sub cn c0 = some true) (hz : Zc (.ref (C.ca cn)) (some dd) oe) (hf : ∃ vs, oe.data = .fields vs) :
    Oks G (C.at_ (some (a, cn, dd))) ⟨W.N, W.sc, W.fb, true⟩ (X.suite a ((a, oe) :: pn)) noW Φ where
  x :=
    { K := O.x.K, w := O.x.w, N := O.x.N, nd := O.x.nd, sc := O.x.sc, fb := O.x.fb, u := O.x.u, un := O.x.un
      cst := fun x d hx => by
        obtain ⟨v, u, h1, h2, h3⟩ := O.x.cst x d hx
        exact ⟨v, u, h1, h2, fun ρ H => RelD.up (O.x.xa hh) _ _ (h3 ρ H)⟩
      cls := O.x.cls
      rai := fun h => by cases h
      fl := O.x.fl, exx := O.x.exx
      calm := fun h => by cases h
      tk := fun h => by cases h
      fn := fun h => by cases h
      held := fun _ => by
        obtain ⟨_, _, h1, h2, _⟩ := O.x.exx cn c0 true hs
        exact ⟨a, cn, dd, c0, held_of hz hf h1 h2, hs⟩
      xa := fun h => by cases h }
  po := fun h => by cases h
  st := O.st
  fr := O.fr
  kind := O.kind
theorem sw_plain {e tg : Expr} {l : Nat} {env : PySem.Env} (h : notComp e = true) : swapsWith e (some tg) l env = pure false := by
  cases e <;> first | rfl | cases h
theorem sw_none {e : Expr} {l : Nat} {env : PySem.Env} (h : notComp e = true) : swapsWith e none l env = pure false := by
  cases e <;> first | rfl | cases h
theorem sw_tup {e : Expr} {es : List Expr} {k : Nat} {p : Pos} {l : Nat} {env : PySem.Env} : swapsWith e (some (.Tuple es k p)) l env = pure false := by
  cases e <;> rfl
theorem sw_sub {e a b : Expr} {p : Pos} {l : Nat} {env : PySem.Env} : swapsWith e (some (.Subscript a b p)) l env = pure false := by
  cases e <;> rfl
theorem sw_lc (O : Oks G C W X Wx Φ) {elt : Expr} {gens : List Comprehension} {scope : Scope} {pos py : Pos} {y : Str} {l : Nat} : swapsWith (.ListComp elt gens scope pos) (some (.Name y py)) l X.env = pure (swB W.sc scope y py pos) := by
  have hb : X.env.blockKind = .function := by
    unfold Env.blockKind
    rw [O.kind]
    rfl
  have hk : X.env.kindOf y = W.sc.names.lookup y := by
    show X.env.scope.names.lookup y = _
    rw [O.x.sc]
  have e : ∀ o : Option NameKind, (o == some .local) = decide (o = some .local) := by
    intro o
    cases o with
    | none => rfl
    | some k => cases k <;> rfl
  unfold swapsWith swB
  simp only [hb, hk, Expr.pos, e]
  rfl
theorem lkOS_ok {s : Stmt} {m : S} {o : Option Nat} (h : PS X s (tS C Wx Φ m)) : PS X s (tS C Wx Φ (lkOS o m)) := by
  cases o with
  | none => exact h
  | some i => exact st_lock h
theorem par_eq (O : Oks G C W X Wx Φ) {ts vs : List Expr} {k k2 : Nat} {p p2 : Pos} {r : Option (List Str)} (h : parOf W.sc ts vs = some r) : swappedStores [.Tuple ts k p] (.Tuple vs k2 p2) X.env = pure r := by
  have hb : X.env.blockKind = .function := by
    unfold Env.blockKind
    rw [O.kind]
    rfl
  have hk : ∀ y, X.env.kindOf y = W.sc.names.lookup y := fun y => by
    show X.env.scope.names.lookup y = _
    rw [O.x.sc]
  have hn : ∀ (l : Nat) (f : Expr → Option Str), (∀ x q, f (.Name x q) = if (X.env.kindOf x == some .local && q.line == l) = true then some x else none) → (∀ e, (∀ x q, e ≠ .Name x q) → f e = none) → ts.filterMap f = plainAt W.sc l ts := fun l f f1 f2 => by
    clear h
    induction ts with
    | nil => rfl
    | cons t r ih =>
      by_cases ht : ∃ x q, t = .Name x q
      · obtain ⟨x, q, rfl⟩ := ht
        have e : plainAt W.sc l (.Name x q :: r) = if (W.sc.names.lookup x == some .local && q.line == l) = true then x :: plainAt W.sc l r else plainAt W.sc l r := rfl
        rw [List.filterMap_cons, f1, hk, ih, e]
        split <;> split <;> simp_all
      · have hne : ∀ x q, t ≠ .Name x q := fun x q e => ht ⟨x, q, e⟩
        rw [List.filterMap_cons, f2 t hne, ih]
        cases t <;> first | rfl | exact absurd rfl (hne _ _)
  unfold swappedStores
  dsimp only
  rw [hn _ _ (fun _ _ => rfl) (fun e he => by cases e <;> first | rfl | exact absurd rfl (he _ _)), hb]
  have hl : ((ts.head?.map (·.pos.line)).getD 0) = lineOf ts := by cases ts <;> rfl
  have hs : ∀ f : Expr → Bool, (∀ e, f e = isStar e) → vs.any f = vs.any isStar := fun f hf => by
    congr 1
    exact funext hf
  rw [hl, hs _ (fun e => by cases e <;> rfl)]
  unfold parOf at h
  split at h
  · next c =>
    cases h
    simp only [Bool.or_eq_true, Bool.and_eq_true] at c
    rcases c with (c | c) | c
    · rw [if_pos (by simp only [bne, Bool.not_eq_true'] at c ⊢; simp [c.1, c.2])]
    · rw [if_pos (by simp [c])]
    · split
      · rfl
      · first | rfl | rw [if_pos c]
  · next c =>
    simp only [Bool.or_eq_true, Bool.and_eq_true, not_or, not_and] at c
    obtain ⟨⟨c1, c2⟩, c3⟩ := c
    rw [if_neg (by
      simp only [bne, Bool.not_eq_true', Bool.or_eq_true, not_or, Bool.not_eq_false, beq_iff_eq, Bool.or_eq_false_iff, beq_eq_false_iff_ne] at c1 c2 ⊢
      refine ⟨⟨?_, c2⟩, ?_⟩
      · intro q
        exact absurd (by simpa using c1 (by simpa using q.1)) q.2
      · simp), if_neg c3]
    split at h
    · next c4 =>
      cases h
      simp only [Bool.or_eq_true] at c4
      rcases c4 with c4 | c4
      · rw [if_pos (by simpa only [Bool.or_eq_true] using c4)]
      · split
        · rfl
        · first | rfl | rw [if_pos c4]
    · next c4 =>
      simp only [Bool.or_eq_true, not_or] at c4
      rw [if_neg (by simpa only [Bool.or_eq_true, not_or] using c4.1), if_neg c4.2]
      split at h
      · cases h
      · next c5 =>
        cases h
        rw [if_neg c5]
theorem par_none (O : Oks G C W X Wx Φ) {ts vs : List Expr} {k k2 : Nat} {p p2 : Pos} (h : parOf W.sc ts vs = some none) : swappedStores [.Tuple ts k p] (.Tuple vs k2 p2) X.env = pure none := par_eq O h
theorem par_some (O : Oks G C W X Wx Φ) {ts vs : List Expr} {k k2 : Nat} {p p2 : Pos} {xs : List Str} (h : parOf W.sc ts vs = some (some xs)) : swappedStores [.Tuple ts k p] (.Tuple vs k2 p2) X.env = pure (some xs) := par_eq O h
/-- the parts of the induction -/
structure Sts (G : Gs) (C : Ctx) (W : Wh) (X : Cx) (Wx : WX) (Φ : Call) (n : Nat) : Prop where
  s : ∀ s m, cS G W n s = some m → PS X s (tS C Wx Φ m)
  l : ∀ ss m, cSs G W n ss = some m → PSs X ss (tS C Wx Φ m)
theorem sts_s {n : Nat} (O : Oks G C W X Wx Φ) (I : Snd G C W X Wx Φ n) (ih : ∀ (C : Ctx) (W : Wh) (X : Cx) (Wx : WX), Oks G C W X Wx Φ → Sts G C W X Wx Φ n) : ∀ s m, cS G W (n + 1) s = some m → PS X s (tS C Wx Φ m) := by
  intro s m h
  have J := ih C W X Wx O
  unfold cS at h
  split at h
  · cases h; exact st_pass
  · cases h; exact st_break
  · cases h; exact st_cont
  · next o pos =>
    split at h
    · cases h; exact st_ret0
    · obtain ⟨x, h1, rfl⟩ := Option.map_eq_some_iff.mp h
      exact st_ret (I.e _ _ h1)
  · next e pos =>
    split at h
    · next hc =>
      obtain ⟨x, h1, rfl⟩ := Option.map_eq_some_iff.mp h
      exact st_expr (I.e _ _ h1) (sw_none hc)
    · cases h
  · next c a b pos =>
    split at h
    · next t x y h1 h2 h3 =>
      cases h
      exact st_if (I.t _ _ h1).1 (J.l _ _ h2) (J.l _ _ h3)
    · cases h
  · next c a b pos =>
    split at h
    · split at h
      · cases h
      · next hh =>
        split at h
        · next t x h1 h2 =>
          cases h
          exact st_while (O.po (by simpa using hh)) (I.t _ _ h1).1 (J.l _ _ h2)
        · cases h
    · cases h
  · next tg it a b pos =>
    split at h
    · split at h
      · cases h
      · next hh =>
        have hh : W.hot = false := by simpa using hh
        split at h
        · next i g x h1 h2 h3 =>
          cases h
          obtain ⟨w1, w2⟩ := I.i _ _ _ h1
          obtain ⟨is, k1, _⟩ := cG_ok O.x n tg g h2
          exact lkOS_ok (st_for (O.po hh) (O.x.calm hh) w1 k1 (ownO_ok (J.l _ _ h3)) (w2 _))
        · cases h
    · cases h
  · next o o2 pos =>
    split at h
    · next x p es cpos =>
      split at h
      · next hc =>
        simp only [Bool.and_eq_true, Bool.not_eq_true'] at hc
        split at h
        · next e es c m' hv hm =>
          cases h
          have A := O.x.rai hc.1.2 x c hv
          have r := st_raise (W := Wx) (Φ := Φ) (pos := pos) (cpos := cpos) (p := p) A (O.x.calm hc.1.2) (O.x.tk hc.1.2) (O.x.gl hc.1.1.2) (plain_ok hc.1.1.1).1 hc.2 (I.a _ _ hm)
          rw [O.x.fl] at r
          exact r
        · cases h
      · cases h
    · cases h
  · next body hs oe fb pos =>
    split at h
    · next x np nm b0 suite hp =>
      split at h
      · next hc =>
        simp only [Bool.and_eq_true, Bool.not_eq_true', decide_eq_true_eq] at hc
        obtain ⟨⟨⟨c1, c2⟩, c3⟩, c4⟩ := hc
        split at h
        · next c0 r i p q hv hi hb hsu =>
          cases h
          refine st_try (x := x) (c0 := c0) (O.x.xa c3) O.st O.fr O.x.nd (by rw [O.x.N]; exact slot0 hi) (by show X.env.scope.names.lookup nm = _; rw [O.x.sc]; exact c4) ⟨O.x.gl c2, (plain_ok c1).1, .inl (O.x.cls _ _ _ hv)⟩ (O.x.tk c3) (fun c b hb => (O.x.exx c c0 b hb).1) (fun W' pn xe tk po => ?_) fun a oe cn dd pn hk hz hf => ?_
          · exact (ih C W _ W' (O.tr c3 tk po)).l _ _ hb
          · exact (ih _ _ _ _ (O.suite c3 hk hz hf)).l _ _ hsu
        · cases h
      · cases h
    · cases h
  · next tgs e pos =>
    split at h
    · next tg =>
      split at h
      · next o i p =>
        split at h
        · next hs =>
          split at h
          · next a b m' h1 h2 h3 =>
            cases h
            exact st_put O.x.u (I.e _ _ h1) (I.e _ _ h2) (I.e _ _ h3) hs sw_sub
          · cases h
        · cases h
      · next ts k p =>
        split at h
        · next vs k2 p2 =>
          split at h
          · cases h
          · next hp =>
            split at h
            · next g m' h1 h2 =>
              cases h
              obtain ⟨is, k1, _⟩ := cG_ok O.x n _ g h1
              exact st_asg (I.e _ _ h2) k1 (show swapsWith (.Tuple vs k2 p2) (some (.Tuple ts k p)) pos.line X.env = pure false from sw_tup) (par_none O hp) rfl
            · cases h
          · next xs hp =>
            split at h
            · cases h
            · next hh =>
              have hh : W.hot = false := by simpa using hh
              split at h
              · next x px y py a b =>
                split at h
                · next hc =>
                  simp only [Bool.and_eq_true, decide_eq_true_eq] at hc
                  obtain ⟨⟨rfl, c2⟩, c3⟩ := hc
                  split at h
                  · next i j m' h1 h2 h3 =>
                    split at h
                    · cases h
                    · next hij =>
                      cases h
                      refine st_par2 (O.x.calm hh) O.x.nd (by rw [O.x.N]; exact slot0 h1) (by rw [O.x.N]; exact slot0 h2) (by simpa using hij) (by rw [O.x.sc]; exact c2) (by rw [O.x.sc]; exact c3) (I.a _ _ h3) (par_some O hp)
                  · cases h
                · cases h
              · next x px y py z pz a b c =>
                split at h
                · next hc =>
                  simp only [Bool.and_eq_true, decide_eq_true_eq] at hc
                  obtain ⟨⟨⟨rfl, c2⟩, c3⟩, c4⟩ := hc
                  split at h
                  · next i j l m' h1 h2 h3 h4 =>
                    split at h
                    · cases h
                    · next hij =>
                      cases h
                      simp only [Bool.or_eq_true, decide_eq_true_eq, not_or] at hij
                      refine st_par3 (O.x.calm hh) O.x.nd (by rw [O.x.N]; exact slot0 h1) (by rw [O.x.N]; exact slot0 h2) (by rw [O.x.N]; exact slot0 h3) hij.1.1 hij.1.2 hij.2 (by rw [O.x.sc]; exact c2) (by rw [O.x.sc]; exact c3) (by rw [O.x.sc]; exact c4) (I.a _ _ h4) (par_some O hp)
                  · cases h
                · cases h
              · cases h
        · next hn =>
          split at h
          · next g m' h1 h2 =>
            cases h
            obtain ⟨is, k1, _⟩ := cG_ok O.x n _ g h1
            refine st_asg (I.e _ _ h2) k1 (show swapsWith e (some (.Tuple ts k p)) pos.line X.env = pure false from sw_tup) ?_ rfl
            cases e <;> first | rfl | exact absurd rfl (hn _ _ _)
          · cases h
      · next y py =>
        split at h
        · next elt gens scope cpos =>
          split at h
          · next hsw =>
            split at h
            · cases h
            · next hh =>
              have hh : W.hot = false := by simpa using hh
              split at h
              · next i c h1 h2 =>
                cases h
                have hl : X.env.scope.names.lookup y = some .local := by
                  rw [O.x.sc]
                  unfold swB at hsw
                  simp only [Bool.and_eq_true, decide_eq_true_eq] at hsw
                  exact hsw.1.1
                exact lkOS_ok ((I.c _ _ _ _ hh h2).ps O.x hh (by rw [O.x.N]; exact slot0 h1) hl (by rw [sw_lc O, hsw]))
              · cases h
          · next hsw =>
            split at h
            · next g m' h1 h2 =>
              cases h
              obtain ⟨is, k1, _⟩ := cG_ok O.x n _ g h1
              refine st_asg (I.e _ _ h2) k1 ?_ rfl rfl
              show swapsWith (.ListComp elt gens scope cpos) (some (.Name y py)) pos.line X.env = pure false
              rw [sw_lc O]
              have : swB W.sc scope y py cpos = false := by simpa using hsw
              rw [this]
            · cases h
        · split at h
          · next hn =>
            split at h
            · next g m' h1 h2 =>
              cases h
              obtain ⟨is, k1, _⟩ := cG_ok O.x n _ g h1
              exact st_asg (I.e _ _ h2) k1 (show swapsWith e (some (.Name y py)) pos.line X.env = pure false from sw_plain hn) rfl rfl
            · cases h
          · cases h
      · cases h
    · cases h
  · cases h
theorem sts_l {n : Nat} (J : Sts G C W X Wx Φ n) : ∀ ss m, cSs G W (n + 1) ss = some m → PSs X ss (tS C Wx Φ m) := by
  intro ss m h
  unfold cSs at h
  split at h
  · cases h; exact st_nil
  · split at h
    · next a b h1 h2 =>
      cases h
      exact st_cons (ownO_ok1 (J.s _ _ h1)) (J.l _ _ h2)
    · cases h
end
theorem sts_all {G : Gs} {Φ : Call} : ∀ (n : Nat) (C : Ctx) (W : Wh) (X : Cx) (Wx : WX), Oks G C W X Wx Φ → Sts G C W X Wx Φ n
  | 0, C, W, X, Wx, O => by
    refine ⟨?_, ?_⟩
    · intro s m h; cases h
    · intro s m h; cases h
  | n + 1, C, W, X, Wx, O => ⟨sts_s O (snd_all n W X Wx O.x) (sts_all n), sts_l (sts_all n C W X Wx O)⟩
end EV

-- part EvBind
set_option Elab.async false
set_option linter.all false
set_option maxRecDepth 100000
/-! How calls bind. -/
namespace EV
open PySem PySem.Spec PyProof.Rows L2
theorem zip_has {α : Type} : ∀ {ns : List Str} {us : List α} {n : Str}, us.length = ns.length → n ∈ ns → ((ns.zip us).lookup n).isNone = false
  | [], us, n, hl, h => by cases h
  | m :: ns, [], n, hl, h => by cases hl
  | m :: ns, u :: us, n, hl, h => by
    rw [List.zip_cons_cons, List.lookup_cons]
    by_cases e : n = m
    · subst e
      simp
    · have e' : (n == m) = false := beq_eq_false_iff_ne.mpr e
      rw [e']
      rcases List.mem_cons.mp h with h | h
      · exact absurd h e
      · exact zip_has (by simpa using hl) h
theorem zip_map {α : Type} {l : List (Str × α)} : ∀ {ns : List Str} {us : List α}, us.length = ns.length → ns.Nodup → (∀ n v, (n, v) ∈ ns.zip us → l.lookup n = some v) → (ns.filterMap fun n => (l.lookup n).map (n, ·)) = ns.zip us
  | [], us, hl, nd, h => by cases us <;> rfl
  | m :: ns, [], hl, nd, h => by cases hl
  | m :: ns, u :: us, hl, nd, h => by
    have nd' := List.nodup_cons.mp nd
    rw [List.zip_cons_cons, List.filterMap_cons, h m u (by simp)]
    rw [zip_map (by simpa using hl) nd'.2 fun n v hv => h n v (by simp [hv])]
    rfl
theorem zip_look {α : Type} : ∀ {ns : List Str} {us : List α}, ns.Nodup → ∀ n v, (n, v) ∈ ns.zip us → (ns.zip us).lookup n = some v
  | [], us, nd, n, v, h => by simp at h
  | m :: ns, [], nd, n, v, h => by simp at h
  | m :: ns, u :: us, nd, n, v, h => by
    have nd' := List.nodup_cons.mp nd
    rw [List.zip_cons_cons] at h ⊢
    rw [List.lookup_cons]
    rcases List.mem_cons.mp h with h2 | h2
    · cases h2
      simp
    · have e : (n == m) = false := by
        rw [beq_eq_false_iff_ne]
        rintro rfl
        exact nd'.1 (List.of_mem_zip h2).1
      rw [e]
      exact zip_look nd'.2 n v h2
theorem bind_pos {x qual : Str} {args : List Arg} {body : List Stmt} {scope : Scope} {kV doc pm cdv ct : Value} {an : Option Addr} {us : List Value} (nd : (args.map (·.arg)).Nodup) (hl : us.length = args.length) :
    bindArgs (PySem.W.fnOf x qual ⟨[], args, none, [], [], none, []⟩ body scope .none kV doc pm an cdv ct) ⟨us, []⟩ = pure ((args.map (·.arg)).zip us) := by
  unfold bindArgs PySem.W.fnOf
  have e0 : seqItems? Value.none = pure none := rfl
  have hl' : us.length = (args.map (·.arg)).length := by simpa using hl
  simp only [List.map_nil, List.nil_append, List.forIn_nil, pure_bind, e0]
  rw [if_neg (by simp [hl'])]
  have e1 : ∀ k, List.filter (fun n => (List.lookup n ((List.map (fun x : Arg => x.arg) args).zip us)).isNone) (List.take k (List.map (fun x => x.arg) args)) = [] := fun k => by
    rw [List.filter_eq_nil_iff]
    intro n hn
    rw [zip_has hl' (List.mem_of_mem_take hn)]
    exact Bool.false_ne_true
  simp only [e1]
  simp only [Option.getD_none, List.drop_nil, List.zip_nil_right, List.forIn_nil, pure_bind, List.isEmpty_nil, Bool.not_true, Bool.false_eq_true, if_false, List.append_nil]
  rw [zip_map hl' nd (zip_look nd)]

theorem loop_kw {normal : List Str} (f : Str × Value → List (Str × Value) × List (Str × Value) → Sem (ForInStep (List (Str × Value) × List (Str × Value))))
    (hf : ∀ k v sl ex, k ∈ normal → (sl.lookup k).isNone = true → f (k, v) (sl, ex) = pure (.yield (sl ++ [(k, v)], ex))) :
    ∀ (kw : List (Str × Value)) (sl ex : List (Str × Value)), (∀ p ∈ kw, p.1 ∈ normal) → (kw.map (·.1)).Nodup → (∀ p ∈ kw, (sl.lookup p.1).isNone = true) → forIn kw (sl, ex) f = pure (sl ++ kw, ex)
  | [], sl, ex, _, _, _ => by rw [List.append_nil]; rfl
  | (k, v) :: kw, sl, ex, h1, h2, h3 => by
    rw [List.map_cons] at h2
    have nd := List.nodup_cons.mp h2
    rw [List.forIn_cons, hf k v sl ex (h1 _ List.mem_cons_self) (h3 _ List.mem_cons_self), pure_bind]
    show forIn kw (sl ++ [(k, v)], ex) f = _
    have h4 : ∀ p ∈ kw, ((sl ++ [(k, v)]).lookup p.1).isNone = true := fun p hp => by
      have h := h3 p (List.mem_cons_of_mem _ hp)
      rw [List.lookup_append]
      cases e : sl.lookup p.1 with
      | some z => rw [e] at h; cases h
      | none =>
        have ne : (p.1 == k) = false := by
          rw [beq_eq_false_iff_ne]
          rintro rfl
          exact nd.1 (List.mem_map.mpr ⟨p, hp, rfl⟩)
        simp [List.lookup, ne]
    rw [loop_kw f hf kw (sl ++ [(k, v)]) ex (fun p hp => h1 p (List.mem_cons_of_mem _ hp)) nd.2 h4]
    simp
theorem bind_kw {x qual : Str} {args : List Arg} {body : List Stmt} {scope : Scope} {kV doc pm cdv ct : Value} {an : Option Addr} {us zs : List Value} {kw : List (Str × Value)} (nd : (args.map (·.arg)).Nodup) (hl : us.length + zs.length = args.length) (h1 : ∀ p ∈ kw, p.1 ∈ args.map (·.arg)) (h2 : (kw.map (·.1)).Nodup)
    (h3 : ∀ p ∈ kw, (((args.map (·.arg)).zip us).lookup p.1).isNone = true) (h4 : ∀ n v, (n, v) ∈ (args.map (·.arg)).zip (us ++ zs) → (((args.map (·.arg)).zip us) ++ kw).lookup n = some v) :
    bindArgs (PySem.W.fnOf x qual ⟨[], args, none, [], [], none, []⟩ body scope .none kV doc pm an cdv ct) ⟨us, kw⟩ = pure ((args.map (·.arg)).zip (us ++ zs)) := by
  unfold bindArgs PySem.W.fnOf
  have e0 : seqItems? Value.none = pure none := rfl
  have hl' : (us ++ zs).length = (args.map (·.arg)).length := by simpa using hl
  simp only [List.map_nil, List.nil_append]
  rw [loop_kw (normal := args.map (·.arg)) _ ?_ kw _ [] h1 h2 h3]
  · simp only [pure_bind, e0]
    rw [if_neg (by simp; omega)]
    have e1 : ∀ k, List.filter (fun n => (List.lookup n ((List.map (fun x : Arg => x.arg) args).zip us ++ kw)).isNone) (List.take k (List.map (fun x => x.arg) args)) = [] := fun k => by
      rw [List.filter_eq_nil_iff]
      intro n hn
      have hm := List.mem_of_mem_take hn
      obtain ⟨i, hi, e⟩ := List.mem_iff_getElem.mp hm
      have hv : i < (us ++ zs).length := by rw [hl']; exact hi
      have q := h4 n ((us ++ zs)[i]) (by
        rw [← e, List.mem_iff_getElem]
        exact ⟨i, by rw [List.length_zip]; omega, by rw [List.getElem_zip]⟩)
      rw [q]
      exact Bool.false_ne_true
    simp only [e1]
    simp only [Option.getD_none, List.drop_nil, List.zip_nil_right, List.forIn_nil, pure_bind, List.isEmpty_nil, Bool.not_true, Bool.false_eq_true, if_false, List.append_nil]
    rw [zip_map hl' nd h4]
  · intro k v sl ex hk hn
    have e1 : ((List.map (fun x : Arg => x.arg) args).contains k || ([] : List Str).contains k) = true := by
      rw [Bool.or_eq_true]
      exact .inl (by simpa using hk)
    have e2 : ¬ (List.lookup k sl).isSome = true := by
      cases q : List.lookup k sl with
      | none => simp
      | some z => rw [q] at hn; cases hn
    rw [if_pos e1, if_neg e2]
/-- the keywords fill what the written arguments leave -/
def kwFit (ps : List Str) (n : Nat) (ks : List Str) (is : List Nat) : Bool := decide (ps.length = n + is.length) && decide (is.map (fun i => ks[i]?) = (ps.drop n).map some) && decide (ks.Nodup) && ks.all fun k => (ps.drop n).contains k
theorem pick_length {α : Type} : ∀ {is : List Nat} {zs : List α}, (∀ i ∈ is, i < zs.length) → (pick is zs).length = is.length
  | [], zs, h => rfl
  | i :: is, zs, h => by
    unfold pick
    rw [List.getElem?_eq_getElem (h i List.mem_cons_self), List.length_append, pick_length fun j hj => h j (List.mem_cons_of_mem _ hj)]
    simp
    omega
theorem pick_get {α : Type} : ∀ {is : List Nat} {zs : List α} {j i : Nat}, (∀ i ∈ is, i < zs.length) → is[j]? = some i → (pick is zs)[j]? = zs[i]?
  | [], zs, j, i, h, e => by cases e
  | i :: is, zs, 0, k, h, e => by
    cases e
    unfold pick
    rw [List.getElem?_eq_getElem (h i List.mem_cons_self)]
    rfl
  | i :: is, zs, j + 1, k, h, e => by
    unfold pick
    rw [List.getElem?_eq_getElem (h i List.mem_cons_self)]
    exact pick_get (fun j hj => h j (List.mem_cons_of_mem _ hj)) e
/-- a text's def of plain parameters -/
def plainArgs (p : Arguments) : Bool := match p with
  | ⟨[], args, none, [], [], none, []⟩ => decide ((args.map (·.arg)).Nodup)
  | _ => false
def argNames (p : Arguments) : List Str := p.args.map (·.arg)
theorem plainArgs_ok {p : Arguments} (h : plainArgs p = true) : p = ⟨[], p.args, none, [], [], none, []⟩ ∧ (argNames p).Nodup := by
  unfold plainArgs at h
  split at h
  · exact ⟨rfl, of_decide_eq_true h⟩
  · cases h
section
variable {K : PySem.W.Frag} {x qual : Str} {params : Arguments} {body : List Stmt} {scope : Scope} {f : Addr} {fd : FuncData}
theorem binds_of (F : FunD K x qual params body scope [] [] f fd) (h : plainArgs params = true) : Binds K fd (argNames params) [] := by
  obtain ⟨e, nd⟩ := plainArgs_ok h
  refine F.bindsN fun kV doc pm an cdv ct us hl => ?_
  rw [e]
  exact bind_pos nd (by simpa [argNames] using hl)
theorem kwA_of {n : Nat} {ks : List Str} {is : List Nat} (F : FunD K x qual params body scope [] [] f fd) (h : plainArgs params = true) (hk : kwFit (argNames params) n ks is = true) : KwA K fd (argNames params) n ks is := by
  obtain ⟨e, nd⟩ := plainArgs_ok h
  simp only [kwFit, Bool.and_eq_true, decide_eq_true_eq] at hk
  obtain ⟨⟨⟨h1, h2⟩, h3⟩, h4⟩ := hk
  obtain ⟨oc, od, dV, kV, doc, pm, an, cdv, ct, osl, rfl, lk, hcd, hD, hK⟩ := F.ex
  rcases hD with ⟨_, rfl⟩ | ⟨q, _⟩
  · refine ⟨fun s us ws X hu hw => .of_eq ?_⟩
    have lt : ∀ i ∈ is, i < ws.length := fun i hi => by
      have m : ks[i]? ∈ is.map (fun i => ks[i]?) := List.mem_map.mpr ⟨i, hi, rfl⟩
      rw [h2] at m
      obtain ⟨y, _, q⟩ := List.mem_map.mp m
      rw [hw]
      exact (List.getElem?_eq_some_iff.mp q.symm).1
    have pl := pick_length lt
    have nl : (argNames params).length = params.args.length := by simp [argNames]
    rw [e]
    refine bind_kw nd (by rw [hu, pl, ← nl, h1]) (fun p hp => ?_) ?_ (fun p hp => ?_) fun m v hm => ?_
    · have := List.all_eq_true.mp h4 p.1 (List.of_mem_zip hp).1
      have q : p.1 ∈ (argNames params).drop n := by simpa using this
      exact List.mem_of_mem_drop q
    · rw [List.map_fst_zip (by omega)]
      exact h3
    · have := List.all_eq_true.mp h4 p.1 (List.of_mem_zip hp).1
      have q : p.1 ∈ (argNames params).drop n := by simpa using this
      rw [Option.isNone_iff_eq_none, List.lookup_eq_none_iff]
      rintro ⟨a, b⟩ hab
      have hz : a ∈ (argNames params).take n := by
        obtain ⟨i, hi, ei⟩ := List.mem_iff_getElem.mp hab
        rw [List.length_zip] at hi
        rw [List.getElem_zip] at ei
        have ea : (argNames params)[i]'(by show i < (params.args.map (·.arg)).length; omega) = a := congrArg Prod.fst ei
        rw [← ea, List.mem_iff_getElem]
        refine ⟨i, by rw [List.length_take]; show i < min n (params.args.map (·.arg)).length; omega, by rw [List.getElem_take]⟩
      have disj := (List.nodup_append.mp (by rw [List.take_append_drop]; exact nd : ((argNames params).take n ++ (argNames params).drop n).Nodup)).2.2
      have ne := disj a hz p.1 q
      simpa using fun z => ne z.symm
    · obtain ⟨i, hi, ei⟩ := List.mem_iff_getElem.mp hm
      rw [List.length_zip] at hi
      rw [List.getElem_zip] at ei
      have em : (argNames params)[i]'(by show i < (params.args.map (·.arg)).length; omega) = m := congrArg Prod.fst ei
      have ev : (us ++ pick is ws)[i]'(by omega) = v := congrArg Prod.snd ei
      rw [List.lookup_append]
      by_cases hin : i < n
      · have q : ((argNames params).zip us).lookup m = some v := by
          refine zip_look nd m v ?_
          rw [List.mem_iff_getElem]
          refine ⟨i, by rw [List.length_zip]; show i < min (params.args.map (·.arg)).length us.length; omega, ?_⟩
          rw [List.getElem_zip, em]
          rw [List.getElem_append_left (by omega)] at ev
          rw [ev]
        show (((argNames params).zip us).lookup m).or _ = _
        rw [q]
        rfl
      · have hj : i - n < is.length := by
          rw [List.length_append, hu, pl] at hi
          omega
        have q0 : ((argNames params).zip us).lookup m = none := by
          rw [List.lookup_eq_none_iff]
          rintro ⟨a, b⟩ hab
          obtain ⟨i', hi', ei'⟩ := List.mem_iff_getElem.mp hab
          rw [List.length_zip] at hi'
          rw [List.getElem_zip] at ei'
          have ea : (argNames params)[i']'(by omega) = a := congrArg Prod.fst ei'
          have ne : m ≠ a := by
            rw [← em, ← ea]
            intro z
            have := (List.getElem_inj nd).mp z
            omega
          simpa using ne
        show (((argNames params).zip us).lookup m).or _ = _
        rw [q0]
        show (ks.zip ws).lookup m = some v
        refine zip_look h3 m v ?_
        have gi : is[i - n]? = some (is[i - n]'hj) := List.getElem?_eq_getElem hj
        have hk2 := congrArg (fun l : List (Option Str) => l[i - n]?) h2
        simp only [List.getElem?_map, gi, Option.map_some, List.getElem?_drop] at hk2
        have hi3 : n + (i - n) = i := by omega
        have q5 : (argNames params)[i]? = some m := by
          rw [List.getElem?_eq_getElem (by show i < (params.args.map (·.arg)).length; omega), em]
        rw [hi3, q5] at hk2
        have hkv : ks[is[i - n]'hj]? = some m := Option.some.inj hk2
        have lw := lt _ (List.getElem_mem hj)
        have hv : (pick is ws)[i - n]? = ws[is[i - n]'hj]? := pick_get lt gi
        rw [List.getElem_append_right (by omega)] at ev
        have hv2 : ws[is[i - n]'hj]? = some v := by
          rw [← hv, ← ev, List.getElem?_eq_getElem (by rw [pl]; exact hj)]
          congr 1
          simp [hu]
        rw [List.mem_iff_getElem]
        obtain ⟨l1, e1⟩ := List.getElem?_eq_some_iff.mp hkv
        obtain ⟨l2, e2⟩ := List.getElem?_eq_some_iff.mp hv2
        exact ⟨is[i - n]'hj, by rw [List.length_zip]; omega, by rw [List.getElem_zip, e1, e2]⟩
  · exact absurd rfl q
end
end EV

-- part EvHead
set_option Elab.async false
set_option linter.all false
set_option maxRecDepth 100000
/-! A text as data: its functions, its exception classes, what the evaluator makes of them. -/
namespace EV
open PySem PySem.Spec PyProof.Rows L2

structure FT where
  x : Str
  params : Arguments
  body : List Stmt
  scope : Scope
  N : List Str
structure IT where
  params : Arguments
  body : List Stmt
  scope : Scope
  N : List Str
  base : Str
  flds : List (Str × Nat)
structure Txt where
  fns : List FT
  cls : List (Str × Option IT)
  G : Gs
  fuel : Nat
def FT.ps (d : FT) : List Str := argNames d.params
def FT.wh (d : FT) : Wh := ⟨d.N, d.scope, fun _ => true, false⟩
def badS : S := fun _ _ _ => .bad
def FT.fn (T : Txt) (d : FT) : Fn := ⟨d.N.length, d.ps.length, (cSs T.G d.wh T.fuel d.body).getD badS⟩
/-- the evaluator's functions -/
def Txt.code (T : Txt) : List Fn := T.fns.map (FT.fn T)
def FT.def_ (d : FT) : He.DefD := ⟨(d.x, none), d.x, d.x, d.params, d.body, d.scope, [], []⟩
def initQ (x : Str) : Str := x ++ (".__init__" : Str)
def IT.def_ (x : Str) (i : IT) : He.DefD := ⟨(x, some "__init__"), "__init__", initQ x, i.params, i.body, i.scope, [], []⟩
def Txt.inits (T : Txt) : List He.DefD := T.cls.filterMap fun p => p.2.map (IT.def_ p.1)
def Txt.defs (T : Txt) : List He.DefD := T.fns.map FT.def_ ++ T.inits
def Txt.clsX (T : Txt) (c : Nat) : Str := match T.cls[c]? with
  | some p => p.1
  | none => "object"
def Txt.ca (T : Txt) (K : PySem.W.Frag) (c : Nat) : Addr := He.ga K (T.clsX c)

/-! ### what is asked of the text alone -/
def scopeB (N ps : List Str) (sc : Scope) : Bool := decide (sc.kind = .function) && (!sc.isCoroutine) && (!sc.isGenerator) && decide N.Nodup && decide (N.take ps.length = ps) &&
  (ps.all fun x => decide (sc.names.lookup x = some .local) || decide (sc.names.lookup x = some .cell)) && (sc.names.all fun y => decide (y.2 ≠ .free))
theorem scopeB_ok {N ps : List Str} {sc : Scope} (h : scopeB N ps sc = true) : FnScope N ps sc := by
  simp only [scopeB, Bool.and_eq_true, decide_eq_true_eq, Bool.not_eq_true', List.all_eq_true, Bool.or_eq_true] at h
  obtain ⟨⟨⟨⟨⟨⟨h1, h2⟩, h3⟩, h4⟩, h5⟩, h6⟩, h7⟩ := h
  exact ⟨h1, h2, h3, h4, h5, h6, h7⟩
def FT.ok (T : Txt) (d : FT) : Bool := plainArgs d.params && scopeB d.N d.ps d.scope && (cSs T.G d.wh T.fuel d.body).isSome
def IT.ok (T : Txt) (c : Nat) (i : IT) : Bool := plainArgs i.params && scopeB i.N (argNames i.params) i.scope && decide (initOf i.scope i.N i.body = some (i.base, i.flds)) && inRow 1 i.flds && (!i.flds.isEmpty) && decide ((argNames i.params).length = i.flds.length + 1) &&
  decide (T.G.fld c = i.flds.map (·.1)) && decide ((i.flds.map (·.1)).Nodup) && Nat.ble i.flds.length 100 && (T.cls.any fun p => decide (p.1 = i.base))
def Txt.tabB (T : Txt) (p : Str × GV) : Bool := match p.2 with
  | .fn g ps => (match T.fns[g]? with
    | some d => decide (d.x = p.1) && decide (d.ps = ps)
    | none => false)
  | .cst (.int _) => true
  | .cst (.str z) => strFits z
  | .cst _ => false
  | .cls c r => (match T.cls[c]? with
    | some q => decide (q.1 = p.1) && (!r || q.2.isSome)
    | none => false)
def Txt.kwB (T : Txt) (q : Str × Nat × List Str × List Nat) : Bool := match gvOf q.1 T.G.tab with
  | some (.fn _ ps) => kwFit ps q.2.1 q.2.2.1 q.2.2.2
  | _ => true
def Txt.ok (T : Txt) : Bool := T.fns.all (FT.ok T) && T.G.tab.all T.tabB && T.G.kws.all T.kwB && (T.cls.zipIdx.all fun p => match p.1.2 with
  | some i => IT.ok T p.2 i
  | none => true)

/-! ### what is asked of the heap behind the import -/
def oexB (K : PySem.W.Frag) (C : Addr) : Bool := (match K.lookup C with
  | some ⟨.type t, _, .cls cd, sl⟩ => decide (t = "type") && cd.hasDict && (!cd.hasDel) && (match cd.mro, sl.toList with
    | .ref C' :: bm, [_, _, _, _, some (.builtin n), _] => decide (C' = C) && decide (n = "ValueError.__new__") && PySem.HandSPX.refsVE bm
    | _, _ => false)
  | _ => false) && He.eqO (PySem.W.findIn K (.ref C) "__setattr__") (some (some (.builtin "object.__setattr__"))) && decide (PySem.W.subIn K (.ref C) (.type "BaseException") = some true) && decide (PySem.W.typeIn K (.ref C) = some (.type "type")) && PySem.W.keepIn K (.ref C)
theorem oexB_ok {K : PySem.W.Frag} {C : Addr} (h : oexB K C = true) : OexC K C := by
  simp only [oexB, Bool.and_eq_true, decide_eq_true_eq] at h
  obtain ⟨⟨⟨⟨h1, h2⟩, h3⟩, h4⟩, h5⟩ := h
  refine ⟨?_, He.eqO_ok h2, h3, h4, h5⟩
  split at h1
  · next t dd cd sl ho =>
    simp only [Bool.and_eq_true, decide_eq_true_eq, Bool.not_eq_true'] at h1
    obtain ⟨⟨⟨rfl, g2⟩, g3⟩, g4⟩ := h1
    split at g4
    · next C' bm k0 k1 k2 k3 n k5 hm hs =>
      simp only [Bool.and_eq_true, decide_eq_true_eq] at g4
      obtain ⟨⟨rfl, rfl⟩, g5⟩ := g4
      obtain ⟨nm, bs, mro, ns, qn, hd, sn, sub, ab, col, del⟩ := cd
      dsimp only at hm g2 g3
      subst hm g2 g3
      have hsl : sl = #[k0, k1, k2, k3, some (.builtin "ValueError.__new__"), k5] := by
        obtain ⟨l⟩ := sl
        simp only at hs
        rw [hs]
      subst hsl
      exact ⟨nm, qn, ns, bs, bm, sn, sub, ab, col, dd, k0, k1, k2, k3, k5, ho, g5⟩
    · cases g4
  · cases h1
def excB (K : PySem.W.Frag) (D : Addr) : Bool := He.eqO (PySem.W.findIn K (.ref D) "__getattribute__") (some (some (.builtin "BaseException.__getattribute__"))) && He.eqO (PySem.W.findIn K (.ref D) "__getattr__") (some none) && decide (PySem.W.subIn K (.ref D) (.type "BaseException") = some true) && PySem.W.hasDictIn K D &&
  He.eqO (PySem.W.findIn K (.ref D) "__class__") (some (some (.builtin "object.__class__"))) && He.eqO (PySem.W.specialIn K (.builtin "object.__class__") "__get__") (some (some (.builtin "getset_descriptor.__get__"))) && decide (PySem.W.takesIn K (.builtin "object.__class__") = some true) && decide (PySem.W.mroIn K D (.type "object") = some true)
theorem excB_ok {K : PySem.W.Frag} {D : Addr} (h : excB K D = true) : ExcC K D ∧ XfC K D := by
  simp only [excB, Bool.and_eq_true, decide_eq_true_eq] at h
  obtain ⟨⟨⟨⟨⟨⟨⟨h1, h2⟩, h3⟩, h4⟩, h5⟩, h6⟩, h7⟩, h8⟩ := h
  exact ⟨⟨He.eqO_ok h1, He.eqO_ok h2, h3, h4, He.eqO_ok h5, He.eqO_ok h6, h7, h8⟩, ⟨He.eqO_ok h1, He.eqO_ok h2, h3, h4⟩⟩
def baseB (K : PySem.W.Frag) (B : Addr) : Bool := PySem.W.readsIn K B (.type "type") && He.eqO (PySem.W.specialIn K (.ref B) "__getattribute__") (some (some (.builtin "type.__getattribute__"))) && (match PySem.W.findCls K (.ref B) (.type "type") "__init__" with
  | some (.val (.builtin n)) => decide (n = "ValueError.__init__")
  | _ => false)
theorem baseB_ok {K : PySem.W.Frag} {B : Addr} (h : baseB K B = true) : BaseI K B := by
  simp only [baseB, Bool.and_eq_true] at h
  obtain ⟨⟨h1, h2⟩, h3⟩ := h
  refine ⟨h1, He.eqO_ok h2, ?_⟩
  split at h3
  · next n e => rw [e, of_decide_eq_true h3]
  · cases h3
def Txt.tabK (T : Txt) (K : PySem.W.Frag) (p : Str × GV) : Bool := match p.2 with
  | .fn _ _ => (He.Fa.glo p.1).ok K
  | .cst (.int i) => (He.Fa.int p.1 i).ok K
  | .cst (.str z) => (He.Fa.str p.1 (ws z)).ok K
  | .cst _ => false
  | .cls _ _ => (He.Fa.glo p.1).ok K
def Txt.initK (T : Txt) (K : PySem.W.Frag) (p : Str × Option IT) : Bool := match p.2 with
  | none => true
  | some i => oexB K (He.ga K p.1) && (i.flds.all fun f => He.eqO (PySem.W.findIn K (.ref (He.ga K p.1)) f.1) (some none)) && He.eqO (PySem.W.findIn K (.ref (He.ga K p.1)) "__init__") (some (some (.ref (He.ma K (He.ga K p.1) "__init__")))) &&
    decide (PySem.W.typeIn K (.ref (He.ma K (He.ga K p.1) "__init__")) = some (.type "function")) && baseB K (He.ga K i.base) && (He.Fa.glo i.base).ok K
def Txt.subK (T : Txt) (K : PySem.W.Frag) : Bool := (List.range T.cls.length).all fun c => (List.range T.cls.length).all fun c0 => match T.G.sub c c0 with
  | none => true
  | some b => decide (PySem.W.exmOne K (.ref (T.ca K c)) (.ref (T.ca K c0)) = some b) && decide (PySem.W.kitOne K (.ref (T.ca K c)) (.ref (T.ca K c0)) = some b) && excB K (T.ca K c) && ((T.G.fld c).all fun f => He.eqO (PySem.W.findIn K (.ref (T.ca K c)) f) (some none))
def Txt.kb (T : Txt) (K : PySem.W.Frag) : Bool := (T.G.free.all fun x => (He.Fa.free x).ok K) && T.G.tab.all (T.tabK K) && T.cls.all (T.initK K) && T.subK K
end EV

-- part EvHead2
set_option Elab.async false
set_option linter.all false
set_option maxRecDepth 100000
/-! The text's functions keep what the evaluator promises. -/
namespace EV
open PySem PySem.Spec PyProof.Rows L2

/-- a relation of the first n classes -/
def subOf (n : Nat) (f : Nat → Nat → Bool) : Nat → Nat → Option Bool := fun c c0 => if Nat.blt c n && Nat.blt c0 n then some (f c c0) else none
theorem subOf_lt {n : Nat} {f : Nat → Nat → Bool} {c c0 : Nat} {b : Bool} (h : subOf n f c c0 = some b) : c < n ∧ c0 < n := by
  unfold subOf at h
  split at h
  · next q =>
    rw [Bool.and_eq_true] at q
    exact ⟨Nat.blt_eq.mp q.1, Nat.blt_eq.mp q.2⟩
  · cases h
theorem gvOf_mem {x : Str} {v : GV} : ∀ {l : List (Str × GV)}, gvOf x l = some v → (x, v) ∈ l
  | [], h => by cases h
  | (y, u) :: l, h => by
    unfold gvOf at h
    split at h
    · next e =>
      cases h
      rw [beq_iff_eq.mp e]
      exact List.mem_cons_self
    · exact List.mem_cons_of_mem _ (gvOf_mem h)
theorem kwOf_mem {x : Str} {n : Nat} {ks : List Str} {is : List Nat} : ∀ {l : List (Str × Nat × List Str × List Nat)}, kwOf x n ks l = some is → (x, n, ks, is) ∈ l
  | [], h => by cases h
  | (y, m, js, is') :: l, h => by
    unfold kwOf at h
    split at h
    · next e =>
      simp only [Bool.and_eq_true, beq_iff_eq, decide_eq_true_eq] at e
      obtain ⟨⟨rfl, rfl⟩, rfl⟩ := e
      cases h
      exact List.mem_cons_self
    · exact List.mem_cons_of_mem _ (kwOf_mem h)
/-- the context that a text gives -/
def Txt.ctx (T : Txt) (K : PySem.W.Frag) (w : World) : Ctx := ⟨K, w, T.ca K, T.G.fld, none⟩
/-- what is known of a heap's part K and the module's names -/
structure Txt.Known (T : Txt) (K : PySem.W.Frag) (mg : Str → Option Value) : Prop where
  ok : T.ok = true
  sub : ∀ c c0 b, T.G.sub c c0 = some b → c < T.cls.length ∧ c0 < T.cls.length
  kb : T.kb K = true
  mg : ∃ h : Heap, K.In h ∧ h.Ns mainGlobals mg
  defs : ∀ d ∈ T.defs, ∃ fd, FunD K d.name d.qual d.params d.body d.scope (d.dvs K) (d.kws K) (He.fAd K d.at_) fd
section
variable {T : Txt} {K : PySem.W.Frag} {mg : Str → Option Value} {P : Program} {w : World} {base : Heap}
theorem Txt.Known.fnD (k : T.Known K mg) {i : Nat} {d : FT} (h : T.fns[i]? = some d) : ∃ fd, FunD K d.x d.x d.params d.body d.scope [] [] (He.ga K d.x) fd :=
  k.defs d.def_ (List.mem_append_left _ (List.mem_map_of_mem (List.mem_of_getElem? h)))
theorem Txt.Known.inD (k : T.Known K mg) {x : Str} {i : IT} (h : (x, some i) ∈ T.cls) : ∃ fd, FunD K "__init__" (initQ x) i.params i.body i.scope [] [] (He.ma K (He.ga K x) "__init__") fd :=
  k.defs (i.def_ x) (List.mem_append_right _ (List.mem_filterMap.mpr ⟨(x, some i), h, rfl⟩))
theorem Txt.Known.parts (k : T.Known K mg) : (∀ x ∈ T.G.free, mg x = none) ∧ (∀ p ∈ T.G.tab, T.tabK K p = true) ∧ (∀ p ∈ T.cls, T.initK K p = true) ∧ T.subK K = true := by
  obtain ⟨h, X, G⟩ := k.mg
  have q := k.kb
  simp only [Txt.kb, Bool.and_eq_true, List.all_eq_true] at q
  obtain ⟨⟨⟨h1, h2⟩, h3⟩, h4⟩ := q
  exact ⟨fun x hx => He.free_ok X G (h1 x hx), h2, h3, h4⟩
theorem Txt.Known.syn (k : T.Known K mg) : (∀ d ∈ T.fns, FT.ok T d = true) ∧ (∀ p ∈ T.G.tab, T.tabB p = true) ∧ (∀ p ∈ T.G.kws, T.kwB p = true) ∧ ∀ c p i, T.cls[c]? = some p → p.2 = some i → IT.ok T c i = true := by
  have q := k.ok
  simp only [Txt.ok, Bool.and_eq_true, List.all_eq_true] at q
  obtain ⟨⟨⟨h1, h2⟩, h3⟩, h4⟩ := q
  refine ⟨h1, h2, h3, fun c p i hp hi => ?_⟩
  have m : (p, c) ∈ T.cls.zipIdx := by
    rw [List.mem_iff_getElem?]
    exact ⟨c, by rw [List.getElem?_zipIdx, hp]; simp⟩
  have r := h4 _ m
  simp only [hi] at r
  exact r
/-- the functions, at a level of calls -/
def Txt.Fns (T : Txt) (K : PySem.W.Frag) (mg : Str → Option Value) (P : Program) (w : World) (base : Heap) (k : Nat) : Prop :=
  ∀ i d fd, T.fns[i]? = some d → FunD K d.x d.x d.params d.body d.scope [] [] (He.ga K d.x) fd → FnOk P w K mg base (L2.CX P w) (k + 2) (He.ga K d.x) fd d.ps (spF (T.ctx K w) d.ps.length (runL T.code k i))
theorem init_fn (k : T.Known K mg) {c : Nat} {x : Str} {i : IT} (h : T.cls[c]? = some (x, some i)) : ∃ fd, FnOk P w K mg base (L2.CX P w) 1 (He.ma K (He.ga K x) "__init__") fd (argNames i.params) (spI K (T.G.fld c)) ∧ Binds K fd (argNames i.params) [] := by
  obtain ⟨fd, F⟩ := k.inD (List.mem_of_getElem? h)
  obtain ⟨hp, X, G⟩ := k.mg
  have s := k.syn.2.2.2 c _ i h rfl
  have q := k.parts.2.2.1 _ (List.mem_of_getElem? h)
  simp only [IT.ok, Bool.and_eq_true, decide_eq_true_eq, Bool.not_eq_true'] at s
  obtain ⟨⟨⟨⟨⟨⟨⟨⟨⟨s1, s2⟩, s3⟩, s4⟩, s5⟩, s6⟩, s7⟩, s8⟩, s9⟩, s10⟩ := s
  simp only [Txt.initK, Bool.and_eq_true] at q
  obtain ⟨⟨⟨⟨⟨q1, q2⟩, q3⟩, q4⟩, q5⟩, q6⟩ := q
  refine ⟨fd, ?_, binds_of F s1⟩
  rw [s7]
  exact init_ok F (scopeB_ok s2) s3 s4 (by rintro e; rw [e] at s5; cases s5) s6 (baseB_ok q5) (He.glo_ok X G q6)
theorem okx_of (k : T.Known K mg) {n : Nat} (hF : T.Fns K mg P w base n) {X : Cx} {d : FT} {Wx : WX} (e1 : X.prog = P) (e2 : X.w = w) (e3 : X.K = K) (e4 : X.mg = mg) (e5 : X.base = base) (hN : X.N = d.N) (nd : d.N.Nodup) (hsc : X.env.scope = d.scope) (hfn : X.fn = fun _ => true) (hr : Room (n + 2) X.A) (hc : X.calm = true) (tk : Takes X Wx) :
    Okx T.G (T.ctx K w) d.wh X Wx (runL T.code n) := by
  obtain ⟨hp, XI, GN⟩ := k.mg
  obtain ⟨p1, p2, p3, p4⟩ := k.parts
  obtain ⟨s1, s2, s3, s4⟩ := k.syn
  subst e1 e2 e3 e4 e5
  refine
    { K := rfl, w := rfl, N := hN, nd := by rw [hN]; exact nd, sc := hsc, fb := hfn
      u := by have := hr.units; have := hr.un; omega
      un := fun x hx => p1 x hx
      cst := fun x v hx => ?_
      cls := fun x c r hx => ?_
      rai := fun _ x c hx => ?_
      fl := fun c => rfl
      exx := fun c c0 b hb => ?_
      calm := fun _ => hc
      tk := fun _ => tk
      fn := fun _ x g ps hx => ?_
      held := fun h => by cases h
      xa := fun _ => rfl }
  · have q := p2 _ (gvOf_mem hx)
    have s := s2 _ (gvOf_mem hx)
    cases v with
    | int i =>
      obtain ⟨t, ht⟩ := He.int_ok XI GN q
      exact ⟨.int i, _, ht, ⟨t, rfl⟩, fun ρ H => rel_int⟩
    | str z =>
      obtain ⟨t, ht⟩ := He.str_ok XI GN q
      obtain ⟨f1, f2⟩ := fits_ok s
      exact ⟨.str (ws z), _, ht, ⟨t, rfl⟩, fun ρ H => rel_str f1 f2⟩
    | _ => cases s
  · have q := p2 _ (gvOf_mem hx)
    have s := s2 _ (gvOf_mem hx)
    have g := He.glo_ok XI GN q
    simp only [Txt.tabB] at s
    split at s
    · next p hp =>
      simp only [Bool.and_eq_true, decide_eq_true_eq] at s
      have e : T.clsX c = x := by
        unfold Txt.clsX
        rw [hp]
        exact s.1
      show X.mg x = some (.ref (He.ga X.K (T.clsX c)))
      rw [e]
      exact g
    · cases s
  · have q := p2 _ (gvOf_mem hx)
    have s := s2 _ (gvOf_mem hx)
    have g := He.glo_ok XI GN q
    simp only [Txt.tabB] at s
    split at s
    · next p hp =>
      simp only [Bool.and_eq_true, decide_eq_true_eq] at s
      obtain ⟨y, o⟩ := p
      have e0 : y = x := s.1
      subst e0
      cases o with
      | none => exact absurd s.2 Bool.false_ne_true
      | some i =>
        have e : T.clsX c = y := by
          unfold Txt.clsX
          rw [hp]
        have ec : (T.ctx X.K X.w).ca c = He.ga X.K y := by
          show He.ga X.K (T.clsX c) = _
          rw [e]
        have qi := p3 _ (List.mem_of_getElem? hp)
        simp only [Txt.initK, Bool.and_eq_true] at qi
        obtain ⟨⟨⟨⟨⟨q1, q2⟩, q3⟩, q4⟩, q5⟩, q6⟩ := qi
        have si := s4 c _ i hp rfl
        simp only [IT.ok, Bool.and_eq_true, decide_eq_true_eq, Bool.not_eq_true'] at si
        obtain ⟨⟨⟨⟨⟨⟨⟨⟨⟨i1, i2⟩, i3⟩, i4⟩, i5⟩, i6⟩, i7⟩, i8⟩, i9⟩, i10⟩ := si
        obtain ⟨fd, f1, f2⟩ := init_fn (P := X.prog) (w := X.w) (base := X.base) k hp
        refine ⟨by rw [ec]; exact g, by rw [ec]; exact oexB_ok q1, fun f hf => ?_, ?_, ?_, ?_⟩
        · rw [ec]
          have hf : f ∈ T.G.fld c := hf
          rw [i7] at hf
          obtain ⟨pf, m, rfl⟩ := List.mem_map.mp hf
          exact He.eqO_ok (List.all_eq_true.mp q2 pf m)
        · show (T.G.fld c).Nodup
          rw [i7]
          exact i8
        · show (T.G.fld c).length ≤ 100
          rw [i7, List.length_map]
          exact Nat.le_of_ble_eq_true i9
        · refine ⟨_, fd, 1, _, by rw [ec]; exact He.eqO_ok q3, of_decide_eq_true q4, f1, hr.mono (by omega), f2⟩
    · cases s
  · obtain ⟨l1, l2⟩ := k.sub c c0 b hb
    simp only [Txt.subK, List.all_eq_true, List.mem_range] at p4
    have q := p4 c l1 c0 l2
    simp only [hb, Bool.and_eq_true, decide_eq_true_eq, List.all_eq_true] at q
    obtain ⟨⟨⟨q1, q2⟩, q3⟩, q4⟩ := q
    exact ⟨q1, q2, (excB_ok q3).2, (excB_ok q3).1, fun f hf => He.eqO_ok (q4 f hf)⟩
  · have q := p2 _ (gvOf_mem hx)
    have s := s2 _ (gvOf_mem hx)
    have g0 := He.glo_ok XI GN q
    simp only [Txt.tabB] at s
    split at s
    · next d' hd =>
      simp only [Bool.and_eq_true, decide_eq_true_eq] at s
      obtain ⟨rfl, rfl⟩ := s
      obtain ⟨fd, F⟩ := k.fnD hd
      have fo := s1 d' (List.mem_of_getElem? hd)
      simp only [FT.ok, Bool.and_eq_true] at fo
      refine ⟨He.ga X.K d'.x, n + 2, fd, ⟨g0, F.kp, hr, hF g d' fd hd F, binds_of F fo.1.1⟩, fun m ks is hk => ?_⟩
      have kk := s3 _ (kwOf_mem hk)
      simp only [Txt.kwB, hx] at kk
      exact kwA_of F fo.1.1 kk
    · cases s
theorem fns_ok (k : T.Known K mg) : ∀ n, T.Fns K mg P w base n
  | 0 => fun i d fd hd F => ⟨fun vs H Q E h => by
      obtain ⟨ρ, ds, st, rs, hn, R, p⟩ := h
      exact p.elim, fun A outer s H args us vs Q E hr he hb hv hs => by
      obtain ⟨ρ, ds, st, rs, hn, R, p⟩ := hs
      exact p.elim⟩
  | n + 1 => fun i d fd hd F => by
    have ih := fns_ok k n
    have fo := k.syn.1 d (List.mem_of_getElem? hd)
    simp only [FT.ok, Bool.and_eq_true] at fo
    have S := scopeB_ok fo.1.2
    have hcode : T.code[i]? = some (FT.fn T d) := by
      unfold Txt.code
      rw [List.getElem?_map, hd]
      rfl
    have hrun : runL T.code (n + 1) i = inOwn (inLeaf (bodyF (FT.fn T d) (runL T.code n))) := by
      funext ds st
      show (match T.code[i]? with | some F => inOwn (inLeaf (bodyF F (runL T.code n))) ds st | none => .bad) = _
      rw [hcode]
    rw [hrun]
    obtain ⟨b, hb⟩ := Option.isSome_iff_exists.mp fo.2
    have eb : (FT.fn T d).body = b := by
      show (cSs T.G d.wh T.fuel d.body).getD badS = b
      rw [hb]
      rfl
    refine fn_ok (C := T.ctx K w) rfl F S rfl rfl fun cdv A outer s H E hr => ?_
    rw [eb]
    refine (sts_all T.fuel _ d.wh _ _ ⟨okx_of k ih rfl rfl rfl rfl rfl rfl S.nd rfl rfl hr rfl ?_, fun _ => ?_, rfl, rfl, S.kind⟩).l _ _ hb
    · exact takes_of rfl rfl rfl rfl
    · exact passes_of rfl
end
end EV

-- part EvHook
set_option Elab.async false
set_option linter.all false
set_option maxRecDepth 100000
/-! What is looked at behind the import. -/
namespace EV
open PySem PySem.Spec PyProof.Rows L2
/-- the heap's part: what the module's names reach, the classes' statics -/
def Txt.part (g : Addr → Option Obj) (n : Nat) : PySem.W.Frag := He.frT g (PySem.cStatics :: He.asD g n)
abbrev AlE : Type := He.AlD × Bool
def Txt.see (T : Txt) (n : Nat) (g : Addr → Option Obj) : AlE := (He.obsD [] T.defs (Txt.part g n), T.kb (Txt.part g n))
def Txt.hook (T : Txt) (n : Nat) : PySem.W.Hook where
  α := AlE
  obs := fun s => T.see n s.heap.get?
  val := fun _ => (He.valD T.defs, true)
  says := fun _ h => ∃ K : PySem.W.Frag, K.In h ∧ He.SaysD [] T.defs K ∧ T.kb K = true
  of := fun _ _ e => ⟨_, He.frT_in, congrArg (fun z : AlE => z.1) e, congrArg (fun z : AlE => z.2) e⟩
  keeps := fun _ _ _ ⟨K, hK, c⟩ k => ⟨K, PySem.W.Frag.In.keeps hK k, c⟩
theorem Txt.see_eq {T : Txt} {n : Nat} {g : Addr → Option Obj} {s : Shared} (h : ∀ a, g a = s.heap.get? a) : T.see n g = (T.hook n).obs s := by
  have e : g = s.heap.get? := funext h
  rw [e] <;> rfl
theorem Txt.known {T : Txt} {K : PySem.W.Frag} {mg : Str → Option Value} {h : Heap} (ok : T.ok = true) (sub : ∀ c c0 b, T.G.sub c c0 = some b → c < T.cls.length ∧ c0 < T.cls.length) (X : K.In h) (G : h.Ns mainGlobals mg) (c : He.SaysD [] T.defs K) (kb : T.kb K = true) : T.Known K mg :=
  ⟨ok, sub, kb, ⟨h, X, G⟩, fun d hd => c.defs hd⟩
end EV

-- part EvEnd
set_option Elab.async false
set_option linter.all false
set_option maxRecDepth 100000
set_option maxHeartbeats 2000000
/-! The end of a law by the evaluator. -/
namespace EV
open PySem PySem.Spec PyProof.Rows L2
theorem fl_of {K : PySem.W.Frag} {H : Hp} {a : Addr} {vs : List V} (hO : Only H) (hS : SqL K H a vs) : FL K H a vs := by
  rcases hS with (h | ⟨o, h⟩) | h
  · rcases hO a with z | ⟨o, xs, z⟩
    · rw [h] at z; cases z
    · rw [h] at z; cases z
  · exact .inl ⟨o, h⟩
  · exact .inr h
theorem law_post {C : Ctx} {H : Hp} {a : Addr} {ns : List Int} {g : List D → Sto → Res D} (hO : Only H) (hS : SqL C.K H a (ns.map V.int)) (h : g [.lst (ns.map .int)] [] = .ok (.bl true) []) :
    spF C 1 g [.ref a] H (fun v _ => v = .bl true) fun _ _ _ => False := by
  refine ⟨[], [.lst (ns.map .int)], [], ?_, rfl, ⟨rfl, List.nodup_nil, fun i a o h => by cases h⟩, ?_⟩
  · simp only [RelDs]
    refine ⟨_, _, rfl, ?_, rfl⟩
    simp only [RelD]
    exact ⟨a, _, rfl, fl_of hO hS, rels_ints ns⟩
  · rw [h]
    intro v H' ρ' s r
    have r' : RelD C ρ' H' (.bl true) v := r
    simpa only [RelD] using r'
end EV
namespace L2
open PySem PySem.Spec PyProof.Rows
/-- a law's end where what leaves a def speaks of the world -/
theorem walk_ofW {l : PySem.W.OpenLaw} {n k : Nat} {q : Program} {loose : List Str} {XP : (Str → Option Value) → Heap → Prop} {YP : World → Heap → Prop} {d : DefRec} {CX : World → CXT} {x : Str}
    (hn : l.most = some n) (hn2 : n ≤ sizeLine) (hdf : d.params.defaults = []) (hr : Room k callerA)
    (F : ∀ (w : World) (mg : Str → Option Value) (fa : Addr) (h : Heap), YP w h → h.Ns mainGlobals mg → mg d.name = some (.ref fa) →
      ∃ (K : PySem.W.Frag) (fd : FuncData) (sp : Sp), K.In h ∧ (∀ (s : Shared) (u : Value), BindsTo s fd ⟨[u], []⟩ [(x, u)]) ∧
        (∀ (H : Hp) (a : Addr) (ns : List Int), ns.length ≤ n → Only H → SqL K H a (ns.map V.int) → sp [.ref a] H (fun v _ => v = .bl true) fun _ _ _ => False) ∧
        ∀ base : Heap, K.In base → base.Ns mainGlobals mg → FnOk l.prog w K mg base (CX w) k fa fd [x] sp)
    (hCX : ∀ (w : World) (H : Hp) (s : Shared) (e : Value) (s' : Shared), CX w [] H s (fun _ _ _ => False) e s' → False) :
    PySem.W.WalkO q loose XP YP l.row.toRowW d [] (fun f vs => PySem.call f vs) := by
  refine Att.attach_call hn hdf fun w s₀ s₁ mg mb fa o pm cd doc a vs ns G Y ho hd hcd hmg hobj hints hlen hg => ?_
  obtain ⟨K, fd, sp, KX, hb, hsp, hF⟩ := F w mg fa _ Y G.T.g hmg
  exact law_call KX G.T.g G.T.b G.T.builtins G.T.nolimit hg hobj hints (Nat.le_trans hlen hn2) hr hF hb (fun H hO hS => hsp H a ns hlen hO hS) fun H e s' => hCX w H s₁ e s'
end L2
namespace EV
open PySem PySem.Spec PyProof.Rows L2
/-- the law by the evaluator: i, the law's number among the text's functions -/
theorem law_end {T : Txt} {l : PySem.W.OpenLaw} {q : Program} {loose : List Str} {XP : (Str → Option Value) → Heap → Prop} {d : DefRec} {i m k : Nat} {dl : FT} (hn : l.most = some 63) (hdf : d.params.defaults = []) (hr : Room (k + 2) callerA)
    (ok : T.ok = true) (sub : ∀ c c0 b, T.G.sub c c0 = some b → c < T.cls.length ∧ c0 < T.cls.length) (hi : T.fns[i]? = some dl) (hx : dl.x = d.name) (hp : dl.ps = [("script" : PySem.Str)]) (hg : gvOf d.name T.G.tab = some (.fn i [("script" : PySem.Str)]))
    (law : ∀ ns : List Int, ns.length ≤ 63 → runL T.code k i [.lst (ns.map .int)] [] = .ok (.bl true) []) :
    PySem.W.WalkO q loose XP (fun w h => (T.hook m).says w h) l.row.toRowW d [] (fun f vs => PySem.call f vs) := by
  refine walk_ofW (k := k + 2) (x := "script") (CX := fun w => L2.CX l.prog w) hn (by decide) hdf hr (fun w mg fa h Y G hmg => ?_) fun w H s e s' hc => ?_
  · obtain ⟨K, KX, c, kb⟩ := Y
    have kn : T.Known K mg := Txt.known ok sub KX G c kb
    obtain ⟨fd, F⟩ := kn.fnD hi
    have fo := kn.syn.1 dl (List.mem_of_getElem? hi)
    simp only [FT.ok, Bool.and_eq_true] at fo
    have e0 : fa = He.ga K dl.x := by
      have q := kn.parts.2.1 _ (gvOf_mem hg)
      have e := hmg.symm.trans (He.glo_ok KX G q)
      rw [hx]
      cases e
      rfl
    subst e0
    have b : ∀ (s : Shared) (us : List Value), us.length = dl.ps.length → BindsTo s fd ⟨us, []⟩ (dl.ps.zip us) := by
      obtain ⟨e, nd⟩ := plainArgs_ok fo.1.1
      refine F.bindsA fun kV doc pm an cdv ct us hl => ?_
      rw [e]
      exact bind_pos nd (by simpa [FT.ps, argNames] using hl)
    rw [hp] at b
    refine ⟨K, fd, spF (T.ctx K w) 1 (runL T.code k i), KX, fun s v => b s [v] rfl, fun H a ns hl hO hS => law_post hO hS (law ns hl), fun base hK hG => ?_⟩
    have kn' : T.Known K mg := kn
    have := fns_ok (P := l.prog) (w := w) (base := base) kn k i dl fd hi F
    rw [hp] at this
    exact this
  · obtain ⟨a, B, H', cls, dd, _, _, _, _, _, _, _, f⟩ := hc
    exact f
end EV

-- part EvBig
set_option Elab.async false
set_option linter.all false
set_option maxRecDepth 100000
/-! Rules to reckon by hand with what the evaluator does: each construct's end from its parts' ends. -/
namespace EV
section
variable {Φ : Call} {env env1 : Env} {st st1 st2 st3 : Sto} {a b c : M D} {x y z d : D} {r : Res D} {p q : S}
theorem gz_op2 {f : Op2} (ha : a Φ env st = .ok x st1) (hb : b Φ env st1 = .ok y st2) (h : f x y st2 = r) : op2M f a b Φ env st = r := by
  unfold op2M
  rw [ha]
  show Res.bind (b Φ env st1) _ = r
  rw [hb]
  exact h
theorem gz_op1 {f : D → Sto → Res D} (ha : a Φ env st = .ok x st1) (h : f x st1 = r) : op1M f a Φ env st = r := by
  unfold op1M
  rw [ha]
  exact h
theorem gz_nil : nilA Φ env st = .ok [] st := rfl
theorem gz_cons {m : M (List D)} {xs : List D} (ha : a Φ env st = .ok x st1) (hb : m Φ env st1 = .ok xs st2) : consA a m Φ env st = .ok (x :: xs) st2 := by
  unfold consA
  rw [ha]
  show Res.bind (m Φ env st1) _ = _
  rw [hb]
  rfl
theorem gz_with {f : BF} {m : M (List D)} {xs : List D} (ha : m Φ env st = .ok xs st1) (h : f xs st1 = r) : withA f m Φ env st = r := by
  unfold withA
  rw [ha]
  exact h
theorem gz_lst {m : M (List D)} {xs : List D} (ha : m Φ env st = .ok xs st1) (h : Nat.ble xs.length line = true) : lstM m Φ env st = .ok (.ref st1.length) (st1 ++ [.lst xs]) := by
  unfold lstM
  refine gz_with ha ?_
  unfold mkLst
  rw [if_pos h]
  rfl
theorem gz_tup {m : M (List D)} {xs : List D} (ha : m Φ env st = .ok xs st1) (h : Nat.ble xs.length line = true) : tupM m Φ env st = .ok (.tup xs) st1 := by
  unfold tupM
  refine gz_with ha ?_
  unfold mkTup
  rw [if_pos h]
theorem gz_b1 {f : BF} (ha : a Φ env st = .ok x st1) (h : f [x] st1 = r) : withA f (consA a nilA) Φ env st = r := gz_with (gz_cons ha rfl) h
theorem gz_call {f n : Nat} {m : M (List D)} {xs : List D} (ha : m Φ env st = .ok xs st1) (hn : xs.length = n) (h : Φ f xs st1 = r) : callM f n m Φ env st = r := by
  unfold callM
  rw [ha]
  show (if xs.length = n then Φ f xs st1 else .bad) = r
  rw [if_pos hn]
  exact h
theorem gz_it {i : EV.It} (ha : a Φ env st = .ok x st1) (h : itF x st1 = .ok i st1) : itM a Φ env st = .ok i st1 := by
  unfold itM
  rw [ha]
  exact h
theorem gz_seq_nx (h : p Φ env st = .nx env1 st1) : seqS p q Φ env st = q Φ env1 st1 := by
  unfold seqS
  rw [h]
theorem gz_seq_rt (h : p Φ env st = .rt d st1) : seqS p q Φ env st = .rt d st1 := by
  unfold seqS
  rw [h]
theorem gz_asg {g : Tg} (he : a Φ env st = .ok d st1) (hg : g d env st1 = some env1) : asgS g a Φ env st = .nx env1 st1 := by
  unfold asgS
  rw [he]
  show (match g d env st1 with | some env1 => SR.nx env1 st1 | none => .bad) = _
  rw [hg]
theorem gz_set {i : Nat} (he : a Φ env st = .ok d st1) : asgS (setG i) a Φ env st = .nx (env.set i (some d)) st1 := gz_asg he rfl
theorem gz_ret (he : a Φ env st = .ok d st1) : retS a Φ env st = .rt d st1 := by
  unfold retS
  rw [he]
  rfl
theorem gz_put {st4 : Sto} (hv : c Φ env st = .ok z st1) (ho : a Φ env st1 = .ok x st2) (hi : b Φ env st2 = .ok y st3) (h : EV.putF x y z st3 = some st4) : putS a b c Φ env st = .nx env st4 := by
  unfold putS
  rw [hv]
  show liftR env (a Φ env st1) _ = _
  rw [ho]
  show liftR env (b Φ env st2) _ = _
  rw [hi]
  show (match EV.putF x y z st3 with | some st4 => SR.nx env st4 | none => .bad) = _
  rw [h]
theorem gz_if {t : M Bool} {c : Bool} (ht : t Φ env st = .ok c st1) : ifS t p q Φ env st = if c = true then p Φ env st1 else q Φ env st1 := by
  unfold ifS
  rw [ht]
  rfl
theorem gz_for {it : M EV.It} {i : EV.It} {g : Tg} (h : it Φ env st = .ok i st1) : forS it g p Φ env st = forGo i g (p Φ) wfuel 0 env st1 := by
  unfold forS
  rw [h]
  rfl
theorem gz_go_end {i : EV.It} {g : Tg} {body : Env → Sto → SR} {fuel n : Nat} (h : i.at_ st n = some none) : forGo i g body (fuel + 1) n env st = .nx env st := by
  unfold forGo
  rw [h]
theorem gz_go_nx {i : EV.It} {g : Tg} {body : Env → Sto → SR} {fuel n : Nat} {env2 : Env} (h : i.at_ st n = some (some d)) (hg : g d env st = some env1) (hb : body env1 st = .nx env2 st2) : forGo i g body (fuel + 1) n env st = forGo i g body fuel (n + 1) env2 st2 := by
  conv => lhs; unfold forGo
  rw [h]
  dsimp only
  rw [hg]
  dsimp only
  rw [hb]
theorem gz_body_rt {F : Fn} {ds : List D} (hl : ds.length = F.params) (h : F.body Φ (startE F.slots ds) st = .rt d st1) : bodyF F Φ ds st = .ok d st1 := by
  unfold bodyF
  rw [if_pos hl, h]
/-! operators -/
theorem gz_add_int {i j : Int} : opAdd (.int i) (.int j) st = .ok (.int (i + j)) st := rfl
theorem gz_mul_int {i j : Int} (h : EV.small64 i = true) : opMul (.int i) (.int j) st = .ok (.int (i * j)) st := by
  unfold opMul
  simp only [h, Bool.true_or, if_true]
theorem gz_mul_int' {i j : Int} (h : EV.small64 j = true) : opMul (.int i) (.int j) st = .ok (.int (i * j)) st := by
  unfold opMul
  simp only [h, Bool.or_true, if_true]
theorem gz_mod_int {i j : Int} (h : 0 < j) : opMod (.int i) (.int j) st = .ok (.int (i % j)) st := by
  unfold opMod
  simp only [h, decide_true, if_true]
theorem gz_div_int {i j : Int} (h : 0 < j) (h2 : j < 1073741824) : opFdiv (.int i) (.int j) st = .ok (.int (i / j)) st := by
  unfold opFdiv
  simp only [h, h2, decide_true, Bool.and_self, if_true]
theorem gz_pow_int {i j : Int} (h : 0 ≤ j) (h2 : j ≤ 1000000) (h3 : EV.small64 i = true) : opPow (.int i) (.int j) st = .ok (.int (i ^ j.toNat)) st := by
  unfold opPow
  simp only [h, h2, h3, decide_true, Bool.and_self, if_true]
end
end EV

-- part EvLaw
set_option Elab.async false
set_option linter.all false
set_option maxRecDepth 100000
set_option maxHeartbeats 4000000
/-! The laws' own helpers: a cell of the script, a box, its digits. -/
namespace EV.Law
open PySem PySem.Spec PyProof.Rows L2 EV
abbrev cI (i : Int) : M D := cstM (.int i)
abbrev ix (v : Nat) (i : Int) : M D := op2M opIx (varM v) (cI i)
abbrev b1 (f : BF) (a : M D) : M D := withA f (consA a nilA)
def Scell : S := seqS (retS (ifM (blT (op2M opLt (varM 1) (b1 bLen (varM 0)))) (op2M opIx (varM 0) (varM 1)) (op2M opAdd (op2M opMul (cI 7213) (varM 1)) (op2M opMod (b1 bInt (b1 bSum (sliceM (varM 0) noB (someB (cI 1))))) (cI 1000033))))) nilS
def Sbox : S := seqS (retS (lstM (consA (b1 bAbs (varM 0)) (consA (op2M opGe (b1 bAbs (varM 0)) (op2M opPow (cI 10) (cI 18))) (consA (op2M opMod (b1 bInt (b1 bAbs (varM 0))) (cI 2147483629)) (consA (cI 0) nilA)))))) nilS
def Stake : S := seqS (ifS (andT (valT (ix 0 1)) (blT (op2M opGt (ix 0 0) (cI 0))))
    (seqS (asgS (setG 2) (op2M opMod (b1 bInt (ix 0 0)) (varM 1))) (seqS (putS (varM 0) (cI 0) (op2M opFdiv (ix 0 0) (varM 1))) (seqS (retS (varM 2)) nilS))) nilS)
  (seqS (putS (varM 0) (cI 3) (op2M opAdd (ix 0 3) (cI 1)))
  (seqS (asgS (setG 3) (op2M opMod (b1 bInt (op2M opPow (op2M opAdd (op2M opAdd (ix 0 2) (op2M opMul (cI 15485917) (ix 0 3))) (cI 179424779)) (cI 5))) (cI 2147483647)))
  (seqS (retS (op2M opMod (b1 bInt (op2M opFdiv (op2M opMod (b1 bInt (op2M opPow (op2M opAdd (op2M opMul (varM 3) (cI 48271)) (op2M opMul (cI 104801) (ix 0 3))) (cI 3))) (cI 2147483587)) (cI 64))) (varM 1))) nilS)))
variable {fns : List Fn} {fi : Nat}
theorem runL_at {fns : List Fn} {n f : Nat} {F : Fn} {ds : List D} {st : Sto} (h : fns[f]? = some F) : runL fns (n + 1) f ds st = inOwn (inLeaf (bodyF F (runL fns n))) ds st := by
  show (match fns[f]? with | some F => inOwn (inLeaf (bodyF F (runL fns n))) ds st | none => .bad) = _
  rw [h]
theorem leafI_free {st : Sto} : ∀ {ds : List D} {I : List Nat}, noRefs ds = true → leafI st ds I = some I
  | [], _, _ => rfl
  | d :: ds, I, h => by
    simp only [noRefs, Bool.and_eq_true] at h
    have ih := leafI_free (st := st) (I := I) h.2
    cases d <;> first | (simp only [leafI, h.1, if_true]; exact ih) | (have := h.1; simp [noRef] at this)
theorem inLeaf_free {g : List D → Sto → Res D} {ds : List D} {st : Sto} (h : noRefs ds = true) : inLeaf g ds st = g ds st := by
  unfold inLeaf
  rw [leafI_free h]
theorem own_val {g : List D → Sto → Res D} {ds : List D} {st own : Sto} {d : D} (h : noRefs ds = true) (e : g ds [] = .ok d own) (n : noRef d = true) : inOwn (inLeaf g) ds st = .ok d st := by
  unfold inOwn
  rw [if_pos h, inLeaf_free h, e]
  simp only [bring, n, if_true]
theorem noRefs_ints : ∀ ns : List Int, noRefs (ns.map D.int) = true
  | [] => rfl
  | _ :: ns => by simp only [List.map_cons, noRefs, noRef, noRefs_ints ns, Bool.and_self]
theorem intsD_ints : ∀ ns : List Int, intsD (ns.map D.int) = some ns
  | [] => rfl
  | n :: ns => by simp [intsD, intsD_ints ns]
theorem cut_one (xs : List D) : cutOf xs none (some 1) = xs.take 1 := by
  cases xs with
  | nil => simp [cutOf]
  | cons x r =>
    simp [cutOf, HT.sIx]
theorem cell_ok (c34 : fns[fi]? = some ⟨2, 2, Scell⟩) (n : Nat) (ns : List Int) (k : Int) (hk : 0 ≤ k) (st : Sto) : ∃ c : Int, runL fns (n + 1) fi [.lst (ns.map .int), .int k] st = .ok (.int c) st := by
  by_cases h : k < ns.length
  · refine ⟨ns[k.toNat]'(by omega), ?_⟩
    rw [runL_at c34]
    refine own_val (own := []) (by simp only [noRefs, noRef, noRefs_ints]; rfl) ?_ rfl
    simp [bodyF, Scell, seqS, retS, liftR, ifM, blT, op2M, varM, startE, b1, withA, consA, nilA, Res.bind, bLen, opLt, h, opIx, L2.atI, L2.ixN, hk]
  · refine ⟨7213 * k + ((ns.take 1).sum) % 1000033, ?_⟩
    rw [runL_at c34]
    refine own_val (own := [.lst ((ns.take 1).map .int)]) (by simp only [noRefs, noRef, noRefs_ints]; rfl) ?_ rfl
    have e : intsD (List.take 1 (ns.map D.int)) = some (ns.take 1) := by rw [← List.map_take, intsD_ints]
    simp [bodyF, Scell, seqS, retS, liftR, ifM, blT, op2M, varM, startE, b1, withA, consA, nilA, Res.bind, bLen, opLt, h, cI, cstM, opMul, sliceM, noB, someB, opSlice, cut_one, EV.alloc, bSum, lstAt, bInt, opMod, opAdd, EV.small64, e]
theorem own_list {g : List D → Sto → Res D} {ds : List D} {st own : Sto} {i : Nat} {xs : List D} (h : noRefs ds = true) (e : g ds [] = .ok (.ref i) own) (ho : own[i]? = some (.lst xs)) (n : noRefs xs = true) : inOwn (inLeaf g) ds st = .ok (.ref st.length) (st ++ [.lst xs]) := by
  unfold inOwn
  rw [if_pos h, inLeaf_free h, e]
  have : noRef (.ref i) = false := by simp [noRef]
  simp only [bring, this, ho, n, if_true]
  rfl
/-- a box: what is in it -/
def Box (a : Int) (b : Bool) (c d : Int) : O := .lst [.int a, .bl b, .int c, .int d]
structure BoxOk (m : Nat) (a c d : Int) : Prop where
  a0 : 0 ≤ a
  c0 : 0 ≤ c
  c1 : c < 2147483648
  d0 : 0 ≤ d
  d1 : d ≤ m
theorem take_test (Φ : Call) {m a c d : Int} {b : Bool} : andT (valT (ix 0 1)) (blT (op2M opGt (ix 0 0) (cI 0))) Φ [some (.ref 0), some (.int m), none, none] [Box a b c d] = .ok (b && decide (0 < a)) [Box a b c d] := by
  cases b <;> rfl
theorem take_a (Φ : Call) {m a c d : Int} (hm : 0 < m) (hm3 : m < 1073741824) (h : 0 < a) : bodyF ⟨4, 2, Stake⟩ Φ [.ref 0, .int m] [Box a true c d] = .ok (.int (a % m)) [Box (a / m) true c d] := by
  refine gz_body_rt rfl ?_
  show Stake Φ [some (.ref 0), some (.int m), none, none] [Box a true c d] = _
  unfold Stake
  refine gz_seq_rt ?_
  rw [gz_if (take_test Φ), if_pos (by simp [h])]
  rw [gz_seq_nx (gz_set (gz_op2 (gz_b1 (x := .int a) (st1 := [Box a true c d]) rfl rfl) rfl (gz_mod_int hm)))]
  show seqS _ _ Φ [some (.ref 0), some (.int m), some (.int (a % m)), none] [Box a true c d] = _
  rw [gz_seq_nx (gz_put (st4 := [Box (a / m) true c d]) (gz_op2 (x := .int a) (st1 := [Box a true c d]) rfl rfl (gz_div_int hm hm3)) rfl rfl rfl)]
  exact gz_seq_rt (gz_ret rfl)
theorem take_b (Φ : Call) {m a c d : Int} {b : Bool} (hm : 0 < m) (h : (b && decide (0 < a)) = false) (s1 : EV.small64 (c + 15485917 * (d + 1) + 179424779) = true) (s2 : ∀ x : Int, 0 ≤ x → x < 2147483647 → EV.small64 (x * 48271 + 104801 * (d + 1)) = true) :
    ∃ y : Int, bodyF ⟨4, 2, Stake⟩ Φ [.ref 0, .int m] [Box a b c d] = .ok (.int (y % m)) [Box a b c (d + 1)] := by
  obtain ⟨x, hx⟩ : ∃ x : Int, x = (c + 15485917 * (d + 1) + 179424779) ^ (5 : Int).toNat % 2147483647 := ⟨_, rfl⟩
  have x0 : 0 ≤ x := by rw [hx]; exact Int.emod_nonneg _ (by omega)
  have x1 : x < 2147483647 := by rw [hx]; exact Int.emod_lt_of_pos _ (by omega)
  refine ⟨(x * 48271 + 104801 * (d + 1)) ^ (3 : Int).toNat % 2147483587 / 64, gz_body_rt rfl ?_⟩
  show Stake Φ [some (.ref 0), some (.int m), none, none] [Box a b c d] = _
  unfold Stake
  have e1 : ∀ env, nilS Φ env [Box a b c d] = .nx env [Box a b c d] := fun _ => rfl
  rw [gz_seq_nx (env1 := [some (.ref 0), some (.int m), none, none]) (st1 := [Box a b c d]) (by rw [gz_if (take_test Φ), if_neg (by simp [h])]; rfl)]
  rw [gz_seq_nx (gz_put (z := .int (d + 1)) (x := .ref 0) (y := .int 3) (st1 := [Box a b c d]) (st2 := [Box a b c d]) (st3 := [Box a b c d]) (st4 := [Box a b c (d + 1)]) (gz_op2 (x := .int d) (y := .int 1) (st1 := [Box a b c d]) (st2 := [Box a b c d]) rfl rfl rfl) rfl rfl rfl)]
  have v2 : ix 0 2 Φ [some (.ref 0), some (.int m), none, none] [Box a b c (d + 1)] = .ok (.int c) [Box a b c (d + 1)] := rfl
  have v3 : ix 0 3 Φ [some (.ref 0), some (.int m), none, none] [Box a b c (d + 1)] = .ok (.int (d + 1)) [Box a b c (d + 1)] := rfl
  rw [gz_seq_nx (gz_set (d := .int x) (by
    rw [hx]
    exact gz_op2 (gz_b1 (gz_op2 (gz_op2 (gz_op2 v2 (gz_op2 rfl v3 (gz_mul_int (by decide))) gz_add_int) rfl gz_add_int) rfl (gz_pow_int (by decide) (by decide) s1)) rfl) rfl (gz_mod_int (by decide))))]
  show seqS _ _ Φ [some (.ref 0), some (.int m), none, some (.int x)] [Box a b c (d + 1)] = _
  have v3 : ix 0 3 Φ [some (.ref 0), some (.int m), none, some (.int x)] [Box a b c (d + 1)] = .ok (.int (d + 1)) [Box a b c (d + 1)] := rfl
  clear hx e1 v2
  refine gz_seq_rt (gz_ret ?_)
  exact gz_op2 (gz_b1 (gz_op2 (gz_op2 (gz_b1 (gz_op2 (gz_op2 (gz_op2 rfl rfl (gz_mul_int' (by decide))) (gz_op2 rfl v3 (gz_mul_int (by decide))) gz_add_int) rfl (gz_pow_int (by decide) (by decide) (s2 x x0 x1))) rfl) rfl (gz_mod_int (by decide))) rfl (gz_div_int (by decide) (by decide))) rfl) rfl (gz_mod_int hm)
/-- a call on a box and a number -/
theorem leaf_box {g : List D → Sto → Res D} {r : Nat} {st : Sto} {m e : Int} {xs ys : List D} (ho : st[r]? = some (.lst xs)) (nx : noRefs xs = true) (ny : noRefs ys = true) (h : g [.ref 0, .int m] [.lst xs] = .ok (.int e) [.lst ys]) : inOwn (inLeaf g) [.ref r, .int m] st = .ok (.int e) (st.set r (.lst ys)) := by
  have l1 : inLeaf g [.ref r, .int m] st = .ok (.int e) (st.set r (.lst ys)) := by
    simp [inLeaf, leafI, ho, O.flat, nx, noRef, subSt, renDs, renD, inF, h, leafR, leafSt, setAll, O.ren, renDs_free ys ny]
  unfold inOwn
  have n1 : noRefs [.ref r, .int m] = false := by simp [noRefs, noRef]
  have n2 : (st.set r (.lst ys)).take st.length = st.set r (.lst ys) := List.take_of_length_le (by simp)
  simp only [n1, l1, Bool.false_eq_true, if_false]
  simp [tidy, n2, below]
theorem take_ok (c36 : fns[fi]? = some ⟨4, 2, Stake⟩) (n : Nat) {r m : Nat} {st : Sto} {a c d : Int} {b : Bool} {M : Nat} (hm : 0 < m) (hm2 : m < 1000) (ho : st[r]? = some (Box a b c d)) (B : BoxOk M a c d) (hM : M < 1000000) :
    ∃ (e : Nat) (a' d' : Int), e < m ∧ BoxOk (M + 1) a' c d' ∧ runL fns (n + 1) fi [.ref r, .int m] st = .ok (.int e) (st.set r (Box a' b c d')) := by
  obtain ⟨a0, c0, c1, d0, d1⟩ := B
  rw [runL_at c36]
  have hm' : (0 : Int) < m := by omega
  by_cases h : (b && decide (0 < a)) = true
  · simp only [Bool.and_eq_true, decide_eq_true_eq] at h
    obtain ⟨rfl, h⟩ := h
    have q : 0 ≤ a % (m : Int) := Int.emod_nonneg _ (by omega)
    have q2 : a % (m : Int) < m := Int.emod_lt_of_pos _ (by omega)
    refine ⟨(a % m).toNat, a / m, d, by omega, ⟨Int.ediv_nonneg a0 (by omega), c0, c1, d0, by omega⟩, ?_⟩
    rw [Int.toNat_of_nonneg q]
    exact leaf_box ho (by simp [noRefs, noRef]) (by simp [noRefs, noRef]) (take_a _ hm' (by omega) h)
  · have h' : (b && decide (0 < a)) = false := by simpa using h
    have s1 : EV.small64 (c + 15485917 * (d + 1) + 179424779) = true := by unfold EV.small64; rw [Nat.blt_eq]; omega
    have s2 : ∀ x : Int, 0 ≤ x → x < 2147483647 → EV.small64 (x * 48271 + 104801 * (d + 1)) = true := fun x x0 x1 => by unfold EV.small64; rw [Nat.blt_eq]; omega
    obtain ⟨y, hy⟩ := take_b (runL fns n) hm' h' s1 s2
    have q : 0 ≤ y % (m : Int) := Int.emod_nonneg _ (by omega)
    have q2 : y % (m : Int) < m := Int.emod_lt_of_pos _ (by omega)
    refine ⟨(y % m).toNat, a, d + 1, by omega, ⟨a0, c0, c1, by omega, by omega⟩, ?_⟩
    rw [Int.toNat_of_nonneg q]
    exact leaf_box ho (by simp [noRefs, noRef]) (by simp [noRefs, noRef]) hy
theorem box_ok (c35 : fns[fi]? = some ⟨1, 1, Sbox⟩) (n : Nat) (c : Int) (st : Sto) : ∃ a b e, BoxOk 0 a e 0 ∧ runL fns (n + 1) fi [.int c] st = .ok (.ref st.length) (st ++ [Box a b e 0]) := by
  refine ⟨if c < 0 then -c else c, decide (10 ^ (18 : Int).toNat ≤ (if c < 0 then -c else c)), (if c < 0 then -c else c) % 2147483629, ⟨by split <;> omega, by split <;> omega, by split <;> omega, by omega, by omega⟩, ?_⟩
  rw [runL_at c35]
  refine own_list (i := 0) (own := [Box _ _ _ 0]) rfl ?_ rfl (by simp [noRefs, noRef])
  refine gz_body_rt rfl ?_
  show Sbox (runL fns n) [some (.int c)] [] = _
  unfold Sbox
  have ab : b1 bAbs (varM 0) (runL fns n) [some (.int c)] [] = .ok (.int (if c < 0 then -c else c)) [] := gz_b1 rfl rfl
  have pw : op2M opPow (cI 10) (cI 18) (runL fns n) [some (.int c)] [] = .ok (.int (10 ^ (18 : Int).toNat)) [] := gz_op2 (x := .int 10) (y := .int 18) rfl rfl (gz_pow_int (by decide) (by decide) (by decide))
  generalize (if c < 0 then -c else c) = z at ab
  have md : op2M opMod (b1 bInt (b1 bAbs (varM 0))) (cI 2147483629) (runL fns n) [some (.int c)] [] = .ok (.int (z % 2147483629)) [] := gz_op2 (x := .int z) (y := .int 2147483629) (gz_b1 ab rfl) rfl (gz_mod_int (by decide))
  have ge : op2M opGe (b1 bAbs (varM 0)) (op2M opPow (cI 10) (cI 18)) (runL fns n) [some (.int c)] [] = .ok (.bl (decide (10 ^ (18 : Int).toNat ≤ z))) [] := gz_op2 ab pw rfl
  have q := gz_lst (st1 := []) (gz_cons ab (gz_cons ge (gz_cons md (gz_cons (a := cI 0) (x := .int 0) (m := nilA) (xs := []) rfl rfl)))) rfl
  exact gz_seq_rt (gz_ret q)
def isT : Res D → Bool
  | .ok (.bl true) _ => true
  | _ => false
theorem own_nx {vs : List Nat} {p : S} {Φ : Call} {env env1 : EV.Env} {st st1 : Sto} (h : p Φ env st = .nx env1 st1) (b : (allBelow st.length (st1.take st.length) && belowE st.length (wipeE env1 vs)) = true) : ownS vs p Φ env st = .nx (wipeE env1 vs) (st1.take st.length) := by
  unfold ownS
  rw [h]
  dsimp only
  rw [if_pos b]
theorem inOwn_true {g : List D → Sto → Res D} {ds : List D} (n : noRefs ds = true) (h : isT (inOwn g ds []) = true) (st : Sto) : inOwn g ds st = .ok (.bl true) st := by
  unfold inOwn at h ⊢
  rw [if_pos n] at h ⊢
  cases e : g ds [] with
  | bad => rw [e] at h; cases h
  | exc x s => rw [e] at h; dsimp only at h; split at h <;> cases h
  | ok d own =>
    rw [e] at h
    dsimp only at h ⊢
    unfold bring at h ⊢
    split at h
    · next q =>
      rw [if_pos q]
      cases d <;> first | (cases h; done) | skip
      next b => cases b with
        | true => rfl
        | false => cases h
    · cases d with
      | ref i =>
        dsimp only at h
        split at h
        · split at h <;> cases h
        · cases h
      | _ => first | (dsimp only at h; unfold shift at h; cases h; done) | (rename_i q; exact absurd rfl q)
theorem map_at {α β : Type} {f g : α → β} : ∀ {l : List α}, l.map f = l.map g → ∀ x ∈ l, f x = g x
  | [], _, x, h => by cases h
  | y :: l, e, x, h => by
    simp only [List.map_cons, List.cons.injEq] at e
    rcases List.mem_cons.mp h with rfl | h
    · exact e.1
    · exact map_at e.2 x h
/-- a box that M takes have left -/
def Bx (M : Nat) (o : O) : Prop := ∃ a b c d, BoxOk M a c d ∧ o = Box a b c d
theorem below_ints (n : Nat) : ∀ ns : List Int, belows n (ns.map D.int) = true
  | [] => rfl
  | _ :: ns => by simp only [List.map_cons, belows, EV.below, below_ints n ns, Bool.and_self]
theorem range_ints : ∀ (n : Nat) (lo : Int), (rangeD lo n).length = n ∧ (0 ≤ lo → ∀ i (h : i < (rangeD lo n).length), ∃ z : Int, 0 ≤ z ∧ (rangeD lo n)[i] = .int z)
  | 0, lo => ⟨rfl, fun _ i h => by simp [rangeD] at h⟩
  | n + 1, lo => by
    obtain ⟨h1, h2⟩ := range_ints n (lo + 1)
    refine ⟨by simp [rangeD, h1], fun h0 i h => ?_⟩
    cases i with
    | zero => exact ⟨lo, h0, rfl⟩
    | succ i =>
      have h' : i < (rangeD (lo + 1) n).length := by simpa [rangeD] using h
      obtain ⟨z, hz, e⟩ := h2 (by omega) i h'
      exact ⟨z, hz, by simpa [rangeD] using e⟩
end EV.Law

-- part EvSame
set_option Elab.async false
set_option linter.all false
set_option maxRecDepth 100000
set_option maxHeartbeats 4000000
/-! _law_same of a value with itself. -/
namespace EV.Law
open PySem PySem.Spec PyProof.Rows L2 EV
abbrev isi (ts : List Ty) (v : Nat) : M D := op1M (bIsinst ts) (varM v)
abbrev nonM : M D := cstM .non
abbrev retF : S := seqS (retS (cstM (.bl false))) nilS
abbrev Ssame1 : S := ifS (orT (blT (op2M opIs (varM 1) nonM)) (valT (isi [.bool] 1)))
  (seqS (retS (ifM (blT (op2M opIs (varM 1) nonM)) (op2M opIs (varM 0) nonM) (andM (isi [.bool] 0) (op2M opEq (op2M opIs (varM 0) (cstM (.bl true))) (op2M opIs (varM 1) (cstM (.bl true))))))) nilS) nilS
abbrev Ssame2 : S := ifS (valT (isi [.int] 1)) (seqS (retS (andM (isi [.int] 0) (andM (op1M notF (isi [.bool] 0)) (op2M opEq (op2M opSub (b1 bInt (varM 0)) (varM 1)) (cI 0))))) nilS) nilS
abbrev Ssame3 : S := ifS (valT (isi [.str] 1)) (seqS (retS (andM (isi [.str] 0) (op2M opEq (varM 0) (varM 1)))) nilS) nilS
abbrev Ssame4 (f : Nat) : S := ifS (valT (isi [.dict] 1))
  (seqS (ifS (orT (notT (valT (isi [.dict] 0))) (blT (op2M opNe (b1 bLen (varM 0)) (b1 bLen (varM 1))))) retF nilS)
  (seqS (retS (op2M opEq (lkM 1 (compM (compI (itM (varM 1)) [2] (setG 2) (orT (blT (op2M opNotin (varM 2) (varM 0))) (notT (valT (callM f 2 (consA (op2M opIx (varM 0) (varM 2)) (consA (op2M opIx (varM 1) (varM 2)) nilA)))))) (varM 2)))) (lstM nilA))) nilS)) nilS
abbrev Ssame5 : S := ifS (orT (notT (valT (isi [.list, .tuple] 1))) (notT (valT (isi [.list, .tuple] 0)))) retF nilS
abbrev Ssame6 : S := ifS (orT (blT (op2M opNe (isi [.list] 0) (isi [.list] 1))) (blT (op2M opNe (b1 bLen (varM 0)) (b1 bLen (varM 1))))) retF nilS
abbrev Ssame7 (f : Nat) : S := retS (op2M opEq (compM (compI (rngM1 (consA (b1 bLen (varM 1)) nilA)) [3] (setG 3) (notT (valT (callM f 2 (consA (op2M opIx (varM 0) (varM 3)) (consA (op2M opIx (varM 1) (varM 3)) nilA))))) (varM 3))) (lstM nilA))
def Ssame (f : Nat) : S := seqS Ssame1 (seqS Ssame2 (seqS Ssame3 (seqS (Ssame4 f) (seqS Ssame5 (seqS Ssame6 (seqS (Ssame7 f) nilS))))))
section
variable {Φ : Call} {env : EV.Env} {st st1 : Sto} {a b : M D} {r : Res D}
theorem and_true {b1 : Bool} (h : a Φ env st = .ok (.bl true) st1) : andM a b Φ env st = b Φ env st1 := by
  unfold andM
  rw [h]
  rfl
theorem or_false {a b : M Bool} {r : Res Bool} (h : a Φ env st = .ok false st1) (hb : b Φ env st1 = r) : orT a b Φ env st = r := by
  unfold orT
  rw [h]
  exact hb
theorem bl_ok {c : Bool} (h : a Φ env st = .ok (.bl c) st1) : blT a Φ env st = .ok c st1 := by
  unfold blT
  rw [h]
  rfl
theorem not_val {c : Bool} (h : a Φ env st = .ok (.bl c) st1) : notT (valT a) Φ env st = .ok (!c) st1 := by
  unfold notT valT
  rw [h]
  rfl
theorem eq_int {i j : Int} : opEq (.int i) (.int j) st = .ok (.bl (i == j)) st := rfl
theorem ne_int {i j : Int} : opNe (.int i) (.int j) st = .ok (.bl (!(i == j))) st := rfl
theorem eq_str {x y : List Nat} : opEq (.str x) (.str y) st = .ok (.bl (x == y)) st := rfl
theorem bind_okR {α β : Type} {a : α} {f : α → Sto → Res β} : Res.bind (.ok a st) f = f a st := rfl
theorem small62_nat {n : Nat} (h : n < 1000000) : EV.small62 (n : Int) = true := by
  have : ∀ z : Int, 0 ≤ z → z < 1000000 → EV.small62 z = true := fun z h0 h1 => by
    unfold EV.small62
    rw [Bool.and_eq_true, decide_eq_true_eq, decide_eq_true_eq]
    omega
  exact this n (by omega) (by omega)
theorem rng1_ok {m : M (List D)} {n : Nat} (h : m Φ env st = .ok [.int n] st1) (hn : n < 1000000) : rngM1 m Φ env st = .ok (.items (rangeD 0 n)) st1 := by
  have e : rngF1 [.int n] st1 = .ok (.items (rangeD 0 n)) st1 := by
    have s := small62_nat hn
    generalize hz : (n : Int) = z at s
    have t : z.toNat = n := by omega
    subst t
    show (if EV.small62 z = true then Res.ok (EV.It.items (rangeD 0 z.toNat)) st1 else Res.bad) = _
    exact if_pos s
  unfold rngM1
  rw [h, bind_okR]
  exact e
/-- a walk that adds nothing -/
theorem walk_none {g : Tg} {step : EV.Env → Sto → Res (List D)} {ds : List D} : ∀ (m n fuel : Nat) (st : Sto), n + m = ds.length → m < fuel → (∀ (i : Nat) (h : i < ds.length), n ≤ i → ∃ env1, g ds[i] env st = some env1 ∧ step env1 st = .ok [] st) →
    walk (.items ds) g step env fuel n st = .ok [] st
  | 0, n, fuel + 1, st, h, _, _ => by
    unfold walk
    have : EV.It.at_ st n (.items ds) = some none := by show some ds[n]? = _; rw [List.getElem?_eq_none (by omega)]
    rw [this]
  | m + 1, n, fuel + 1, st, h, hf, k => by
    have hn : n < ds.length := by omega
    obtain ⟨env1, h1, h2⟩ := k n hn (Nat.le_refl _)
    unfold walk
    have : EV.It.at_ st n (.items ds) = some (some ds[n]) := by show some ds[n]? = _; rw [List.getElem?_eq_getElem hn]
    rw [this]
    dsimp only
    rw [h1]
    dsimp only
    rw [h2]
    show (walk (.items ds) g step env fuel (n + 1) st).bind _ = _
    rw [walk_none m (n + 1) fuel st (by omega) (by omega) fun i h hi => k i h (by omega)]
    rfl
end
mutual
/-- plain data, so deep at most -/
def plainD : Nat → D → Bool
  | _, .non => true
  | _, .bl _ => true
  | _, .int _ => true
  | _, .str _ => true
  | n + 1, .tup xs => Nat.blt xs.length 1000 && plainDs n xs
  | _, _ => false
def plainDs : Nat → List D → Bool
  | _, [] => true
  | n, d :: ds => plainD n d && plainDs n ds
end
theorem plain_noRefs {n : Nat} : ∀ (ds : List D), (∀ d ∈ ds, plainD n d = true → noRef d = true) → plainDs n ds = true → noRefs ds = true
  | [], _, _ => rfl
  | d :: ds, k, h => by
    simp only [plainDs, Bool.and_eq_true] at h
    simp only [noRefs, k d List.mem_cons_self h.1, plain_noRefs ds (fun x hx => k x (List.mem_cons_of_mem _ hx)) h.2, Bool.and_self]
theorem plain_noRef : ∀ (n : Nat) (d : D), plainD n d = true → noRef d = true
  | _, .non, _ => by simp [noRef]
  | _, .bl _, _ => by simp [noRef]
  | _, .int _, _ => by simp [noRef]
  | _, .str _, _ => by simp [noRef]
  | n + 1, .tup xs, h => by
    simp only [plainD, Bool.and_eq_true] at h
    simp only [noRef]
    exact plain_noRefs xs (fun d _ => plain_noRef n d) h.2
  | 0, .tup xs, h => by simp [plainD] at h
  | _, .lst _, h => by simp [plainD] at h
  | _, .ref _, h => by simp [plainD] at h
  | _, .exn _ _, h => by simp [plainD] at h
theorem plainDs_get {n : Nat} : ∀ {ds : List D} {i : Nat} (h : i < ds.length), plainDs n ds = true → plainD n ds[i] = true
  | d :: ds, 0, _, h => by simp only [plainDs, Bool.and_eq_true] at h; exact h.1
  | d :: ds, i + 1, hi, h => by
    simp only [plainDs, Bool.and_eq_true] at h
    have := plainDs_get (ds := ds) (i := i) (by simpa using hi) h.2
    simpa using this
theorem range_get : ∀ (n : Nat) (lo : Int) (i : Nat) (h : i < (rangeD lo n).length), (rangeD lo n)[i] = .int (lo + i)
  | n + 1, lo, 0, _ => by simp [rangeD]
  | n + 1, lo, i + 1, h => by
    have := range_get n (lo + 1) i (by simpa [rangeD] using h)
    simp only [rangeD, List.getElem_cons_succ, this]
    congr 1
    omega
theorem same_tup {fns : List Fn} {f k n : Nat} {xs : List D} (ih : ∀ (d : D), plainD n d = true → runL fns k f [d, d] [] = .ok (.bl true) []) (h : plainD (n + 1) (.tup xs) = true) : ∃ own, Ssame f (runL fns k) [some (.tup xs), some (.tup xs), none, none] [] = .rt (.bl true) own := by
  unfold Ssame
  simp only [plainD, Bool.and_eq_true] at h
  have hl : xs.length < 1000 := Nat.blt_eq.mp h.1
  refine ⟨[.lst [], .lst []], ?_⟩
  let E : EV.Env := [some (.tup xs), some (.tup xs), none, none]
  show seqS Ssame1 _ (runL fns k) E [] = _
  rw [gz_seq_nx (show Ssame1 (runL fns k) E [] = .nx E [] from rfl), gz_seq_nx (show Ssame2 (runL fns k) E [] = .nx E [] from rfl), gz_seq_nx (show Ssame3 (runL fns k) E [] = .nx E [] from rfl), gz_seq_nx (show Ssame4 f (runL fns k) E [] = .nx E [] from rfl), gz_seq_nx (show Ssame5 (runL fns k) E [] = .nx E [] from rfl)]
  have l0 : b1 bLen (varM 0) (runL fns k) E [] = .ok (.int xs.length) [] := rfl
  have l1 : b1 bLen (varM 1) (runL fns k) E [] = .ok (.int xs.length) [] := rfl
  have s6 : Ssame6 (runL fns k) E [] = .nx E [] := by
    show ifS _ _ _ _ _ _ = _
    rw [gz_if (c := false) (st1 := []) (or_false (st1 := []) rfl (bl_ok (by rw [gz_op2 l0 l1 ne_int]; simp)))]
    rfl
  rw [gz_seq_nx s6]
  refine gz_seq_rt (gz_ret ?_)
  have cm : compI (rngM1 (consA (b1 bLen (varM 1)) nilA)) [3] (setG 3) (notT (valT (callM f 2 (consA (op2M opIx (varM 0) (varM 3)) (consA (op2M opIx (varM 1) (varM 3)) nilA))))) (varM 3) (runL fns k) E [] = .ok [] [] := by
    have ri : rngM1 (consA (b1 bLen (varM 1)) nilA) (runL fns k) E [] = .ok (.items (rangeD 0 xs.length)) [] := by
      exact rng1_ok (gz_cons (m := nilA) (xs := []) l1 rfl) (by omega)
    unfold compI
    rw [ri]
    show noExc (walk (.items (rangeD 0 xs.length)) (setG 3) _ (wipeE E [3]) wfuel 0 []) = _
    obtain ⟨rl, _⟩ := range_ints xs.length 0
    rw [walk_none xs.length 0 wfuel [] (by omega) (by show xs.length < 100000; omega) fun i hi _ => ⟨_, rfl, ?_⟩]
    · rfl
    · rw [range_get]
      have hi' : i < xs.length := by omega
      have e : (0 : Int) + i = i := by omega
      rw [e]
      show (notT _ (runL fns k) [some (.tup xs), some (.tup xs), none, some (.int i)] []).bind _ = _
      have q : callM f 2 (consA (op2M opIx (varM 0) (varM 3)) (consA (op2M opIx (varM 1) (varM 3)) nilA)) (runL fns k) [some (.tup xs), some (.tup xs), none, some (.int i)] [] = .ok (.bl true) [] := by
        have g : ∀ st, opIx (.tup xs) (.int i) st = .ok xs[i] st := fun st => by
          show (match L2.atI xs i with | some d => Res.ok d st | none => .bad) = _
          have : L2.atI xs i = some xs[i] := by
            rw [L2.atI_nat (List.getElem?_eq_getElem hi')]
          rw [this]
        refine gz_call (xs := [xs[i], xs[i]]) (st1 := []) (gz_cons (gz_op2 rfl rfl (g _)) (gz_cons (gz_op2 rfl rfl (g _)) rfl)) rfl ?_
        exact ih xs[i] (plainDs_get hi' h.2)
      rw [not_val q]
      rfl
  exact gz_op2 (x := .ref 0) (y := .ref 1) (st1 := [.lst []]) (st2 := [.lst [], .lst []]) (by unfold compM; rw [cm]; rfl) rfl rfl
theorem same_refl {fns : List Fn} {f : Nat} (hc : fns[f]? = some ⟨4, 2, Ssame f⟩) : ∀ (n k : Nat) (d : D) (st : Sto), n ≤ k → plainD n d = true → runL fns (k + 1) f [d, d] st = .ok (.bl true) st := by
  intro n
  induction n with
  | zero => ?_
  | succ n ih => ?_
  all_goals
    intro k d st hk h
    have nr := plain_noRef _ d h
    rw [runL_at hc]
    suffices w : ∃ own, bodyF ⟨4, 2, Ssame f⟩ (runL fns k) [d, d] [] = .ok (.bl true) own by
      obtain ⟨own, w⟩ := w
      exact own_val (by simp only [noRefs, nr, Bool.and_self]) w rfl
    suffices w : ∃ own, Ssame f (runL fns k) [some d, some d, none, none] [] = .rt (.bl true) own by
      obtain ⟨own, w⟩ := w
      exact ⟨own, gz_body_rt rfl w⟩
    cases d with
    | non => exact ⟨[], by unfold Ssame; exact gz_seq_rt rfl⟩
    | bl b => exact ⟨[], by unfold Ssame; exact gz_seq_rt (by cases b <;> rfl)⟩
    | int i =>
      refine ⟨[], ?_⟩
      unfold Ssame
      rw [gz_seq_nx (show Ssame1 (runL fns k) [some (.int i), some (.int i), none, none] [] = .nx [some (.int i), some (.int i), none, none] [] from rfl)]
      refine gz_seq_rt ?_
      show ifS _ _ _ _ _ _ = _
      rw [gz_if (c := true) (st1 := []) rfl, if_pos rfl]
      refine gz_seq_rt (gz_ret ?_)
      rw [and_true (b1 := true) (st1 := []) rfl, and_true (b1 := true) (st1 := []) rfl]
      rw [gz_op2 (x := .int (i - i)) (y := .int 0) (st1 := []) (st2 := []) rfl rfl eq_int]
      simp
    | str x =>
      refine ⟨[], ?_⟩
      unfold Ssame
      rw [gz_seq_nx (show Ssame1 (runL fns k) [some (.str x), some (.str x), none, none] [] = .nx [some (.str x), some (.str x), none, none] [] from rfl)]
      rw [gz_seq_nx (show Ssame2 (runL fns k) [some (.str x), some (.str x), none, none] [] = .nx [some (.str x), some (.str x), none, none] [] from rfl)]
      refine gz_seq_rt ?_
      show ifS _ _ _ _ _ _ = _
      rw [gz_if (c := true) (st1 := []) rfl, if_pos rfl]
      refine gz_seq_rt (gz_ret ?_)
      rw [and_true (b1 := true) (st1 := []) rfl]
      rw [gz_op2 (x := .str x) (y := .str x) (st1 := []) (st2 := []) rfl rfl eq_str]
      simp
    | tup xs => first | (simp [plainD] at h; done) | (obtain ⟨k', rfl⟩ : ∃ k', k = k' + 1 := ⟨k - 1, by omega⟩; exact same_tup (n := n) (fun d hd => ih k' d [] (by omega) hd) h)
    | lst xs => simp [plainD] at h
    | ref i => simp [plainD] at h
    | exn c vs => simp [plainD] at h
end EV.Law

-- part EvLaw2
set_option Elab.async false
set_option linter.all false
set_option maxRecDepth 100000
set_option maxHeartbeats 4000000
/-! Calls on a flat list and plain data, walks, loops. -/
namespace EV.Law
open PySem PySem.Spec PyProof.Rows L2 EV
mutual
theorem noRef_below (n : Nat) : ∀ d : D, noRef d = true → EV.below n d = true
  | .non, _ => by simp [EV.below]
  | .bl _, _ => by simp [EV.below]
  | .int _, _ => by simp [EV.below]
  | .str _, _ => by simp [EV.below]
  | .tup xs, h => by simp only [noRef] at h; simp only [EV.below, noRefs_below n xs h]
  | .lst xs, h => by simp only [noRef] at h; simp only [EV.below, noRefs_below n xs h]
  | .ref i, h => by simp [noRef] at h
  | .exn _ _, h => by simp [noRef] at h
theorem noRefs_below (n : Nat) : ∀ ds : List D, noRefs ds = true → EV.belows n ds = true
  | [], _ => by simp [EV.belows]
  | d :: ds, h => by
    simp only [noRefs, Bool.and_eq_true] at h
    simp only [EV.belows, noRef_below n d h.1, noRefs_below n ds h.2, Bool.and_self]
end
mutual
theorem noRef_shift (n : Nat) : ∀ d : D, noRef (shift n d) = noRef d
  | .non => rfl
  | .bl _ => rfl
  | .int _ => rfl
  | .str _ => rfl
  | .tup xs => by simp only [shift, noRef, noRefs_shift n xs]
  | .lst xs => by simp only [shift, noRef, noRefs_shift n xs]
  | .ref i => rfl
  | .exn _ _ => rfl
theorem noRefs_shift (n : Nat) : ∀ ds : List D, noRefs (shifts n ds) = noRefs ds
  | [] => rfl
  | d :: ds => by simp only [shifts, noRefs, noRef_shift n d, noRefs_shift n ds]
end
/-- a call with plain arguments answers plain data, wherever -/
theorem inOwn_val {g : List D → Sto → Res D} {ds : List D} {d : D} {s : Sto} (n : noRefs ds = true) (h : inOwn g ds [] = .ok d s) (nd : noRef d = true) (st : Sto) : inOwn g ds st = .ok d st := by
  unfold inOwn at h ⊢
  rw [if_pos n] at h ⊢
  cases e : g ds [] with
  | bad => rw [e] at h; cases h
  | exc x s => rw [e] at h; dsimp only at h; split at h <;> cases h
  | ok d0 own =>
    rw [e] at h
    dsimp only at h ⊢
    unfold bring at h ⊢
    by_cases q : noRef d0 = true
    · rw [if_pos q] at h ⊢
      cases h
      rfl
    · rw [if_neg q] at h
      have bad : ∀ k, noRef (shift k d0) ≠ true := fun k z => q (by rw [← z, noRef_shift])
      cases d0 with
      | ref i =>
        dsimp only at h
        split at h
        · split at h
          · cases h; simp [noRef] at nd
          · cases h; exact absurd nd (bad _)
        · cases h; exact absurd nd (bad _)
      | _ => dsimp only at h; cases h; exact absurd nd (bad _)
theorem run_val {fns : List Fn} {n f : Nat} {ds : List D} {d : D} {s : Sto} (hn : noRefs ds = true) (h : runL fns (n + 1) f ds [] = .ok d s) (nd : noRef d = true) (st : Sto) : runL fns (n + 1) f ds st = .ok d st := by
  cases hF : fns[f]? with
  | none =>
    exfalso
    have : runL fns (n + 1) f ds [] = .bad := by
      show (match fns[f]? with | some F => inOwn (inLeaf (bodyF F (runL fns n))) ds [] | none => .bad) = _
      rw [hF]
    rw [this] at h
    cases h
  | some F =>
    rw [runL_at hF] at h ⊢
    exact inOwn_val hn h nd st
/-- what a result is -/
def resD : Res D → Option D
  | .ok d _ => some d
  | _ => none
theorem run_res {fns : List Fn} {n f : Nat} {ds : List D} {d : D} (hn : noRefs ds = true) (h : resD (runL fns (n + 1) f ds []) = some d) (nd : noRef d = true) (st : Sto) : runL fns (n + 1) f ds st = .ok d st := by
  cases e : runL fns (n + 1) f ds [] with
  | ok d' s =>
    rw [e] at h
    cases h
    exact run_val hn e nd st
  | exc x s => rw [e] at h; cases h
  | bad => rw [e] at h; cases h
/-- a call on plain data and one flat list -/
theorem leaf_ok {g : List D → Sto → Res D} {ds : List D} {r : Nat} {st : Sto} {xs ys : List D} {d : D} {own : Sto} (hl : leafI st ds [] = some [r]) (nr : noRefs ds = false) (ho : st[r]? = some (.lst xs))
    (h : g (renDs (inF [r]) ds) [.lst xs] = .ok d (.lst ys :: own)) (ny : noRefs ys = true) (nd : noRef d = true) (hb : allBelow st.length (st.set r (.lst ys)) = true) : inOwn (inLeaf g) ds st = .ok d (st.set r (.lst ys)) := by
  have l1 : inLeaf g ds st = .ok d (st.set r (.lst ys) ++ own.map (O.ren (outF [r] st.length))) := by
    unfold inLeaf
    rw [hl]
    dsimp only
    have : subSt [r] st = [.lst xs] := by simp [subSt, ho]
    rw [this, h]
    simp [leafR, leafSt, setAll, O.ren, renDs_free ys ny, renD_free d nd]
  unfold inOwn
  rw [nr, l1]
  simp only [Bool.false_eq_true, if_false]
  have n2 : (st.set r (.lst ys) ++ own.map (O.ren (outF [r] st.length))).take st.length = st.set r (.lst ys) := by
    rw [List.take_append_of_le_length (by simp)]
    exact List.take_of_length_le (by simp)
  unfold tidy
  rw [n2, if_pos hb, if_pos (noRef_below _ d nd)]
/-- a walk that adds one each time -/
theorem walk_each {i : EV.It} {g : Tg} {step : EV.Env → Sto → Res (List D)} {env : EV.Env} {ys : List D} {st : Sto} : ∀ (m n fuel : Nat), n + m = ys.length → m < fuel → i.at_ st ys.length = some none →
    (∀ (k : Nat) (h : k < ys.length), n ≤ k → ∃ d env1, i.at_ st k = some (some d) ∧ g d env st = some env1 ∧ step env1 st = .ok [ys[k]] st) → walk i g step env fuel n st = .ok (ys.drop n) st
  | 0, n, fuel + 1, h, _, he, _ => by
    unfold walk
    rw [show n = ys.length by omega, he, List.drop_length]
  | m + 1, n, fuel + 1, h, hf, he, k => by
    have hn : n < ys.length := by omega
    obtain ⟨d, env1, h0, h1, h2⟩ := k n hn (Nat.le_refl _)
    unfold walk
    rw [h0]
    dsimp only
    rw [h1]
    dsimp only
    rw [h2, bind_okR, walk_each m (n + 1) fuel (by omega) (by omega) he fun i h hi => k i h (by omega), bind_okR, List.drop_eq_getElem_cons hn]
    rfl
end EV.Law

-- part HK77a
set_option Elab.async false
set_option linter.all false
set_option maxRecDepth 100000
set_option maxHeartbeats 0
namespace K77
open PySem PySem.Spec PyProof.Rows L2 EV
def top (i : Nat) : Stmt := PySem.Challenge.pw_holepartner_k77_other_ready_tables.main.body.getD i (.Pass ⟨0, 0, 0, 0⟩)
def body (i : Nat) : List Stmt := match top i with
  | .ClassDef _ _ _ b _ _ _ _ _ _ _ => b
  | _ => []
def ini (i : Nat) : Stmt := (body i).getD 0 (.Pass ⟨0, 0, 0, 0⟩)
def ft (x : Str) (i : Nat) (N : List Str) : FT := ⟨x, defArgs (top i), defBody (top i), defScope (top i), N⟩
def it (i : Nat) (N : List Str) (b : Str) (l : List (Str × Nat)) : IT := ⟨defArgs (ini i), defBody (ini i), defScope (ini i), N, b, l⟩
def fs0 : List FT := [
  ft "is_integer" 10 ["value"],
  ft "is_within" 11 ["value", "low", "high"],
  ft "is_index" 12 ["value", "many"],
  ft "is_list" 13 ["value"],
  ft "is_tuple" 14 ["value", "many"],
  ft "ascends" 15 ["items", "at"],
  ft "is_name" 16 ["value", "sign"],
  ft "check_many" 18 ["many", "low", "high"],
  ft "look_row" 19 ["many", "here"],
  ft "counter" 20 ["many", "add", "here"],
  ft "latch" 21 ["free", "grab"],
  ft "stock" 22 ["many", "give", "here"]]
def fs1 : List FT := [
  ft "is_item" 27 ["value", "many"],
  ft "told_in" 28 ["items", "item"],
  ft "is_row" 29 ["value", "many", "item"],
  ft "is_table" 30 ["value", "many", "pair", "name", "items"],
  ft "items_of" 31 ["table", "operation"],
  ft "check_operation" 32 ["table", "operation"],
  ft "told_values" 33 ["table", "operation"],
  ft "waiting" 34 ["table", "operation", "items", "here"],
  ft "is_blank" 35 ["table", "operation", "items", "here", "item"],
  ft "is_look" 36 ["table", "operation", "items", "here", "item"],
  ft "many_of" 41 ["table"],
  ft "is_world" 42 ["value", "count", "name", "table", "thing"]]
def fs2 : List FT := [
  ft "check_world" 43 ["world"],
  ft "deeds_in" 44 ["world", "name", "table", "operation", "items"],
  ft "deeds" 45 ["world"],
  ft "is_standing" 46 ["world", "value", "here", "name", "table"],
  ft "is_deed" 47 ["world", "value"],
  ft "place_of" 48 ["world", "thing", "name", "table"],
  ft "done" 49 ["world", "standing", "deed", "at", "item"],
  ft "check_standing" 50 ["world", "standing"],
  ft "row_done" 51 ["world", "standing", "row", "told", "deed", "behind"],
  ft "do_row" 52 ["world", "standing", "row", "deed"],
  ft "_law_cell" 54 ["script", "k"],
  ft "_law_box" 55 ["great"]]
def fs3 : List FT := [
  ft "_law_take" 56 ["box", "many", "digit", "mixed"],
  ft "_law_pick" 57 ["box", "items"],
  ft "_law_same" 58 ["given", "due", "key", "k"],
  ft "_law_copy" 59 ["value", "item", "key"],
  ft "_law_very" 60 ["given", "value"],
  ft "_law_due" 61 ["which", "many", "rows", "give", "here"],
  ft "_law_asked" 62 ["which", "many", "named", "e"],
  ft "_law_table_right" 63 ["box", "which", "many", "named", "due", "table", "world", "size", "row", "name", "items", "item", "told", "here", "waits", "idle", "turn", "start", "thing", "step"],
  ft "law" 64 ["script", "k", "box", "named", "which", "most", "many", "value", "told"]]
def fs : List FT := fs0 ++ fs1 ++ fs2 ++ fs3
def cl0 : List (Str × Option IT) := [
  ("HoleError", none),
  ("InvalidTable", some (it 2 ["self", "given"] "HoleError" [("given", 1)])),
  ("InvalidOperation", some (it 3 ["self", "given"] "HoleError" [("given", 1)])),
  ("InvalidWorld", some (it 4 ["self", "given"] "HoleError" [("given", 1)])),
  ("InvalidStanding", some (it 5 ["self", "given"] "HoleError" [("given", 1)])),
  ("InvalidRow", some (it 6 ["self", "given"] "HoleError" [("given", 1)])),
  ("InvalidNumber", some (it 7 ["self", "given"] "HoleError" [("given", 1)]))]
def cl : List (Str × Option IT) := cl0
def tb0 : List (Str × GV) := [
  ("is_integer", .fn 0 ["value"]),
  ("is_within", .fn 1 ["value", "low", "high"]),
  ("is_index", .fn 2 ["value", "many"]),
  ("is_list", .fn 3 ["value"]),
  ("is_tuple", .fn 4 ["value", "many"]),
  ("ascends", .fn 5 ["items"]),
  ("is_name", .fn 6 ["value"]),
  ("check_many", .fn 7 ["many", "low", "high"]),
  ("look_row", .fn 8 ["many"]),
  ("counter", .fn 9 ["many"]),
  ("latch", .fn 10 []),
  ("stock", .fn 11 ["many"])]
def tb1 : List (Str × GV) := [
  ("is_item", .fn 12 ["value", "many"]),
  ("told_in", .fn 13 ["items"]),
  ("is_row", .fn 14 ["value", "many"]),
  ("is_table", .fn 15 ["value"]),
  ("items_of", .fn 16 ["table", "operation"]),
  ("check_operation", .fn 17 ["table", "operation"]),
  ("told_values", .fn 18 ["table", "operation"]),
  ("waiting", .fn 19 ["table", "operation"]),
  ("is_blank", .fn 20 ["table", "operation"]),
  ("is_look", .fn 21 ["table", "operation"]),
  ("many_of", .fn 22 ["table"]),
  ("is_world", .fn 23 ["value"])]
def tb2 : List (Str × GV) := [
  ("check_world", .fn 24 ["world"]),
  ("deeds_in", .fn 25 ["world"]),
  ("deeds", .fn 26 ["world"]),
  ("is_standing", .fn 27 ["world", "value"]),
  ("is_deed", .fn 28 ["world", "value"]),
  ("place_of", .fn 29 ["world", "thing"]),
  ("done", .fn 30 ["world", "standing", "deed"]),
  ("check_standing", .fn 31 ["world", "standing"]),
  ("row_done", .fn 32 ["world", "standing", "row"]),
  ("do_row", .fn 33 ["world", "standing", "row"]),
  ("_law_cell", .fn 34 ["script", "k"]),
  ("_law_box", .fn 35 ["great"])]
def tb3 : List (Str × GV) := [
  ("_law_take", .fn 36 ["box", "many"]),
  ("_law_pick", .fn 37 ["box", "items"]),
  ("_law_same", .fn 38 ["given", "due"]),
  ("_law_copy", .fn 39 ["value"]),
  ("_law_very", .fn 40 ["given", "value"]),
  ("_law_due", .fn 41 ["which", "many"]),
  ("_law_asked", .fn 42 ["which", "many", "named"]),
  ("_law_table_right", .fn 43 ["box", "which", "many", "named"]),
  ("law", .fn 44 ["script"]),
  ("HoleError", .cls 0 false),
  ("InvalidTable", .cls 1 true),
  ("InvalidOperation", .cls 2 true)]
def tb4 : List (Str × GV) := [
  ("InvalidWorld", .cls 3 true),
  ("InvalidStanding", .cls 4 true),
  ("InvalidRow", .cls 5 true),
  ("InvalidNumber", .cls 6 true),
  ("LETTERS", .cst (.str (codes "abcdefghijklmnopqrstuvwxyz"))),
  ("MOST_OPERATIONS", .cst (.int (5))),
  ("MOST_STANDINGS_tables", .cst (.int (6))),
  ("MOST_TOLD", .cst (.int (4))),
  ("MOST_THINGS", .cst (.int (3))),
  ("MOST_STANDINGS_worlds", .cst (.int (36))),
  ("MOST_ROW", .cst (.int (40)))]
def tb : List (Str × GV) := tb0 ++ tb1 ++ tb2 ++ tb3 ++ tb4
def kw0 : List (Str × Nat × List Str × List Nat) := [
  ("counter", 0, ["many"], [0]),
  ("stock", 0, ["many"], [0])]
def kw : List (Str × Nat × List Str × List Nat) := kw0
def fr : List Str := ["abs", "all", "bool", "dict", "enumerate", "int", "isinstance", "len", "list", "max", "min", "range", "sorted", "str", "sum", "tuple", "zip"]
def below : List (Nat × Nat) := [(0, 0), (1, 0), (1, 1), (2, 0), (2, 2), (3, 0), (3, 3), (4, 0), (4, 4), (5, 0), (5, 5), (6, 0), (6, 6)]
def flds : List (List Str) := [[], ["given"], ["given"], ["given"], ["given"], ["given"], ["given"]]
def lawN : List Str := ["script", "k", "box", "named", "which", "most", "many", "value", "told"]
def dead : List (Nat × Nat × List Nat) := [(232, 0, []), (234, 0, []), (236, 0, []), (238, 0, [9, 10, 11, 12, 13, 14, 15]), (238, 1, [11, 12, 13, 14, 15]), (246, 1, [8, 9, 10, 11, 12, 13, 14, 15, 17, 18, 19]), (250, 1, [9, 11, 18]), (257, 1, [2, 3, 4, 5, 6, 7, 8]), (260, 1, [6, 7, 8]), (265, 1, [7, 8])]
def G : Gs := ⟨tb, subOf 7 fun c d => below.contains (c, d), fun c => flds.getD c [], kw, fr, dead⟩
def T : Txt := ⟨fs, cl, G, 60⟩
def ls0 : List Str := [
  "__name__",
  "HoleError",
  "InvalidTable",
  "InvalidOperation",
  "InvalidWorld",
  "InvalidStanding",
  "InvalidRow",
  "InvalidNumber",
  "LETTERS",
  "is_integer",
  "is_within",
  "is_index",
  "is_list",
  "is_tuple",
  "ascends",
  "is_name",
  "check_many",
  "look_row",
  "counter",
  "latch",
  "stock",
  "MOST_OPERATIONS",
  "MOST_STANDINGS_tables",
  "MOST_TOLD",
  "is_item",
  "told_in",
  "is_row",
  "is_table",
  "items_of",
  "check_operation"]
def ls1 : List Str := [
  "told_values",
  "waiting",
  "is_blank",
  "is_look",
  "MOST_THINGS",
  "MOST_STANDINGS_worlds",
  "MOST_ROW",
  "many_of",
  "is_world",
  "check_world",
  "deeds_in",
  "deeds",
  "is_standing",
  "is_deed",
  "place_of",
  "done",
  "check_standing",
  "row_done",
  "do_row",
  "_law_cell",
  "_law_box",
  "_law_take",
  "_law_pick",
  "_law_same",
  "_law_copy",
  "_law_very",
  "_law_due",
  "_law_asked",
  "_law_table_right"]
def ls : List Str := ls0 ++ ls1
theorem Tok : T.ok = true := by kernel_rfl
end K77

-- part HK77b
set_option Elab.async false
set_option linter.all false
set_option maxRecDepth 100000
set_option maxHeartbeats 0
namespace K77
open PySem PySem.Spec PyProof.Rows L2 EV
abbrev R : PySem.W.OpenRow := PySem.W.OpenLaw.row PySem.Challenge.rw_holepartner_k77_other_ready_tables
abbrev hk : PySem.W.Hook := T.hook 5
def ob (s : PySem.W.SharedT) : AlE := T.see 5 (HandSHeadRun.getT s)
theorem ob_eq (s : PySem.W.SharedT) : ob s = hk.obs s.abs := Txt.see_eq (HandSHeadRun.getT_eq s)
theorem run (w : World) : HandSHeadRun.RunEq R (PySem.W.view R.prog [64]) hk ob 20000 ls w := by
  intro os
  kernel_rfl
end K77

-- part HK77c
set_option Elab.async false
set_option linter.all false
set_option maxRecDepth 100000
set_option maxHeartbeats 0
namespace K77
open PySem PySem.Spec PyProof.Rows L2 EV EV.Law
theorem c34 : T.code[34]? = some ⟨2, 2, Scell⟩ := by kernel_rfl
theorem c35 : T.code[35]? = some ⟨1, 1, Sbox⟩ := by kernel_rfl
theorem c36 : T.code[36]? = some ⟨4, 2, Stake⟩ := by kernel_rfl
theorem c38 : T.code[38]? = some ⟨4, 2, Ssame 38⟩ := by kernel_rfl
end K77

-- part HK77d
set_option Elab.async false
set_option linter.all false
set_option maxRecDepth 100000
set_option maxHeartbeats 0
namespace K77
open PySem PySem.Spec PyProof.Rows L2 EV EV.Law
def noSt : Stmt := .Pass ⟨0, 0, 0, 0⟩
def w43 : Wh := (T.fns.getD 43 (ft "" 0 [])).wh
/-- the statement i of _law_table_right -/
def p43 (i : Nat) : S := ownO (deadOf (((defBody (top 63)).getD i noSt).pos.line) 0 T.G.dead) ((cS T.G w43 (59 - i) ((defBody (top 63)).getD i noSt)).getD badS)
def S37 : S := seqS (retS (op2M opIx (varM 1) (callM 36 2 (consA (varM 0) (consA (b1 bLen (varM 1)) nilA))))) nilS
def sRow : S := asgS (setG 8) (compM (compI (rngM1 (consA (op2M opAdd (cI 1) (callM 36 2 (consA (varM 0) (consA (cI 6) nilA)))) nilA)) [19] (setG 19) yesT (tupM (consA (cstM (.str (codes "c"))) (consA (op2M opIx (callM 37 2 (consA (varM 0) (consA (varM 4) nilA))) (cI 0)) nilA)))))
def sHere : S := par2S 13 12 (consA (callM 36 2 (consA (varM 0) (consA (varM 7) nilA))) (consA (tupM nilA) nilA))
def sStart : S := asgS (setG 17) (varM 13)
def sItem : S := asgS (setG 11) (ifM (blT (op2M opIsnt (varM 13) nonM)) (op2M opIx (op2M opIx (withA bDict (consA (varM 4) nilA)) (varM 9)) (varM 13)) nonM)
def sNext : S := asgS (tupG 2 (consG (setG 13) (consG (setG 12) nilG))) (ifM (blT (op2M opIs (varM 11) nonM)) (tupM (consA nonM (consA (varM 12) nilA))) (tupM (consA (ix 11 0) (consA (op2M opAdd (varM 12) (tupM (consA (ix 11 1) nilA))) nilA))))
def bStep : S := seqS sItem (seqS sNext nilS)
def sWalk : S := lkS 8 (forS (itM (varM 8)) (tupG 2 (consG (setG 18) (consG (setG 9) nilG))) (ownS [9, 11, 18] bStep))
def sJudge : S := ifS (notT (valT (callM 38 2 (consA (callM 33 3 (consA (varM 6) (consA (tupM (consA (varM 17) nilA)) (consA (varM 8) nilA)))) (consA (ifM (blT (op2M opIs (varM 13) nonM)) nonM (tupM (consA (tupM (consA (varM 13) nilA)) (consA (varM 12) nilA)))) nilA))))) retF nilS
def bTurn : S := seqS sRow (seqS sHere (seqS sStart (seqS sWalk (seqS sJudge nilS))))
def sTurns : S := forS (rngM1 (consA (cI 4) nilA)) (setG 16) (ownS [8, 9, 10, 11, 12, 13, 14, 15, 17, 18, 19] bTurn)
theorem c37 : T.code[37]? = some ⟨2, 2, S37⟩ := by kernel_rfl
theorem c43 : T.code[43]? = some ⟨20, 4, seqS (p43 0) (seqS (p43 1) (seqS (p43 2) (seqS (p43 3) (seqS (p43 4) (seqS (p43 5) (seqS sTurns (seqS (retS (cstM (.bl true))) nilS)))))))⟩ := by kernel_rfl
end K77

-- part HK77e
set_option Elab.async false
set_option linter.all false
set_option maxRecDepth 100000
set_option maxHeartbeats 0
namespace K77
open PySem PySem.Spec PyProof.Rows L2 EV EV.Law
def num33 : Nat := match gvOf "InvalidRow" T.G.tab with | some (.cls c _) => c | _ => 99
def sChk : S := exprS (callM 31 2 (consA (varM 0) (consA (varM 1) nilA)))
def cDeeds : M D := lkM 2 (compM (compI (itM (varM 2)) [3] (setG 3) yesT (callM 28 2 (consA (varM 0) (consA (varM 3) nilA)))))
def sGuard : S := ifS (orT (notT (valT (callM 3 1 (consA (varM 2) nilA)))) (orT (blT (op2M opGt (b1 bLen (varM 2)) (cI 40))) (notT (valT (b1 bAll cDeeds))))) (seqS (raiseS num33 1 (consA (varM 2) nilA)) nilS) nilS
def S33 : S := seqS sChk (seqS sGuard (seqS (retS (callM 32 3 (consA (varM 0) (consA (varM 1) (consA (varM 2) nilA))))) nilS))
def bDone : S := seqS (asgS (setG 5) (callM 30 3 (consA (varM 0) (consA (varM 1) (consA (varM 4) nilA))))) (seqS (ifS (blT (op2M opIs (varM 5) nonM)) (seqS (retS nonM) nilS) nilS) (seqS (par2S 1 3 (consA (ix 5 0) (consA (tupM (starA (varM 3) (consA (ix 5 1) nilA))) nilA))) nilS))
def S32 : S := seqS (asgS (setG 3) (tupM nilA)) (seqS (lkS 2 (forS (itM (varM 2)) (setG 4) bDone)) (seqS (retS (tupM (consA (varM 1) (consA (varM 3) nilA)))) nilS))
theorem c32 : T.code[32]? = some ⟨6, 3, S32⟩ := by kernel_rfl
theorem c33 : T.code[33]? = some ⟨4, 3, S33⟩ := by kernel_rfl
def sBox : S := asgS (setG 2) (callM 35 1 (consA (callM 34 2 (consA (varM 0) (consA (varM 1) nilA))) nilA))
def sNam : S := asgS (setG 3) (op2M opEq (callM 36 2 (consA (varM 2) (consA (cI 2) nilA))) (cI 0))
def sFlip : S := asgS (setG 3) (op1M notF (varM 3))
def bMany : S := seqS (ifS (notT (valT (callM 43 4 (consA (varM 2) (consA (varM 4) (consA (varM 6) (consA (varM 3) nilA))))))) retF nilS) (seqS sFlip nilS)
def sMany : S := forS (rngM2 (consA (cI 1) (consA (op2M opAdd (varM 5) (cI 1)) nilA))) (setG 6) bMany
def vals : M (List D) := consA (cI 0) (consA (op2M opAdd (varM 5) (cI 1)) (consA (op1M negF (cI 1)) (consA (op2M opPow (cI 10) (cI 19)) (consA (cstM (.bl true)) (consA (cstM (.bl false)) (consA (cstM .non) (consA (cstM (.str [50])) (consA (lstM (consA (cI 2) nilA)) (consA (tupM (consA (cI 2) nilA)) (consA dnewM nilA))))))))))
def bVal : S := seqS (asgS (setG 7) (callM 39 1 (consA (varM 7) nilA))) (seqS (asgS (setG 8) (callM 42 3 (consA (varM 4) (consA (varM 7) (consA (varM 3) nilA)))))
  (seqS (ifS (orT (blT (op2M opNe (ix 8 0) (cstM (.str (codes "number"))))) (orT (blT (op2M opIsnt (ix 8 2) (cstM (.bl true)))) (notT (valT (callM 40 2 (consA (ix 8 1) (consA (varM 7) nilA))))))) retF nilS) (seqS sFlip nilS)))
def sVal : S := forS (itM (ifM (blT (op2M opLt (varM 4) (cI 2))) (lstM vals) (lstM nilA))) (setG 7) (ownS [7, 8] bVal)
def bWhich : S := seqS sMany (seqS sVal nilS)
def sWhich : S := forS (itM (lstM (consA (tupM (consA (cI 0) (consA (cI 4) nilA))) (consA (tupM (consA (cI 1) (consA (cI 5) nilA))) (consA (tupM (consA (cI 2) (consA (cI 1) nilA))) nilA))))) (tupG 2 (consG (setG 4) (consG (setG 5) nilG))) (ownS [6, 7, 8] bWhich)
def bK : S := seqS sBox (seqS sNam (seqS sWhich nilS))
def sK : S := forS (rngM1 (consA (withA bMax (consA (cI 2) (consA (withA bMin (consA (cI 4) (consA (b1 bLen (varM 0)) nilA))) nilA))) nilA)) (setG 1) (ownS [2, 3, 4, 5, 6, 7, 8] bK)
def S44 : S := seqS sK (seqS (retS (cstM (.bl true))) nilS)
theorem c44 : T.code[44]? = some ⟨9, 1, S44⟩ := by kernel_rfl
end K77

-- part HK77f
set_option Elab.async false
set_option linter.all false
set_option maxRecDepth 1000000
set_option maxHeartbeats 0
namespace K77
open PySem PySem.Spec PyProof.Rows L2 EV EV.Law
/-- the tables that the document says: names, and for each standing where it leads and what it tells -/
def tabs (w m : Nat) : List (List Nat × List (Option (Nat × Nat))) := match w with
  | 0 => [(codes "add", (List.range m).map fun h => some (if h + 1 < m then h + 1 else 0, h)), (codes "clear", (List.range m).map fun _ => some (0, 0)), (codes "look", (List.range m).map fun h => some (h, h))]
  | 1 => [(codes "give", (List.range (m + 1)).map fun h => if h < m then some (h + 1, 0) else none), (codes "take", (List.range (m + 1)).map fun h => if 0 < h then some (h - 1, 0) else none)]
  | _ => [(codes "free", [some (0, 0), some (0, 0)]), (codes "grab", [some (1, 0), none]), (codes "try", [some (1, 1), some (1, 0)])]
def nI (n : Nat) : D := .int n
def optD : Option (Nat × Nat) → D
  | none => .non
  | some (h, v) => .tup [nI h, nI v]
def pairD (p : List Nat × List (Option (Nat × Nat))) : D := .tup [.str p.1, .tup (p.2.map optD)]
def dueD (w m : Nat) : D := .tup ((tabs w m).map pairD)
def worldD (w m : Nat) : D := .tup [.tup [.str (codes "c"), dueD w m]]
def cnt (w m : Nat) : Nat := (tabs w m).length
def size (w m : Nat) : Nat := match tabs w m with
  | p :: _ => p.2.length
  | [] => 0
def nameOf (w m j : Nat) : List Nat := match (tabs w m)[j]? with
  | some p => p.1
  | none => []
def stepOf (w m j h : Nat) : Option (Nat × Nat) := match (tabs w m)[j]? with
  | some p => (p.2[h]?).getD none
  | none => none
def deedD (w m j : Nat) : D := .tup [.str (codes "c"), .str (nameOf w m j)]
def combos : List (Nat × Nat) := [(0, 1), (0, 2), (0, 3), (0, 4), (1, 1), (1, 2), (1, 3), (1, 4), (1, 5), (2, 1)]
/-- .. behind the first part -/
def eA (w m : Nat) (nm : Bool) : EV.Env := [some (.ref 0), some (nI w), some (nI m), some (.bl nm), some (dueD w m), some (dueD w m), some (worldD w m), some (nI (size w m)), none, none, none, none, none, none, none, none, none, none, none, none]
def e0 (w m : Nat) (nm : Bool) : EV.Env := [some (.ref 0), some (nI w), some (nI m), some (.bl nm), none, none, none, none, none, none, none, none, none, none, none, none, none, none, none, none]
def pA : S := seqS (p43 0) (seqS (p43 1) (seqS (p43 2) (seqS (p43 3) (seqS (p43 4) (seqS (p43 5) nilS)))))
def eT (w m : Nat) (nm : Bool) (row name item told here turn start thing : Option D) : EV.Env := [some (.ref 0), some (nI w), some (nI m), some (.bl nm), some (dueD w m), some (dueD w m), some (worldD w m), some (nI (size w m)), row, name, none, item, told, here, none, none, turn, start, thing, none]
def resT (w m h j : Nat) : D := match stepOf w m j h with
  | none => .non
  | some (h', v) => .tup [.tup [nI h'], nI v]
def all2 (n m : Nat) (f : Nat → Nat → Bool) : Bool := (List.range n).all fun i => (List.range m).all fun j => f i j
mutual
def beqD : D → D → Bool
  | .non, .non => true
  | .bl a, .bl b => a == b
  | .int i, .int j => decide (i = j)
  | .str x, .str y => decide (x = y)
  | .tup xs, .tup ys => beqDs xs ys
  | _, _ => false
def beqDs : List D → List D → Bool
  | [], [] => true
  | x :: xs, y :: ys => beqD x y && beqDs xs ys
  | _, _ => false
end
def isD (r : Res D) (d : D) : Bool := match resD r with
  | some e => beqD e d
  | none => false
/-- what is closed about one table -/
def facts (w m : Nat) : Bool :=
  (all2 (cnt w m) (size w m) fun j h => isD (runL T.code 27 30 [worldD w m, .tup [nI h], deedD w m j] []) (resT w m h j) && (match stepOf w m j h with | none => true | some (h', v) => Nat.blt h' (size w m))) &&
  ((List.range (cnt w m)).all fun j => isD (runL T.code 28 28 [worldD w m, deedD w m j] []) (.bl true)) &&
  ((List.range (size w m)).all fun h => isD (runL T.code 28 31 [worldD w m, .tup [nI h]] []) .non) && noRef (worldD w m) && noRef (dueD w m) && Nat.blt 0 (cnt w m) && Nat.blt (cnt w m) 10 && Nat.blt 0 (size w m) && Nat.blt (size w m) 10
theorem facts_ok : (combos.all fun p => facts p.1 p.2) = true := by kernel_rfl
end K77

-- part HK77g
set_option Elab.async false
set_option linter.all false
set_option maxRecDepth 1000000
set_option maxHeartbeats 0
namespace K77
open PySem PySem.Spec PyProof.Rows L2 EV EV.Law
def partA (w m : Nat) (nm : Bool) : Prop := ∀ (a : Int) (b : Bool) (c d : Int), pA (runL T.code 29) (e0 w m nm) [Box a b c d] = .nx (eA w m nm) [Box a b c d]
theorem pa01true : partA 0 1 true := fun a b c d => by kernel_rfl
theorem pa01false : partA 0 1 false := fun a b c d => by kernel_rfl
theorem pa02true : partA 0 2 true := fun a b c d => by kernel_rfl
theorem pa02false : partA 0 2 false := fun a b c d => by kernel_rfl
theorem pa03true : partA 0 3 true := fun a b c d => by kernel_rfl
theorem pa03false : partA 0 3 false := fun a b c d => by kernel_rfl
theorem pa04true : partA 0 4 true := fun a b c d => by kernel_rfl
theorem pa04false : partA 0 4 false := fun a b c d => by kernel_rfl
theorem pa11true : partA 1 1 true := fun a b c d => by kernel_rfl
theorem pa11false : partA 1 1 false := fun a b c d => by kernel_rfl
theorem pa12true : partA 1 2 true := fun a b c d => by kernel_rfl
theorem pa12false : partA 1 2 false := fun a b c d => by kernel_rfl
theorem pa13true : partA 1 3 true := fun a b c d => by kernel_rfl
theorem pa13false : partA 1 3 false := fun a b c d => by kernel_rfl
theorem pa14true : partA 1 4 true := fun a b c d => by kernel_rfl
theorem pa14false : partA 1 4 false := fun a b c d => by kernel_rfl
theorem pa15true : partA 1 5 true := fun a b c d => by kernel_rfl
theorem pa15false : partA 1 5 false := fun a b c d => by kernel_rfl
theorem pa21true : partA 2 1 true := fun a b c d => by kernel_rfl
theorem pa21false : partA 2 1 false := fun a b c d => by kernel_rfl
end K77

-- part HK77h
set_option Elab.async false
set_option linter.all false
set_option maxRecDepth 1000000
set_option maxHeartbeats 0
namespace K77
open PySem PySem.Spec PyProof.Rows L2 EV EV.Law
/-- the dict of a table -/
def kvsD (w m : Nat) : List (D × D) := putAll [] ((tabs w m).map fun p => (.str p.1, .tup (p.2.map optD)))
/-- the item of a step: j, and the standing -/
def itemD (w m j : Nat) : Option Nat → D
  | none => .non
  | some h => optD (stepOf w m j h)
def hereD : Option Nat → D
  | none => .non
  | some h => nI h
def stoS (bx : O) (xs : List D) : Sto := [bx, .lst xs]
def itemOk (w m : Nat) : Prop := ∀ (nm : Bool) (a : Int) (b : Bool) (c d : Int) (xs : List D) (t x s : Option D),
  (List.range (cnt w m)).map (fun j => (List.range (size w m)).map fun h => sItem (runL T.code 29) (eT w m nm (some (.ref 1)) (some (.str (nameOf w m j))) none t (some (nI h)) x s (some (.str (codes "c")))) (stoS (Box a b c d) xs)) =
  (List.range (cnt w m)).map (fun j => (List.range (size w m)).map fun h => .nx (eT w m nm (some (.ref 1)) (some (.str (nameOf w m j))) (some (itemD w m j (some h))) t (some (nI h)) x s (some (.str (codes "c")))) (stoS (Box a b c d) xs ++ [.dct (kvsD w m)]))
theorem it01 : itemOk 0 1 := fun nm a b c d xs t x s => by kernel_rfl
theorem it02 : itemOk 0 2 := fun nm a b c d xs t x s => by kernel_rfl
theorem it03 : itemOk 0 3 := fun nm a b c d xs t x s => by kernel_rfl
theorem it04 : itemOk 0 4 := fun nm a b c d xs t x s => by kernel_rfl
theorem it11 : itemOk 1 1 := fun nm a b c d xs t x s => by kernel_rfl
theorem it12 : itemOk 1 2 := fun nm a b c d xs t x s => by kernel_rfl
theorem it13 : itemOk 1 3 := fun nm a b c d xs t x s => by kernel_rfl
theorem it14 : itemOk 1 4 := fun nm a b c d xs t x s => by kernel_rfl
theorem it15 : itemOk 1 5 := fun nm a b c d xs t x s => by kernel_rfl
theorem it21 : itemOk 2 1 := fun nm a b c d xs t x s => by kernel_rfl
end K77

-- part HK77i
set_option Elab.async false
set_option linter.all false
set_option maxRecDepth 100000
set_option maxHeartbeats 4000000
namespace K77
open PySem PySem.Spec PyProof.Rows L2 EV EV.Law
mutual
theorem beqD_eq : ∀ x y : D, beqD x y = true → x = y
  | .non, y, h => by cases y <;> first | rfl | (simp [beqD] at h)
  | .bl a, y, h => by cases y <;> simp [beqD] at h ⊢ <;> exact h
  | .int a, y, h => by cases y <;> simp [beqD] at h ⊢ <;> exact h
  | .str a, y, h => by cases y <;> simp [beqD] at h ⊢ <;> exact h
  | .tup xs, y, h => by
    cases y with
    | tup ys => simp only [beqD] at h; rw [beqDs_eq xs ys h]
    | _ => simp [beqD] at h
  | .lst xs, y, h => by simp [beqD] at h
  | .ref i, y, h => by simp [beqD] at h
  | .exn _ _, y, h => by simp [beqD] at h
theorem beqDs_eq : ∀ xs ys : List D, beqDs xs ys = true → xs = ys
  | [], ys, h => by cases ys <;> first | rfl | (simp [beqDs] at h)
  | x :: xs, ys, h => by
    cases ys with
    | nil => simp [beqDs] at h
    | cons y ys =>
      simp only [beqDs, Bool.and_eq_true] at h
      rw [beqD_eq x y h.1, beqDs_eq xs ys h.2]
end
theorem isD_eq {r : Res D} {d : D} (h : isD r d = true) : resD r = some d := by
  unfold isD at h
  cases e : resD r with
  | none => rw [e] at h; cases h
  | some x => rw [e] at h; rw [beqD_eq x d h]
structure Facts (w m : Nat) : Prop where
  done : ∀ j h, j < cnt w m → h < size w m → ∀ st, runL T.code 27 30 [worldD w m, .tup [nI h], deedD w m j] st = .ok (resT w m h j) st
  next : ∀ j h h' v, j < cnt w m → h < size w m → stepOf w m j h = some (h', v) → h' < size w m
  deed : ∀ j, j < cnt w m → ∀ st, runL T.code 28 28 [worldD w m, deedD w m j] st = .ok (.bl true) st
  stand : ∀ h, h < size w m → ∀ st, runL T.code 28 31 [worldD w m, .tup [nI h]] st = .ok .non st
  world : noRef (worldD w m) = true
  due : noRef (dueD w m) = true
  c0 : 0 < cnt w m
  c1 : cnt w m < 10
  s0 : 0 < size w m
  s1 : size w m < 10
theorem facts_of {w m : Nat} (h : (w, m) ∈ combos) : Facts w m := by
  have q := List.all_eq_true.mp facts_ok (w, m) h
  simp only [facts, all2, Bool.and_eq_true, List.all_eq_true, List.mem_range] at q
  obtain ⟨⟨⟨⟨⟨⟨⟨⟨q1, q2⟩, q3⟩, q4⟩, q5⟩, q6⟩, q7⟩, q8⟩, q9⟩ := q
  have w1 : noRefs [worldD w m] = true := by simp only [noRefs, q4, Bool.and_self]
  refine ⟨fun j h hj hh st => ?_, fun j h h' v hj hh e => ?_, fun j hj st => ?_, fun h hh st => ?_, q4, q5, Nat.blt_eq.mp q6, Nat.blt_eq.mp q7, Nat.blt_eq.mp q8, Nat.blt_eq.mp q9⟩
  · refine run_res (n := 26) ?_ (isD_eq (q1 j hj h hh).1) ?_ st
    · simp [noRefs, noRef, q4, nI, deedD]
    · unfold resT
      split <;> simp [noRef, noRefs, nI]
  · have := (q1 j hj h hh).2
    rw [e] at this
    exact Nat.blt_eq.mp this
  · exact run_res (n := 27) (by simp [noRefs, noRef, q4, deedD]) (isD_eq (q2 j hj)) rfl st
  · exact run_res (n := 27) (by simp [noRefs, noRef, q4, nI]) (isD_eq (q3 h hh)) rfl st
def step1 (w m : Nat) (s : Option Nat × List Nat) (j : Nat) : Option Nat × List Nat := match s.1 with
  | none => (none, s.2)
  | some h => match stepOf w m j h with
    | none => (none, s.2)
    | some (h', v) => (some h', s.2 ++ [v])
def tupT (ts : List Nat) : D := .tup (ts.map nI)
theorem item_of {w m : Nat} (h : (w, m) ∈ combos) : itemOk w m := by
  simp only [combos, List.mem_cons, Prod.mk.injEq, List.not_mem_nil, _root_.or_false] at h
  rcases h with ⟨rfl, rfl⟩ | ⟨rfl, rfl⟩ | ⟨rfl, rfl⟩ | ⟨rfl, rfl⟩ | ⟨rfl, rfl⟩ | ⟨rfl, rfl⟩ | ⟨rfl, rfl⟩ | ⟨rfl, rfl⟩ | ⟨rfl, rfl⟩ | ⟨rfl, rfl⟩
  · exact it01
  · exact it02
  · exact it03
  · exact it04
  · exact it11
  · exact it12
  · exact it13
  · exact it14
  · exact it15
  · exact it21
section
variable {w m : Nat} {nm : Bool} {Φ : Call} {st : Sto}
theorem mkTup_ok {xs : List D} (h : xs.length < 1000) : mkTup xs st = .ok (.tup xs) st := by
  unfold mkTup
  rw [if_pos (Nat.ble_eq.mpr (by show xs.length ≤ 16777216; omega))]
theorem next_non {row name t x s th : Option D} {ts : D} : sNext Φ (eT w m nm row name (some .non) (some ts) x t s th) st = .nx (eT w m nm row name (some .non) (some ts) (some .non) t s th) st := rfl
theorem next_some {row name t x s th : Option D} {ts : List D} {h v : Nat} (hl : ts.length < 100) :
    sNext Φ (eT w m nm row name (some (.tup [nI h, nI v])) (some (.tup ts)) x t s th) st = .nx (eT w m nm row name (some (.tup [nI h, nI v])) (some (.tup (ts ++ [nI v]))) (some (nI h)) t s th) st := by
  have e : ifM (blT (op2M opIs (varM 11) nonM)) (tupM (consA nonM (consA (varM 12) nilA))) (tupM (consA (ix 11 0) (consA (op2M opAdd (varM 12) (tupM (consA (ix 11 1) nilA))) nilA))) Φ (eT w m nm row name (some (.tup [nI h, nI v])) (some (.tup ts)) x t s th) st = .ok (.tup [nI h, .tup (ts ++ [nI v])]) st := by
    show tupM (consA (ix 11 0) (consA (op2M opAdd (varM 12) (tupM (consA (ix 11 1) nilA))) nilA)) Φ (eT w m nm row name (some (.tup [nI h, nI v])) (some (.tup ts)) x t s th) st = _
    refine gz_tup (gz_cons (x := nI h) (st1 := st) rfl (gz_cons (gz_op2 (x := .tup ts) (y := .tup [nI v]) (st1 := st) (st2 := st) rfl rfl (mkTup_ok (by simp; omega))) rfl)) rfl
  exact gz_asg e rfl
def be1 (n : Nat) : Option D → Bool
  | none => true
  | some d => EV.below n d
theorem be1_none {n : Nat} : be1 n none = true := rfl
theorem be1_some {n : Nat} {d : D} : be1 n (some d) = EV.below n d := rfl
theorem belowE_cons (n : Nat) (x : Option D) (r : EV.Env) : belowE n (x :: r) = (be1 n x && belowE n r) := by cases x <;> simp [belowE, be1]
theorem below_eT {n : Nat} {row name item told here turn start thing : Option D} (F : Facts w m) (hn : 0 < n) (h1 : be1 n row = true) (h2 : be1 n name = true) (h3 : be1 n item = true) (h4 : be1 n told = true) (h5 : be1 n here = true) (h6 : be1 n turn = true) (h7 : be1 n start = true) (h8 : be1 n thing = true) : belowE n (eT w m nm row name item told here turn start thing) = true := by
  unfold eT
  simp only [belowE_cons, h1, h2, h3, h4, h5, h6, h7, h8, Bool.and_self, Bool.and_true, Bool.true_and, be1_none, be1_some, EV.below, nI, noRef_below n _ F.due, noRef_below n _ F.world, Nat.blt_eq.mpr hn, belowE]
end
end K77

-- part HK77j
set_option Elab.async false
set_option linter.all false
set_option maxRecDepth 100000
set_option maxHeartbeats 4000000
namespace K77
open PySem PySem.Spec PyProof.Rows L2 EV EV.Law
section
variable {w m : Nat} {nm : Bool} {st : Sto}
theorem noRefs_deeds (w m : Nat) : ∀ js : List Nat, noRefs (js.map (deedD w m)) = true
  | [] => rfl
  | j :: js => by
    rw [List.map_cons, noRefs, noRefs_deeds w m js]
    rfl
theorem noRefs_nat : ∀ ts : List Nat, noRefs (ts.map nI) = true
  | [] => rfl
  | t :: ts => by
    rw [List.map_cons, noRefs, noRefs_nat ts]
    rfl
theorem here_below {n : Nat} (o : Option Nat) : be1 n (some (hereD o)) = true := by cases o <;> simp [be1, hereD, EV.below, nI]
theorem tup_below {n : Nat} (ts : List Nat) : be1 n (some (tupT ts)) = true := by
  unfold be1 tupT
  simp only [EV.below]
  exact noRefs_below n _ (noRefs_nat ts)
theorem sto_below {a c d : Int} {b : Bool} (js : List Nat) : allBelow 2 (stoS (Box a b c d) (js.map (deedD w m))) = true := by
  unfold stoS Box
  simp only [allBelow, O.below, belows, EV.below, noRefs_below 2 _ (noRefs_deeds w m js), Bool.and_self]
/-- a turn of the walk over the row -/
theorem step_turn (hc : (w, m) ∈ combos) {j : Nat} (hj : j < cnt w m) {a c d : Int} {b : Bool} {js : List Nat} {h : Option Nat} {ts : List Nat} {t : Option D} {s : Nat} (ht : ts.length < 100) (hh : ∀ k, h = some k → k < size w m) (htb : be1 2 t = true) :
    ownS [9, 11, 18] bStep (runL T.code 29) (eT w m nm (some (.ref 1)) (some (.str (nameOf w m j))) none (some (tupT ts)) (some (hereD h)) t (some (nI s)) (some (.str (codes "c")))) (stoS (Box a b c d) (js.map (deedD w m))) =
      .nx (eT w m nm (some (.ref 1)) none none (some (tupT (step1 w m (h, ts) j).2)) (some (hereD (step1 w m (h, ts) j).1)) t (some (nI s)) none) (stoS (Box a b c d) (js.map (deedD w m))) := by
  have F := facts_of hc
  have key : ∃ it o tl, bStep (runL T.code 29) (eT w m nm (some (.ref 1)) (some (.str (nameOf w m j))) none (some (tupT ts)) (some (hereD h)) t (some (nI s)) (some (.str (codes "c")))) (stoS (Box a b c d) (js.map (deedD w m))) =
      .nx (eT w m nm (some (.ref 1)) (some (.str (nameOf w m j))) it (some (tupT (step1 w m (h, ts) j).2)) (some (hereD (step1 w m (h, ts) j).1)) t (some (nI s)) o) (stoS (Box a b c d) (js.map (deedD w m)) ++ tl) := by
    unfold bStep
    cases h with
    | none =>
      refine ⟨some .non, some (.str (codes "c")), [], ?_⟩
      rw [gz_seq_nx (show sItem (runL T.code 29) (eT w m nm (some (.ref 1)) (some (.str (nameOf w m j))) none (some (tupT ts)) (some (hereD none)) t (some (nI s)) (some (.str (codes "c")))) (stoS (Box a b c d) (js.map (deedD w m))) = .nx (eT w m nm (some (.ref 1)) (some (.str (nameOf w m j))) (some .non) (some (tupT ts)) (some (hereD none)) t (some (nI s)) (some (.str (codes "c")))) (stoS (Box a b c d) (js.map (deedD w m))) from rfl)]
      rw [gz_seq_nx next_non, List.append_nil]
      rfl
    | some k =>
      have hk := hh k rfl
      have q := item_of hc nm a b c d (js.map (deedD w m)) (some (tupT ts)) t (some (nI s))
      have q := map_at q j (List.mem_range.mpr hj)
      have q := map_at q k (List.mem_range.mpr hk)
      refine ⟨some (itemD w m j (some k)), some (.str (codes "c")), [.dct (kvsD w m)], ?_⟩
      rw [show hereD (some k) = nI k from rfl, gz_seq_nx q]
      unfold itemD step1
      cases e : stepOf w m j k with
      | none =>
        simp only [e]
        rw [show optD none = .non from rfl, gz_seq_nx next_non]
        rfl
      | some p =>
        obtain ⟨h', v⟩ := p
        simp only [e]
        rw [show optD (some (h', v)) = .tup [nI h', nI v] from rfl, show tupT ts = .tup (ts.map nI) from rfl, gz_seq_nx (next_some (by simpa using ht))]
        show SR.nx _ _ = SR.nx _ _
        unfold tupT
        rw [List.map_append]
        rfl
  obtain ⟨it, o, tl, key⟩ := key
  have tk : (stoS (Box a b c d) (js.map (deedD w m)) ++ tl).take (stoS (Box a b c d) (js.map (deedD w m))).length = stoS (Box a b c d) (js.map (deedD w m)) := by simp [stoS]
  have wi : ∀ (h t' : Option D), wipeE (eT w m nm (some (.ref 1)) (some (.str (nameOf w m j))) it t' h t (some (nI s)) o) [9, 11, 18] = eT w m nm (some (.ref 1)) none none t' h t (some (nI s)) none := fun _ _ => rfl
  rw [own_nx key (by
    rw [tk, wi]
    rw [show (stoS (Box a b c d) (js.map (deedD w m))).length = 2 from rfl, sto_below, below_eT F (by decide) rfl rfl rfl (tup_below _) (here_below _) htb rfl rfl]
    rfl), tk, wi]
def runJ (w m : Nat) : Option Nat × List Nat → List Nat → Option Nat × List Nat
  | s, [] => s
  | s, j :: js => runJ w m (step1 w m s j) js
theorem step1_len (s : Option Nat × List Nat) (j : Nat) : (step1 w m s j).2.length ≤ s.2.length + 1 := by
  unfold step1
  split
  · simp
  · split <;> simp
theorem step1_ok (F : Facts w m) {s : Option Nat × List Nat} {j : Nat} (hj : j < cnt w m) (h : ∀ k, s.1 = some k → k < size w m) : ∀ k, (step1 w m s j).1 = some k → k < size w m := by
  intro k e
  unfold step1 at e
  split at e
  · cases e
  · next k0 e0 =>
    split at e
    · cases e
    · next h' v e1 =>
      cases e
      exact F.next j k0 _ _ hj (h k0 e0) e1
/-- the walk over the row -/
theorem walk_go (hc : (w, m) ∈ combos) {a c d : Int} {b : Bool} {all : List Nat} (hj : ∀ j ∈ all, j < cnt w m) {t : Option D} {s : Nat} (htb : be1 2 t = true) : ∀ (js : List Nat) (n fuel : Nat) (h : Option Nat) (ts : List Nat), all.drop n = js → n + js.length = all.length → js.length < fuel → ts.length + js.length < 100 → (∀ k, h = some k → k < size w m) →
    forGo (.list 1) (tupG 2 (consG (setG 18) (consG (setG 9) nilG))) (ownS [9, 11, 18] bStep (runL T.code 29)) fuel n (eT w m nm (some (.ref 1)) none none (some (tupT ts)) (some (hereD h)) t (some (nI s)) none) (stoS (Box a b c d) (all.map (deedD w m))) =
      .nx (eT w m nm (some (.ref 1)) none none (some (tupT (runJ w m (h, ts) js).2)) (some (hereD (runJ w m (h, ts) js).1)) t (some (nI s)) none) (stoS (Box a b c d) (all.map (deedD w m)))
  | [], n, fuel + 1, h, ts, hd, hn, hf, hl, hh => by
    rw [gz_go_end (by
      show some (all.map (deedD w m))[n]? = _
      rw [List.getElem?_eq_none (by simp at hn ⊢; omega)])]
    rfl
  | j :: js, n, fuel + 1, h, ts, hd, hn, hf, hl, hh => by
    have F := facts_of hc
    have hn' : n < all.length := by simp at hn; omega
    have ej : all[n] = j := by
      have := List.drop_eq_getElem_cons hn'
      rw [hd] at this
      exact (List.cons.inj this).1.symm
    have ed : all.drop (n + 1) = js := by
      have := List.drop_eq_getElem_cons hn'
      rw [hd] at this
      exact (List.cons.inj this).2.symm
    have hjj : j < cnt w m := hj j (ej ▸ List.getElem_mem hn')
    simp only [List.length_cons] at hn hf hl
    rw [gz_go_nx (d := deedD w m j) (by
      show some (all.map (deedD w m))[n]? = _
      rw [List.getElem?_map, List.getElem?_eq_getElem hn', ej]
      rfl) rfl (step_turn hc hjj (by omega) hh htb)]
    have sl := step1_len (w := w) (m := m) (h, ts) j
    exact walk_go hc hj htb js (n + 1) fuel (step1 w m (h, ts) j).1 (step1 w m (h, ts) j).2 ed (by omega) (by omega) (by simp only at sl; omega) (step1_ok F hjj hh)
end
end K77

-- part HK77k
set_option Elab.async false
set_option linter.all false
set_option maxRecDepth 100000
set_option maxHeartbeats 4000000
namespace K77
open PySem PySem.Spec PyProof.Rows L2 EV EV.Law
def S3 : S := seqS (retS (isi [.list, .tuple] 0)) nilS
theorem c3 : T.code[3]? = some ⟨1, 1, S3⟩ := by kernel_rfl
section
variable {w m : Nat} {st st1 : Sto} {Φ : Call} {env : EV.Env}
theorem gz_expr {e : M D} {d : D} (h : e Φ env st = .ok d st1) : exprS e Φ env st = .nx env st1 := by
  unfold exprS
  rw [h]
  rfl
theorem gz_star {a : M D} {m : M (List D)} {x : D} {xs ys : List D} {st2 : Sto} (h : a Φ env st = .ok x st1) (hs : seqOf x st1 = some ys) (hm : m Φ env st1 = .ok xs st2) : starA a m Φ env st = .ok (ys ++ xs) st2 := by
  unfold starA
  rw [h, bind_okR]
  show (match seqOf x st1 with | some ys => (m Φ env st1).bind fun xs st2 => Res.ok (ys ++ xs) st2 | none => .bad) = _
  rw [hs]
  show (m Φ env st1).bind _ = _
  rw [hm]
  rfl
def resJ (w m s : Nat) (js : List Nat) : D := match runJ w m (some s, []) js with
  | (none, _) => .non
  | (some h, ts) => .tup [.tup [nI h], tupT ts]
theorem runJ_none (ts : List Nat) : ∀ js, runJ w m (none, ts) js = (none, ts)
  | [] => rfl
  | j :: js => runJ_none ts js
def eD (w m h : Nat) (ts : List Nat) (o4 o5 : Option D) : EV.Env := [some (worldD w m), some (.tup [nI h]), some (.ref 0), some (tupT ts), o4, o5]
/-- row_done's loop -/
theorem done_go (hc : (w, m) ∈ combos) {all : List Nat} (hj : ∀ j ∈ all, j < cnt w m) : ∀ (js : List Nat) (n fuel : Nat) (h : Nat) (ts : List Nat) (o4 o5 : Option D), all.drop n = js → n + js.length = all.length → js.length < fuel → ts.length + js.length < 100 → h < size w m →
    ∃ o4' o5', forGo (.list 0) (setG 4) (bDone (runL T.code 27)) fuel n (eD w m h ts o4 o5) [.lst (all.map (deedD w m))] =
      (match runJ w m (some h, ts) js with
        | (none, _) => SR.rt .non [.lst (all.map (deedD w m))]
        | (some h', ts') => .nx (eD w m h' ts' o4' o5') [.lst (all.map (deedD w m))])
  | [], n, fuel + 1, h, ts, o4, o5, hd, hn, hf, hl, hh => by
    refine ⟨o4, o5, ?_⟩
    rw [gz_go_end (by
      show some (all.map (deedD w m))[n]? = _
      rw [List.getElem?_eq_none (by simp at hn ⊢; omega)])]
    rfl
  | j :: js, n, fuel + 1, h, ts, o4, o5, hd, hn, hf, hl, hh => by
    have F := facts_of hc
    have hn' : n < all.length := by simp at hn; omega
    have ej : all[n] = j := by
      have := List.drop_eq_getElem_cons hn'
      rw [hd] at this
      exact (List.cons.inj this).1.symm
    have ed : all.drop (n + 1) = js := by
      have := List.drop_eq_getElem_cons hn'
      rw [hd] at this
      exact (List.cons.inj this).2.symm
    have hjj : j < cnt w m := hj j (ej ▸ List.getElem_mem hn')
    simp only [List.length_cons] at hn hf hl
    let st0 : Sto := [.lst (all.map (deedD w m))]
    have at_ : EV.It.at_ st0 n (.list 0) = some (some (deedD w m j)) := by
      show some (all.map (deedD w m))[n]? = _
      rw [List.getElem?_map, List.getElem?_eq_getElem hn', ej]
      rfl
    have c1 : asgS (setG 5) (callM 30 3 (consA (varM 0) (consA (varM 1) (consA (varM 4) nilA)))) (runL T.code 27) (eD w m h ts (some (deedD w m j)) o5) st0 = .nx (eD w m h ts (some (deedD w m j)) (some (resT w m h j))) st0 :=
      gz_set (i := 5) (gz_call (xs := [worldD w m, .tup [nI h], deedD w m j]) rfl rfl (F.done j h hjj hh st0))
    cases e : stepOf w m j h with
    | none =>
      have er : resT w m h j = .non := by unfold resT; rw [e]
      rw [er] at c1
      refine ⟨none, none, ?_⟩
      have e2 : runJ w m (some h, ts) (j :: js) = (none, ts) := by
        show runJ w m (step1 w m (some h, ts) j) js = _
        have : step1 w m (some h, ts) j = (none, ts) := by simp only [step1, e]
        rw [this, runJ_none]
      rw [e2]
      unfold forGo
      rw [at_]
      show (match bDone (runL T.code 27) (eD w m h ts (some (deedD w m j)) o5) st0 with | .nx env2 st2 => _ | .ct env2 st2 => _ | .bk env2 st2 => _ | r => r) = _
      have : bDone (runL T.code 27) (eD w m h ts (some (deedD w m j)) o5) st0 = .rt .non st0 := by
        unfold bDone
        rw [gz_seq_nx c1]
        rfl
      rw [this]
    | some p =>
      obtain ⟨h', v⟩ := p
      have er : resT w m h j = .tup [.tup [nI h'], nI v] := by unfold resT; rw [e]
      rw [er] at c1
      have sl : step1 w m (some h, ts) j = (some h', ts ++ [v]) := by simp only [step1, e]
      obtain ⟨o4', o5', ih⟩ := done_go hc hj js (n + 1) fuel h' (ts ++ [v]) (some (deedD w m j)) (some (.tup [.tup [nI h'], nI v])) ed (by omega) (by omega) (by simp; omega) (F.next j h h' v hjj hh e)
      refine ⟨o4', o5', ?_⟩
      show _ = (match runJ w m (step1 w m (some h, ts) j) js with | (none, _) => _ | (some h', ts') => _)
      rw [sl, ← ih]
      refine gz_go_nx at_ rfl ?_
      show bDone (runL T.code 27) (eD w m h ts (some (deedD w m j)) o5) st0 = _
      unfold bDone
      rw [gz_seq_nx c1]
      rw [gz_seq_nx (show ifS (blT (op2M opIs (varM 5) nonM)) (seqS (retS nonM) nilS) nilS (runL T.code 27) (eD w m h ts (some (deedD w m j)) (some (.tup [.tup [nI h'], nI v]))) st0 = .nx (eD w m h ts (some (deedD w m j)) (some (.tup [.tup [nI h'], nI v]))) st0 from rfl)]
      have ar : consA (ix 5 0) (consA (tupM (starA (varM 3) (consA (ix 5 1) nilA))) nilA) (runL T.code 27) (eD w m h ts (some (deedD w m j)) (some (.tup [.tup [nI h'], nI v]))) st0 = .ok [.tup [nI h'], tupT (ts ++ [v])] st0 := by
        refine gz_cons (x := .tup [nI h']) (st1 := st0) rfl (gz_cons (x := tupT (ts ++ [v])) (st1 := st0) ?_ rfl)
        have := gz_star (a := varM 3) (m := consA (ix 5 1) nilA) (x := tupT ts) (xs := [nI v]) (ys := ts.map nI) (st := st0) (st1 := st0) (st2 := st0) (Φ := runL T.code 27) (env := eD w m h ts (some (deedD w m j)) (some (.tup [.tup [nI h'], nI v]))) rfl rfl rfl
        have := gz_tup this (Nat.ble_eq.mpr (by show _ ≤ 16777216; simp; omega))
        rw [this]
        unfold tupT
        rw [List.map_append]
        rfl
      have pr : par2S 1 3 (consA (ix 5 0) (consA (tupM (starA (varM 3) (consA (ix 5 1) nilA))) nilA)) (runL T.code 27) (eD w m h ts (some (deedD w m j)) (some (.tup [.tup [nI h'], nI v]))) st0 = .nx (eD w m h' (ts ++ [v]) (some (deedD w m j)) (some (.tup [.tup [nI h'], nI v]))) st0 := by
        unfold par2S
        rw [ar]
        rfl
      rw [gz_seq_nx pr]
      rfl
theorem row_done (hc : (w, m) ∈ combos) {js : List Nat} (hj : ∀ j ∈ js, j < cnt w m) (hl : js.length < 90) {s : Nat} (hs : s < size w m) : ∃ own, bodyF ⟨6, 3, S32⟩ (runL T.code 27) [worldD w m, .tup [nI s], .ref 0] [.lst (js.map (deedD w m))] = .ok (resJ w m s js) (.lst (js.map (deedD w m)) :: own) := by
  obtain ⟨o4, o5, h⟩ := done_go hc hj js 0 wfuel s [] none none rfl (by simp) (by show js.length < 100000; omega) (by simp; omega) hs
  refine ⟨[], gz_body_rt rfl ?_⟩
  show S32 (runL T.code 27) [some (worldD w m), some (.tup [nI s]), some (.ref 0), none, none, none] [.lst (js.map (deedD w m))] = _
  unfold S32
  rw [gz_seq_nx (show asgS (setG 3) (tupM nilA) (runL T.code 27) [some (worldD w m), some (.tup [nI s]), some (.ref 0), none, none, none] [.lst (js.map (deedD w m))] = .nx (eD w m s [] none none) [.lst (js.map (deedD w m))] from rfl)]
  have lk : lkS 2 (forS (itM (varM 2)) (setG 4) bDone) (runL T.code 27) (eD w m s [] none none) [.lst (js.map (deedD w m))] = forGo (.list 0) (setG 4) (bDone (runL T.code 27)) wfuel 0 (eD w m s [] none none) [.lst (js.map (deedD w m))] := by
    show forS (itM (varM 2)) (setG 4) bDone (runL T.code 27) (eD w m s [] none none) [.lst (js.map (deedD w m))] = _
    exact gz_for rfl
  rw [← lk] at h
  unfold resJ
  split at h
  · next e => exact gz_seq_rt h
  · next h' ts' e =>
    rw [gz_seq_nx h]
    exact gz_seq_rt (gz_ret rfl)
theorem noRef_res (w m s : Nat) (js : List Nat) : noRef (resJ w m s js) = true := by
  unfold resJ
  split
  · rfl
  · simp only [noRef, noRefs, nI, tupT, noRefs_nat, Bool.and_self]
theorem bls_true : ∀ n : Nat, bls (List.replicate n (D.bl true)) = some (List.replicate n true)
  | 0 => rfl
  | n + 1 => by simp only [List.replicate_succ, bls, bls_true n, Option.map_some]
theorem leafI_last {st : Sto} {x y : D} {r : Nat} {xs : List D} (hx : noRef x = true) (hy : noRef y = true) (ho : st[r]? = some (.lst xs)) (hn : noRefs xs = true) : leafI st [x, y, .ref r] [] = some [r] := by
  have e1 : leafI st [x, y, .ref r] [] = leafI st [y, .ref r] [] := by cases x <;> first | (simp only [leafI, hx, if_true]; done) | (simp [noRef] at hx)
  have e2 : leafI st [y, .ref r] [] = leafI st [.ref r] [] := by cases y <;> first | (simp only [leafI, hy, if_true]; done) | (simp [noRef] at hy)
  rw [e1, e2]
  simp [leafI, ho, O.flat, hn]
/-- do_row -/
theorem do_row_ok (hc : (w, m) ∈ combos) {js : List Nat} (hj : ∀ j ∈ js, j < cnt w m) (hl : js.length ≤ 40) {s : Nat} (hs : s < size w m) : ∃ own, bodyF ⟨4, 3, S33⟩ (runL T.code 28) [worldD w m, .tup [nI s], .ref 0] [.lst (js.map (deedD w m))] = .ok (resJ w m s js) (.lst (js.map (deedD w m)) :: own) := by
  have F := facts_of hc
  obtain ⟨own, hd⟩ := row_done hc hj (by omega) hs
  obtain ⟨xs, hxs⟩ : ∃ xs, xs = js.map (deedD w m) := ⟨_, rfl⟩
  have nx : noRefs xs = true := by rw [hxs]; exact noRefs_deeds w m js
  have lx : xs.length = js.length := by rw [hxs, List.length_map]
  rw [← hxs] at hd ⊢
  let E : EV.Env := [some (worldD w m), some (.tup [nI s]), some (.ref 0), none]
  let tr : List D := List.replicate js.length (.bl true)
  refine ⟨[.lst tr], gz_body_rt rfl ?_⟩
  show S33 (runL T.code 28) E [.lst xs] = _
  unfold S33
  have k1 : sChk (runL T.code 28) E [.lst xs] = .nx E [.lst xs] := gz_expr (gz_call (xs := [worldD w m, .tup [nI s]]) rfl rfl (F.stand s hs _))
  rw [gz_seq_nx k1]
  have k2 : callM 3 1 (consA (varM 2) nilA) (runL T.code 28) E [.lst xs] = .ok (.bl true) [.lst xs] := by
    refine gz_call (xs := [.ref 0]) rfl rfl ?_
    show runL T.code (27 + 1) 3 [.ref 0] [.lst xs] = _
    rw [runL_at c3]
    exact leaf_ok (r := 0) (ys := xs) (own := []) (by simp [leafI, O.flat, nx]) rfl rfl rfl nx rfl (by simp only [List.set_cons_zero, allBelow, O.below, noRefs_below _ _ nx, Bool.and_self])
  have k3 : op2M opGt (b1 bLen (varM 2)) (cI 40) (runL T.code 28) E [.lst xs] = .ok (.bl false) [.lst xs] := by
    refine gz_op2 (x := .int xs.length) (y := .int 40) (st1 := [.lst xs]) (st2 := [.lst xs]) rfl rfl ?_
    show Res.ok (D.bl (decide ((40 : Int) < xs.length))) [O.lst xs] = _
    rw [decide_eq_false (by omega)]
  have k4 : cDeeds (runL T.code 28) E [.lst xs] = .ok (.ref 1) [.lst xs, .lst tr] := by
    unfold cDeeds
    show compM (compI (itM (varM 2)) [3] (setG 3) yesT (callM 28 2 (consA (varM 0) (consA (varM 3) nilA)))) (runL T.code 28) E [.lst xs] = _
    have cm : compI (itM (varM 2)) [3] (setG 3) yesT (callM 28 2 (consA (varM 0) (consA (varM 3) nilA))) (runL T.code 28) E [.lst xs] = .ok tr [.lst xs] := by
      unfold compI
      show noExc (walk (.list 0) (setG 3) _ (wipeE E [3]) wfuel 0 [.lst xs]) = _
      rw [walk_each (ys := tr) tr.length 0 wfuel (by omega) (by show tr.length < 100000; simp [tr]; omega) (by
        show some xs[tr.length]? = _
        rw [List.getElem?_eq_none (by simp [tr]; omega)]) fun k hk _ => ?_]
      · rfl
      · have hk' : k < js.length := by simpa [tr] using hk
        refine ⟨deedD w m js[k], [some (worldD w m), some (.tup [nI s]), some (.ref 0), some (deedD w m js[k])], ?_, rfl, ?_⟩
        · show some xs[k]? = _
          rw [hxs, List.getElem?_map, List.getElem?_eq_getElem hk']
          rfl
        · show (callM 28 2 (consA (varM 0) (consA (varM 3) nilA)) (runL T.code 28) [some (worldD w m), some (.tup [nI s]), some (.ref 0), some (deedD w m js[k])] [.lst xs]).bind _ = _
          have q : callM 28 2 (consA (varM 0) (consA (varM 3) nilA)) (runL T.code 28) [some (worldD w m), some (.tup [nI s]), some (.ref 0), some (deedD w m js[k])] [.lst xs] = .ok (.bl true) [.lst xs] := gz_call (xs := [worldD w m, deedD w m js[k]]) (st1 := [.lst xs]) rfl rfl (F.deed js[k] (hj _ (List.getElem_mem hk')) _)
          rw [q]
          have : tr[k] = .bl true := by simp [tr]
          rw [this]
          rfl
    unfold compM
    rw [cm, bind_okR]
    unfold mkLst
    rw [if_pos (Nat.ble_eq.mpr (by show _ ≤ 16777216; simp [tr]; omega))]
    rfl
  have k5 : b1 bAll cDeeds (runL T.code 28) E [.lst xs] = .ok (.bl true) [.lst xs, .lst tr] := by
    refine gz_b1 k4 ?_
    have e : (lstAt (.ref 1) [.lst xs, .lst tr]).bind bls = some (List.replicate js.length true) := bls_true _
    unfold bAll
    dsimp only
    rw [e]
    simp
  have g : sGuard (runL T.code 28) E [.lst xs] = .nx E [.lst xs, .lst tr] := by
    unfold sGuard
    rw [gz_if (c := false) (st1 := [.lst xs, .lst tr]) (or_false (st1 := [.lst xs]) (not_val k2) (or_false (st1 := [.lst xs]) (bl_ok k3) (not_val k5)))]
    rfl
  rw [gz_seq_nx g]
  refine gz_seq_rt (gz_ret (gz_call (xs := [worldD w m, .tup [nI s], .ref 0]) (st1 := [.lst xs, .lst tr]) rfl rfl ?_))
  show runL T.code (27 + 1) 32 _ _ = _
  rw [runL_at c32]
  have nt : noRef (D.tup [nI s]) = true := rfl
  have := leaf_ok (g := bodyF ⟨6, 3, S32⟩ (runL T.code 27)) (ds := [worldD w m, .tup [nI s], .ref 0]) (r := 0) (st := [.lst xs, .lst tr]) (xs := xs) (ys := xs) (d := resJ w m s js) (own := own) (leafI_last F.world nt rfl nx) (by simp [noRefs, noRef]) rfl
    (by
      have e : renDs (inF [0]) [worldD w m, .tup [nI s], .ref 0] = [worldD w m, .tup [nI s], .ref 0] := by
        simp only [renDs, renD_free _ F.world, renD_free _ nt, renD, inF]
        rfl
      rw [e]
      exact hd) nx (noRef_res ..) (by
      have nb : noRefs tr = true := by
        have : ∀ n, noRefs (List.replicate n (D.bl true)) = true := fun n => by induction n with
          | zero => rfl
          | succ n ih => rw [List.replicate_succ, noRefs, ih]; rfl
        exact this _
      simp only [List.set_cons_zero, allBelow, O.below, noRefs_below _ _ nx, noRefs_below _ _ nb, Bool.and_self])
  exact this
end
end K77

-- part HK77l
set_option Elab.async false
set_option linter.all false
set_option maxRecDepth 100000
set_option maxHeartbeats 4000000
namespace K77
open PySem PySem.Spec PyProof.Rows L2 EV EV.Law
theorem bx_mono {M M' : Nat} {o : O} (h : Bx M o) (hM : M ≤ M') : Bx M' o := by
  obtain ⟨a, b, c, d, B, e⟩ := h
  exact ⟨a, b, c, d, ⟨B.a0, B.c0, B.c1, B.d0, by have := B.d1; omega⟩, e⟩
theorem bx_lst {M : Nat} {o : O} (h : Bx M o) : ∃ ys, o = .lst ys ∧ noRefs ys = true := by
  obtain ⟨a, b, c, d, B, rfl⟩ := h
  exact ⟨_, rfl, by simp [noRefs, noRef]⟩
/-- a take from a box at the first place -/
theorem take0 (n : Nat) {m M : Nat} {o : O} {st : Sto} (hm : 0 < m) (hm2 : m < 1000) (ho : Bx M o) (hM : M < 1000000) : ∃ (e : Nat) (o' : O), e < m ∧ Bx (M + 1) o' ∧ runL T.code (n + 1) 36 [.ref 0, nI m] (o :: st) = .ok (nI e) (o' :: st) := by
  obtain ⟨a, b, c, d, B, rfl⟩ := ho
  obtain ⟨e, a', d', he, B', ht⟩ := take_ok c36 n (r := 0) (m := m) (st := Box a b c d :: st) hm hm2 rfl B hM
  exact ⟨e, Box a' b c d', he, ⟨a', b, c, d', B', rfl⟩, ht⟩
section
variable {w m : Nat} {nm : Bool}
theorem pick_ok (F : Facts w m) {o : O} {M : Nat} (ho : Bx M o) (hM : M < 1000000) : ∃ (j : Nat) (p : List Nat × List (Option (Nat × Nat))) (o' : O), j < cnt w m ∧ (tabs w m)[j]? = some p ∧ Bx (M + 1) o' ∧ runL T.code 29 37 [.ref 0, dueD w m] [o] = .ok (pairD p) [o'] := by
  obtain ⟨e, o', he, b', ht⟩ := take0 27 (st := []) F.c0 (by have := F.c1; omega) ho hM
  obtain ⟨p, hp⟩ : ∃ p, (tabs w m)[e]? = some p := ⟨_, List.getElem?_eq_getElem he⟩
  refine ⟨e, p, o', he, hp, b', ?_⟩
  obtain ⟨ys, rfl, ny⟩ := bx_lst ho
  obtain ⟨zs, rfl, nz⟩ := bx_lst b'
  show runL T.code (28 + 1) 37 _ _ = _
  rw [runL_at c37]
  have hpn : noRef (pairD p) = true := by
    have q := F.due
    unfold dueD at q
    simp only [noRef] at q
    have mem : pairD p ∈ (tabs w m).map pairD := List.mem_map_of_mem (List.mem_of_getElem? hp)
    have : ∀ ds : List D, noRefs ds = true → ∀ d ∈ ds, noRef d = true := by
      intro ds
      induction ds with
      | nil => intro _ d hd; cases hd
      | cons x r ih =>
        intro h d hd
        simp only [noRefs, Bool.and_eq_true] at h
        rcases List.mem_cons.mp hd with rfl | hd
        · exact h.1
        · exact ih h.2 d hd
    exact this _ q _ mem
  have hI : leafI [.lst ys] [.ref 0, dueD w m] [] = some [0] := by
    have e1 : leafI [.lst ys] [.ref 0, dueD w m] [] = leafI [.lst ys] [dueD w m] [0] := by simp [leafI, O.flat, ny]
    rw [e1]
    have nd := F.due
    unfold dueD at nd ⊢
    simp [leafI, nd]
  refine leaf_ok (r := 0) (xs := ys) (ys := zs) (own := []) hI (by simp [noRefs, noRef]) rfl ?_ nz hpn (by simp only [List.set_cons_zero, allBelow, O.below, noRefs_below _ _ nz, Bool.and_self])
  have er : renDs (inF [0]) [.ref 0, dueD w m] = [.ref 0, dueD w m] := by
    simp only [renDs, renD_free _ F.due, renD, inF]
    rfl
  rw [er]
  refine gz_body_rt rfl ?_
  show S37 (runL T.code 28) [some (.ref 0), some (dueD w m)] [.lst ys] = _
  unfold S37
  have le : b1 bLen (varM 1) (runL T.code 28) [some (.ref 0), some (dueD w m)] [.lst ys] = .ok (nI (cnt w m)) [.lst ys] := gz_b1 (x := dueD w m) (st1 := [.lst ys]) rfl (by
    show Res.ok (D.int (((tabs w m).map pairD).length : Nat)) [O.lst ys] = _
    rw [List.length_map]
    rfl)
  refine gz_seq_rt (gz_ret (gz_op2 (x := dueD w m) (y := nI e) (st1 := [.lst ys]) (st2 := [.lst zs]) rfl (gz_call (xs := [.ref 0, nI (cnt w m)]) (gz_cons (x := .ref 0) rfl (gz_cons le rfl)) rfl ht) ?_))
  show (match L2.atI ((tabs w m).map pairD) (e : Int) with | some d => Res.ok d [O.lst zs] | none => .bad) = _
  rw [L2.atI_nat (v := pairD p) (by rw [List.getElem?_map, hp]; rfl)]
theorem name_of {j : Nat} {p : List Nat × List (Option (Nat × Nat))} (hp : (tabs w m)[j]? = some p) : deedD w m j = .tup [.str (codes "c"), .str p.1] := by
  unfold deedD nameOf
  rw [hp]
abbrev eRow (w m : Nat) (nm : Bool) (t : Option D) : EV.Env := eT w m nm none none none none none t none none
/-- the row is drawn -/
theorem row_walk (F : Facts w m) {t : Option D} {N : Nat} : ∀ (k n fuel : Nat) (o : O) (M : Nat), Bx M o → M + k < 1000000 → k < fuel → n + k = N → ∃ (js : List Nat) (o' : O), js.length = k ∧ (∀ j ∈ js, j < cnt w m) ∧ Bx (M + k) o' ∧
    walk (.items (rangeD 0 N)) (setG 19) (fun env1 s => (yesT (runL T.code 29) env1 s).bind fun b s1 => if b then (tupM (consA (cstM (.str (codes "c"))) (consA (op2M opIx (callM 37 2 (consA (varM 0) (consA (varM 4) nilA))) (cI 0)) nilA)) (runL T.code 29) env1 s1).bind fun x s2 => .ok [x] s2 else .ok [] s1) (wipeE (eRow w m nm t) [19]) fuel n [o] = .ok (js.map (deedD w m)) [o']
  := by
  intro k
  induction k with
  | zero =>
    intro n fuel o M ho hM hf hn
    obtain ⟨fuel, rfl⟩ : ∃ f, fuel = f + 1 := ⟨fuel - 1, by omega⟩
    refine ⟨[], o, rfl, fun j h => (nomatch h), ho, ?_⟩
    unfold walk
    have : EV.It.at_ [o] n (.items (rangeD 0 N)) = some none := by
      show some (rangeD 0 N)[n]? = _
      rw [List.getElem?_eq_none (by rw [(range_ints N 0).1]; omega)]
    rw [this]
    rfl
  | succ k ih =>
    intro n fuel o M ho hM hf hn
    obtain ⟨fuel, rfl⟩ : ∃ f, fuel = f + 1 := ⟨fuel - 1, by omega⟩
    obtain ⟨j, p, o1, hj, hp, b1, hq⟩ := pick_ok F ho (by omega)
    obtain ⟨js, o', hl, hjs, b', hw⟩ := ih (n + 1) fuel o1 (M + 1) b1 (by omega) (by omega) (by omega)
    refine ⟨j :: js, o', by simp [hl], fun i hi => ?_, by rw [show M + (k + 1) = M + 1 + k by omega]; exact b', ?_⟩
    · rcases List.mem_cons.mp hi with rfl | hi
      · exact hj
      · exact hjs i hi
    · have hn' : n < (rangeD 0 N).length := by rw [(range_ints N 0).1]; omega
      have at_ : EV.It.at_ [o] n (.items (rangeD 0 N)) = some (some (rangeD 0 N)[n]) := by
        show some (rangeD 0 N)[n]? = _
        rw [List.getElem?_eq_getElem hn']
      unfold walk
      rw [at_]
      generalize (rangeD 0 N)[n] = dn
      show ((tupM (consA (cstM (.str (codes "c"))) (consA (op2M opIx (callM 37 2 (consA (varM 0) (consA (varM 4) nilA))) (cI 0)) nilA)) (runL T.code 29) ((wipeE (eRow w m nm t) [19]).set 19 (some dn)) [o]).bind _).bind _ = _
      have q : tupM (consA (cstM (.str (codes "c"))) (consA (op2M opIx (callM 37 2 (consA (varM 0) (consA (varM 4) nilA))) (cI 0)) nilA)) (runL T.code 29) ((wipeE (eRow w m nm t) [19]).set 19 (some dn)) [o] = .ok (deedD w m j) [o1] := by
        rw [name_of hp]
        exact gz_tup (gz_cons (x := .str (codes "c")) (st1 := [o]) rfl (gz_cons (gz_op2 (x := pairD p) (y := .int 0) (st1 := [o1]) (st2 := [o1]) (gz_call (xs := [.ref 0, dueD w m]) (st1 := [o]) rfl rfl hq) rfl rfl) rfl)) rfl
      rw [q, bind_okR, bind_okR, hw, bind_okR]
      rfl
theorem row_ok (F : Facts w m) {t : Option D} {o : O} {M : Nat} (ho : Bx M o) (hM : M < 900000) : ∃ (js : List Nat) (o' : O), js.length ≤ 6 ∧ (∀ j ∈ js, j < cnt w m) ∧ Bx (M + 7) o' ∧
    sRow (runL T.code 29) (eRow w m nm t) [o] = .nx (eT w m nm (some (.ref 1)) none none none none t none none) [o', .lst (js.map (deedD w m))] := by
  obtain ⟨e, o1, he, b1, ht⟩ := take0 28 (m := 6) (st := []) (by decide) (by decide) ho (by omega)
  obtain ⟨js, o', hl, hjs, b', hw⟩ := row_walk F (nm := nm) (t := t) (N := 1 + e) (1 + e) 0 wfuel o1 (M + 1) b1 (by omega) (by show 1 + e < 100000; omega) (by omega)
  refine ⟨js, o', by omega, hjs, bx_mono b' (by omega), ?_⟩
  unfold sRow
  refine gz_set (i := 8) (d := .ref 1) (st1 := [o', .lst (js.map (deedD w m))]) ?_
  have ri : rngM1 (consA (op2M opAdd (cI 1) (callM 36 2 (consA (varM 0) (consA (cI 6) nilA)))) nilA) (runL T.code 29) (eRow w m nm t) [o] = .ok (.items (rangeD 0 (1 + e))) [o1] := by
    refine rng1_ok (n := 1 + e) (gz_cons (x := .int ((1 + e : Nat) : Int)) (st1 := [o1]) (gz_op2 (x := .int 1) (y := nI e) (st1 := [o]) (st2 := [o1]) rfl (gz_call (xs := [.ref 0, nI 6]) (st1 := [o]) rfl rfl ht) ?_) rfl) (by omega)
    show Res.ok (D.int (1 + (e : Int))) [o1] = Res.ok (D.int ((1 + e : Nat) : Int)) [o1]
    congr 2
  unfold compM compI
  rw [ri, bind_okR]
  rw [hw]
  show mkLst (js.map (deedD w m)) [o'] = _
  unfold mkLst
  rw [if_pos (Nat.ble_eq.mpr (by show _ ≤ 16777216; simp; omega))]
  rfl
theorem runJ_len : ∀ (js : List Nat) (s : Option Nat × List Nat), (runJ w m s js).2.length ≤ s.2.length + js.length
  | [], s => by simp [runJ]
  | j :: js, s => by
    have h1 := runJ_len js (step1 w m s j)
    have h2 := step1_len (w := w) (m := m) s j
    simp only [runJ, List.length_cons]
    omega
theorem plain_nat (n : Nat) : ∀ ts : List Nat, plainDs n (ts.map nI) = true
  | [] => rfl
  | t :: ts => by
    rw [List.map_cons, plainDs, plain_nat n ts]
    cases n <;> rfl
theorem plain_res {s : Nat} {js : List Nat} (hl : js.length ≤ 6) : plainD 2 (resJ w m s js) = true := by
  have h := runJ_len (w := w) (m := m) js (some s, [])
  unfold resJ
  split
  · rfl
  · next e =>
    rw [e] at h
    simp only [List.length_nil] at h
    simp only [plainD, plainDs, tupT, plain_nat, nI, List.length_cons, List.length_nil, List.length_map, Bool.and_eq_true, Nat.blt_eq]
    refine ⟨by omega, ⟨by omega, trivial, trivial⟩, ⟨by omega, trivial⟩, trivial⟩
end
end K77

-- part HK77m
set_option Elab.async false
set_option linter.all false
set_option maxRecDepth 100000
set_option maxHeartbeats 4000000
namespace K77
open PySem PySem.Spec PyProof.Rows L2 EV EV.Law
section
variable {w m : Nat} {nm : Bool}
theorem noRef_lst {js : List Nat} {o : O} {M : Nat} (ho : Bx M o) : allBelow 2 [o, .lst (js.map (deedD w m))] = true := by
  obtain ⟨ys, rfl, ny⟩ := bx_lst ho
  simp only [allBelow, O.below, noRefs_below _ _ ny, noRefs_below _ _ (noRefs_deeds w m js), Bool.and_self]
/-- what do_row answers is what is due -/
theorem judge_ok (hc : (w, m) ∈ combos) {js : List Nat} (hj : ∀ j ∈ js, j < cnt w m) (hl : js.length ≤ 6) {s : Nat} (hs : s < size w m) {t : Option D} {o : O} {M : Nat} (ho : Bx M o) :
    sJudge (runL T.code 29) (eT w m nm (some (.ref 1)) none none (some (tupT (runJ w m (some s, []) js).2)) (some (hereD (runJ w m (some s, []) js).1)) t (some (nI s)) none) [o, .lst (js.map (deedD w m))] =
      .nx (eT w m nm (some (.ref 1)) none none (some (tupT (runJ w m (some s, []) js).2)) (some (hereD (runJ w m (some s, []) js).1)) t (some (nI s)) none) [o, .lst (js.map (deedD w m))] := by
  have F := facts_of hc
  obtain ⟨own, hd⟩ := do_row_ok hc hj (by omega) hs
  let E : EV.Env := eT w m nm (some (.ref 1)) none none (some (tupT (runJ w m (some s, []) js).2)) (some (hereD (runJ w m (some s, []) js).1)) t (some (nI s)) none
  let st : Sto := [o, .lst (js.map (deedD w m))]
  show sJudge (runL T.code 29) E st = .nx E st
  have nt : noRef (D.tup [nI s]) = true := rfl
  have c1 : callM 33 3 (consA (varM 6) (consA (tupM (consA (varM 17) nilA)) (consA (varM 8) nilA))) (runL T.code 29) E st = .ok (resJ w m s js) st := by
    refine gz_call (xs := [worldD w m, .tup [nI s], .ref 1]) (st1 := st) rfl rfl ?_
    show runL T.code (28 + 1) 33 _ _ = _
    rw [runL_at c33]
    have := leaf_ok (g := bodyF ⟨4, 3, S33⟩ (runL T.code 28)) (ds := [worldD w m, .tup [nI s], .ref 1]) (r := 1) (st := st) (xs := js.map (deedD w m)) (ys := js.map (deedD w m)) (d := resJ w m s js) (own := own) (leafI_last F.world nt rfl (noRefs_deeds w m js)) (by simp [noRefs, noRef]) rfl
      (by
        have e : renDs (inF [1]) [worldD w m, .tup [nI s], .ref 1] = [worldD w m, .tup [nI s], .ref 0] := by
          simp only [renDs, renD_free _ F.world, renD_free _ nt, renD, inF]
          rfl
        rw [e]
        exact hd) (noRefs_deeds w m js) (noRef_res ..) (noRef_lst ho)
    exact this
  have c2 : ifM (blT (op2M opIs (varM 13) nonM)) nonM (tupM (consA (tupM (consA (varM 13) nilA)) (consA (varM 12) nilA))) (runL T.code 29) E st = .ok (resJ w m s js) st := by
    unfold resJ
    show ifM _ _ _ _ (eT w m nm (some (.ref 1)) none none (some (tupT (runJ w m (some s, []) js).2)) (some (hereD (runJ w m (some s, []) js).1)) t (some (nI s)) none) st = _
    split
    · next e => rw [e]; rfl
    · next e => rw [e]; rfl
  have c3 : callM 38 2 (consA (callM 33 3 (consA (varM 6) (consA (tupM (consA (varM 17) nilA)) (consA (varM 8) nilA)))) (consA (ifM (blT (op2M opIs (varM 13) nonM)) nonM (tupM (consA (tupM (consA (varM 13) nilA)) (consA (varM 12) nilA)))) nilA)) (runL T.code 29) E st = .ok (.bl true) st :=
    gz_call (xs := [resJ w m s js, resJ w m s js]) (st1 := st) (gz_cons c1 (gz_cons c2 rfl)) rfl (same_refl c38 2 28 _ st (by omega) (plain_res hl))
  unfold sJudge
  rw [gz_if (not_val c3)]
  rfl
/-- a turn -/
theorem turn_ok (hc : (w, m) ∈ combos) {t : Nat} {o : O} {M : Nat} (ho : Bx M o) (hM : M < 800000) : ∃ o', Bx (M + 8) o' ∧ ownS [8, 9, 10, 11, 12, 13, 14, 15, 17, 18, 19] bTurn (runL T.code 29) (eRow w m nm (some (nI t))) [o] = .nx (eRow w m nm (some (nI t))) [o'] := by
  have F := facts_of hc
  obtain ⟨js, o1, hl, hj, b1, h1⟩ := row_ok (nm := nm) F (t := some (nI t)) ho (by omega)
  obtain ⟨s, o2, hs, b2, h2⟩ := take0 28 (m := size w m) (st := [.lst (js.map (deedD w m))]) F.s0 (by have := F.s1; omega) b1 (by omega)
  refine ⟨o2, bx_mono b2 (by omega), ?_⟩
  have key : bTurn (runL T.code 29) (eRow w m nm (some (nI t))) [o] = .nx (eT w m nm (some (.ref 1)) none none (some (tupT (runJ w m (some s, []) js).2)) (some (hereD (runJ w m (some s, []) js).1)) (some (nI t)) (some (nI s)) none) [o2, .lst (js.map (deedD w m))] := by
    unfold bTurn
    rw [gz_seq_nx h1]
    have h3 : sHere (runL T.code 29) (eT w m nm (some (.ref 1)) none none none none (some (nI t)) none none) [o1, .lst (js.map (deedD w m))] = .nx (eT w m nm (some (.ref 1)) none none (some (tupT [])) (some (nI s)) (some (nI t)) none none) [o2, .lst (js.map (deedD w m))] := by
      unfold sHere par2S
      have a : consA (callM 36 2 (consA (varM 0) (consA (varM 7) nilA))) (consA (tupM nilA) nilA) (runL T.code 29) (eT w m nm (some (.ref 1)) none none none none (some (nI t)) none none) [o1, .lst (js.map (deedD w m))] = .ok [nI s, .tup []] [o2, .lst (js.map (deedD w m))] :=
        gz_cons (gz_call (xs := [.ref 0, nI (size w m)]) (st1 := [o1, .lst (js.map (deedD w m))]) rfl rfl h2) (gz_cons (x := .tup []) rfl rfl)
      rw [a]
      rfl
    rw [gz_seq_nx h3]
    rw [gz_seq_nx (show sStart (runL T.code 29) (eT w m nm (some (.ref 1)) none none (some (tupT [])) (some (nI s)) (some (nI t)) none none) [o2, .lst (js.map (deedD w m))] = .nx (eT w m nm (some (.ref 1)) none none (some (tupT [])) (some (nI s)) (some (nI t)) (some (nI s)) none) [o2, .lst (js.map (deedD w m))] from rfl)]
    obtain ⟨a, b, c, d, B, rfl⟩ := b2
    have wk := walk_go (nm := nm) hc (a := a) (b := b) (c := c) (d := d) hj (t := some (nI t)) (s := s) rfl js 0 wfuel (some s) [] rfl (by simp) (by show js.length < 100000; omega) (by simp; omega) (fun k e => by cases e; exact hs)
    have h4 : sWalk (runL T.code 29) (eT w m nm (some (.ref 1)) none none (some (tupT [])) (some (nI s)) (some (nI t)) (some (nI s)) none) [Box a b c d, .lst (js.map (deedD w m))] = forGo (.list 1) (tupG 2 (consG (setG 18) (consG (setG 9) nilG))) (ownS [9, 11, 18] bStep (runL T.code 29)) wfuel 0 (eT w m nm (some (.ref 1)) none none (some (tupT [])) (some (hereD (some s))) (some (nI t)) (some (nI s)) none) (stoS (Box a b c d) (js.map (deedD w m))) := by
      unfold sWalk
      show forS (itM (varM 8)) (tupG 2 (consG (setG 18) (consG (setG 9) nilG))) (ownS [9, 11, 18] bStep) (runL T.code 29) (eT w m nm (some (.ref 1)) none none (some (tupT [])) (some (nI s)) (some (nI t)) (some (nI s)) none) [Box a b c d, .lst (js.map (deedD w m))] = _
      exact gz_for rfl
    rw [gz_seq_nx (h4.trans wk)]
    rw [show stoS (Box a b c d) (js.map (deedD w m)) = [Box a b c d, .lst (js.map (deedD w m))] from rfl, gz_seq_nx (judge_ok hc hj hl hs ⟨a, b, c, d, B, rfl⟩)]
    rfl
  obtain ⟨ys, rfl, ny⟩ := bx_lst b2
  rw [own_nx key (by
    show (allBelow 1 [.lst ys] && belowE 1 (eT w m nm none none none none none (some (nI t)) none none)) = true
    rw [below_eT F (by decide) rfl rfl rfl rfl rfl rfl rfl rfl]
    simp only [allBelow, O.below, noRefs_below _ _ ny, Bool.and_self])]
  rfl
theorem turns_ok (hc : (w, m) ∈ combos) {o : O} {M : Nat} (ho : Bx M o) (hM : M < 700000) : ∃ o' t, Bx (M + 32) o' ∧ sTurns (runL T.code 29) (eRow w m nm none) [o] = .nx (eRow w m nm t) [o'] := by
  obtain ⟨o1, b1, h1⟩ := turn_ok (nm := nm) (t := 0) hc ho (by omega)
  obtain ⟨o2, b2, h2⟩ := turn_ok (nm := nm) (t := 1) hc b1 (by omega)
  obtain ⟨o3, b3, h3⟩ := turn_ok (nm := nm) (t := 2) hc b2 (by omega)
  obtain ⟨o4, b4, h4⟩ := turn_ok (nm := nm) (t := 3) hc b3 (by omega)
  refine ⟨o4, some (nI 3), b4, ?_⟩
  unfold sTurns
  rw [gz_for (i := .items [nI 0, nI 1, nI 2, nI 3]) (st1 := [o]) rfl]
  show forGo _ _ _ (99995 + 4 + 1) 0 _ _ = _
  rw [gz_go_nx (d := nI 0) rfl rfl h1]
  show forGo _ _ _ (99995 + 3 + 1) 1 _ _ = _
  rw [gz_go_nx (d := nI 1) rfl rfl h2]
  show forGo _ _ _ (99995 + 2 + 1) 2 _ _ = _
  rw [gz_go_nx (d := nI 2) rfl rfl h3]
  show forGo _ _ _ (99995 + 1 + 1) 3 _ _ = _
  rw [gz_go_nx (d := nI 3) rfl rfl h4]
  show forGo _ _ _ (99995 + 0 + 1) 4 _ _ = _
  rw [gz_go_end rfl]
end
theorem part_of {w m : Nat} (h : (w, m) ∈ combos) (nm : Bool) : partA w m nm := by
  simp only [combos, List.mem_cons, Prod.mk.injEq, List.not_mem_nil, _root_.or_false] at h
  rcases h with ⟨rfl, rfl⟩ | ⟨rfl, rfl⟩ | ⟨rfl, rfl⟩ | ⟨rfl, rfl⟩ | ⟨rfl, rfl⟩ | ⟨rfl, rfl⟩ | ⟨rfl, rfl⟩ | ⟨rfl, rfl⟩ | ⟨rfl, rfl⟩ | ⟨rfl, rfl⟩ <;> cases nm
  · exact pa01false
  · exact pa01true
  · exact pa02false
  · exact pa02true
  · exact pa03false
  · exact pa03true
  · exact pa04false
  · exact pa04true
  · exact pa11false
  · exact pa11true
  · exact pa12false
  · exact pa12true
  · exact pa13false
  · exact pa13true
  · exact pa14false
  · exact pa14true
  · exact pa15false
  · exact pa15true
  · exact pa21false
  · exact pa21true
theorem seq_split {p q : S} {Φ : Call} {env e2 : EV.Env} {st s2 : Sto} (h : seqS p q Φ env st = .nx e2 s2) : ∃ e1 s1, p Φ env st = .nx e1 s1 ∧ q Φ e1 s1 = .nx e2 s2 := by
  unfold seqS at h
  cases e : p Φ env st with
  | nx e1 s1 => rw [e] at h; exact ⟨e1, s1, rfl, h⟩
  | _ => rw [e] at h; cases h
/-- _law_table_right -/
theorem table_ok {w m : Nat} (hc : (w, m) ∈ combos) (nm : Bool) {o : O} {M : Nat} (ho : Bx M o) (hM : M < 700000) (st : Sto) (hb : allBelow (st.length + 1) st = true) : ∃ o', Bx (M + 32) o' ∧ runL T.code 30 43 [.ref 0, nI w, nI m, .bl nm] (o :: st) = .ok (.bl true) (o' :: st) := by
  obtain ⟨o', t, b', h⟩ := turns_ok (nm := nm) hc ho hM
  refine ⟨o', b', ?_⟩
  obtain ⟨zs, rfl, nz⟩ := bx_lst b'
  obtain ⟨a, b, c, d, B, rfl⟩ := ho
  show runL T.code (29 + 1) 43 _ _ = _
  rw [runL_at c43]
  refine leaf_ok (r := 0) (xs := [.int a, .bl b, .int c, .int d]) (ys := zs) (own := []) (by simp [leafI, O.flat, noRefs, noRef, Box, nI]) (by simp [noRefs, noRef]) rfl ?_ nz rfl (by
    simp only [List.set_cons_zero, allBelow, O.below, List.length_cons, noRefs_below _ _ nz, hb, Bool.and_self])
  have er : renDs (inF [0]) [.ref 0, nI w, nI m, .bl nm] = [.ref 0, nI w, nI m, .bl nm] := rfl
  rw [er]
  refine gz_body_rt rfl ?_
  have pa := part_of hc nm a b c d
  unfold pA at pa
  obtain ⟨e1, s1, q1, pa⟩ := seq_split pa
  obtain ⟨e2, s2, q2, pa⟩ := seq_split pa
  obtain ⟨e3, s3, q3, pa⟩ := seq_split pa
  obtain ⟨e4, s4, q4, pa⟩ := seq_split pa
  obtain ⟨e5, s5, q5, pa⟩ := seq_split pa
  obtain ⟨e6, s6, q6, pa⟩ := seq_split pa
  have pa : SR.nx e6 s6 = .nx (eA w m nm) [Box a b c d] := pa
  cases pa
  show seqS (p43 0) _ (runL T.code 29) (e0 w m nm) [Box a b c d] = _
  rw [gz_seq_nx q1, gz_seq_nx q2, gz_seq_nx q3, gz_seq_nx q4, gz_seq_nx q5, gz_seq_nx q6]
  rw [gz_seq_nx (show sTurns (runL T.code 29) (eA w m nm) [Box a b c d] = _ from h)]
  exact gz_seq_rt (gz_ret rfl)
end K77

-- part HK77n
set_option Elab.async false
set_option linter.all false
set_option maxRecDepth 1000000
set_option maxHeartbeats 0
namespace K77
open PySem PySem.Spec PyProof.Rows L2 EV EV.Law
/-- the values that are no numbers as asked for; the list is at the third place, the dict at the fourth -/
def valsD (w : Nat) : List D := match w with
  | 0 => [.int 0, .int 5, .int (-1), .int (10 ^ (19 : Int).toNat), .bl true, .bl false, .non, .str [50], .ref 2, .tup [.int 2], .ref 3]
  | _ => [.int 0, .int 6, .int (-1), .int (10 ^ (19 : Int).toNat), .bl true, .bl false, .non, .str [50], .ref 2, .tup [.int 2], .ref 3]
def wlst : O := .lst [.tup [.int 0, .int 4], .tup [.int 1, .int 5], .tup [.int 2, .int 1]]
def pr : SR → Option (EV.Env × Sto)
  | .nx e s => some (wipeE e [7, 8], s.take 5)
  | _ => none
theorem pr_nx {r : SR} {e : EV.Env} {s : Sto} (h : pr r = some (e, s)) : ∃ e1 s1, r = .nx e1 s1 ∧ wipeE e1 [7, 8] = e ∧ s1.take 5 = s := by
  cases r with
  | nx e1 s1 => cases h; exact ⟨_, _, rfl, rfl, rfl⟩
  | _ => cases h
def eV (l k : D) (w mo : Int) (nm : Bool) (ma v : Option D) : EV.Env := [some l, some k, some (.ref 0), some (.bl nm), some (.int w), some (.int mo), ma, v, none]
def stV (bx : O) (w : Nat) : Sto := [bx, wlst, .lst [.int 2], .dct [], .lst (valsD w)]
def valsAll (l k : D) (ma : Option D) (a c d : Int) (b : Bool) (w : Nat) (mo : Int) (nm : Bool) : Prop := ((valsD w).map fun v => pr (bVal (runL T.code 30) (eV l k w mo nm ma (some v)) (stV (Box a b c d) w))) = (valsD w).map fun v => some (eV l k w mo (!nm) ma none, stV (Box a b c d) w)
theorem val0t (l k : D) (ma : Option D) (a c d : Int) (b : Bool) : valsAll l k ma a c d b 0 4 true := by unfold valsAll; kernel_rfl
theorem val0f (l k : D) (ma : Option D) (a c d : Int) (b : Bool) : valsAll l k ma a c d b 0 4 false := by unfold valsAll; kernel_rfl
theorem val1t (l k : D) (ma : Option D) (a c d : Int) (b : Bool) : valsAll l k ma a c d b 1 5 true := by unfold valsAll; kernel_rfl
theorem val1f (l k : D) (ma : Option D) (a c d : Int) (b : Bool) : valsAll l k ma a c d b 1 5 false := by unfold valsAll; kernel_rfl
end K77

-- part HK77p
set_option Elab.async false
set_option linter.all false
set_option maxRecDepth 100000
set_option maxHeartbeats 4000000
namespace K77
open PySem PySem.Spec PyProof.Rows L2 EV EV.Law
section
variable {l k : D}
theorem wlst_below (n : Nat) : allBelow n [wlst] = true := by
  simp [allBelow, wlst, O.below, belows, EV.below]
theorem flip_ok {Φ : Call} {st : Sto} {e0 e1 e2 e4 e5 e6 e7 e8 : Option D} {nm : Bool} : seqS sFlip nilS Φ [e0, e1, e2, some (.bl nm), e4, e5, e6, e7, e8] st = .nx [e0, e1, e2, some (.bl !nm), e4, e5, e6, e7, e8] st := by
  cases nm <;> rfl
theorem many_turn {w m : Nat} (hc : (w, m) ∈ combos) (nm : Bool) {mo : Int} {o : O} {M : Nat} (ho : Bx M o) (hM : M < 700000) : ∃ o', Bx (M + 32) o' ∧ bMany (runL T.code 30) [some l, some k, some (.ref 0), some (.bl nm), some (nI w), some (.int mo), some (nI m), none, none] [o, wlst] = .nx [some l, some k, some (.ref 0), some (.bl !nm), some (nI w), some (.int mo), some (nI m), none, none] [o', wlst] := by
  obtain ⟨o', b', h⟩ := table_ok hc nm ho hM [wlst] (wlst_below _)
  refine ⟨o', b', ?_⟩
  unfold bMany
  have c : callM 43 4 (consA (varM 2) (consA (varM 4) (consA (varM 6) (consA (varM 3) nilA)))) (runL T.code 30) [some l, some k, some (.ref 0), some (.bl nm), some (nI w), some (.int mo), some (nI m), none, none] [o, wlst] = .ok (.bl true) [o', wlst] := gz_call (xs := [.ref 0, nI w, nI m, .bl nm]) (st1 := [o, wlst]) rfl rfl h
  rw [gz_seq_nx (env1 := [some l, some k, some (.ref 0), some (.bl nm), some (nI w), some (.int mo), some (nI m), none, none]) (st1 := [o', wlst]) (by rw [gz_if (not_val c)]; rfl)]
  exact flip_ok
theorem many_go {w : Nat} {mo : Int} {ms : List Nat} (hc : ∀ m ∈ ms, (w, m) ∈ combos) : ∀ (js : List Nat) (n fuel : Nat) (nm : Bool) (ma : Option D) (o : O) (M : Nat), ms.drop n = js → n + js.length = ms.length → js.length < fuel → Bx M o → M + 32 * js.length < 2000 → (∀ i, be1 i ma = true) →
    ∃ o' nm' ma', Bx (M + 32 * js.length) o' ∧ (∀ i, be1 i ma' = true) ∧ forGo (.items (ms.map nI)) (setG 6) (bMany (runL T.code 30)) fuel n [some l, some k, some (.ref 0), some (.bl nm), some (nI w), some (.int mo), ma, none, none] [o, wlst] = .nx [some l, some k, some (.ref 0), some (.bl nm'), some (nI w), some (.int mo), ma', none, none] [o', wlst]
  | [], n, fuel + 1, nm, ma, o, M, hd, hn, hf, ho, hM, hma => by
    refine ⟨o, nm, ma, ho, hma, ?_⟩
    rw [gz_go_end (by
      show some (ms.map nI)[n]? = _
      rw [List.getElem?_eq_none (by simp at hn ⊢; omega)])]
  | j :: js, n, fuel + 1, nm, ma, o, M, hd, hn, hf, ho, hM, hma => by
    have hn' : n < ms.length := by simp at hn; omega
    have ej : ms[n] = j := by
      have := List.drop_eq_getElem_cons hn'
      rw [hd] at this
      exact (List.cons.inj this).1.symm
    have ed : ms.drop (n + 1) = js := by
      have := List.drop_eq_getElem_cons hn'
      rw [hd] at this
      exact (List.cons.inj this).2.symm
    simp only [List.length_cons] at hn hf hM
    obtain ⟨o1, b1, h1⟩ := many_turn (l := l) (k := k) (mo := mo) (hc j (ej ▸ List.getElem_mem hn')) nm ho (by omega)
    obtain ⟨o', nm', ma', b', hb', h'⟩ := many_go hc js (n + 1) fuel (!nm) (some (nI j)) o1 (M + 32) ed (by omega) (by omega) b1 (by omega) (fun _ => rfl)
    refine ⟨o', nm', ma', by rw [show M + 32 * (j :: js).length = M + 32 + 32 * js.length by simp only [List.length_cons]; omega]; exact b', hb', ?_⟩
    rw [gz_go_nx (d := nI j) (by
      show some (ms.map nI)[n]? = _
      rw [List.getElem?_map, List.getElem?_eq_getElem hn', ej]
      rfl) rfl h1]
    exact h'
theorem vals_ok (ma : Option D) (a c d : Int) (b : Bool) {w : Nat} {mo : Int} (hw : (w, mo) ∈ [((0 : Nat), (4 : Int)), (1, 5)]) (nm : Bool) : valsAll l k ma a c d b w mo nm := by
  simp only [List.mem_cons, List.not_mem_nil, _root_.or_false, Prod.mk.injEq] at hw
  rcases hw with ⟨rfl, rfl⟩ | ⟨rfl, rfl⟩ <;> cases nm
  · exact val0f ..
  · exact val0t ..
  · exact val1f ..
  · exact val1t ..
theorem val_turn {ma : Option D} {a c d : Int} {b : Bool} {w : Nat} {mo : Int} (hw : (w, mo) ∈ [((0 : Nat), (4 : Int)), (1, 5)]) (nm : Bool) {v : D} (hv : v ∈ valsD w) (hl : EV.below 5 l = true) (hk : EV.below 5 k = true) (hm : be1 5 ma = true) :
    ownS [7, 8] bVal (runL T.code 30) (eV l k w mo nm ma (some v)) (stV (Box a b c d) w) = .nx (eV l k w mo (!nm) ma none) (stV (Box a b c d) w) := by
  have h := map_at (vals_ok (l := l) (k := k) ma a c d b hw nm) v hv
  obtain ⟨e1, s1, h1, h2, h3⟩ := pr_nx h
  have h4 : s1.take (stV (Box a b c d) w).length = stV (Box a b c d) w := h3
  have hb : allBelow 5 (stV (Box a b c d) w) = true := by
    simp only [List.mem_cons, List.not_mem_nil, _root_.or_false, Prod.mk.injEq] at hw
    rcases hw with ⟨rfl, rfl⟩ | ⟨rfl, rfl⟩ <;> simp [stV, allBelow, Box, wlst, O.below, belows, belowKV, EV.below, valsD]
  rw [own_nx h1 (by
    rw [h2, h4]
    show (allBelow 5 (stV (Box a b c d) w) && belowE 5 (eV l k w mo (!nm) ma none)) = true
    rw [hb]
    unfold eV
    simp only [belowE_cons, be1_some, be1_none, hl, hk, hm, EV.below, Bool.and_self, Bool.and_true, Bool.true_and]
    rfl), h2, h4]
theorem val_go {ma : Option D} {a c d : Int} {b : Bool} {w : Nat} {mo : Int} (hw : (w, mo) ∈ [((0 : Nat), (4 : Int)), (1, 5)]) (hl : EV.below 5 l = true) (hk : EV.below 5 k = true) (hm : be1 5 ma = true) : ∀ (m n fuel : Nat) (nm : Bool), n + m = (valsD w).length → m < fuel →
    ∃ nm', forGo (.list 4) (setG 7) (ownS [7, 8] bVal (runL T.code 30)) fuel n (eV l k w mo nm ma none) (stV (Box a b c d) w) = .nx (eV l k w mo nm' ma none) (stV (Box a b c d) w)
  | 0, n, fuel + 1, nm, h, _ => by
    refine ⟨nm, ?_⟩
    rw [gz_go_end (by
      show some (valsD w)[n]? = _
      rw [List.getElem?_eq_none (by omega)])]
  | m + 1, n, fuel + 1, nm, h, hf => by
    have hn : n < (valsD w).length := by omega
    obtain ⟨nm', ih⟩ := val_go hw hl hk hm m (n + 1) fuel (!nm) (by omega) (by omega)
    refine ⟨nm', ?_⟩
    rw [gz_go_nx (d := (valsD w)[n]) (by
      show some (valsD w)[n]? = _
      rw [List.getElem?_eq_getElem hn]) rfl (val_turn hw nm (List.getElem_mem hn) hl hk hm)]
    exact ih
/-- the list of values -/
theorem vals_made {Φ : Call} {ma : Option D} {a c d : Int} {b : Bool} {w : Nat} {mo : Int} {nm : Bool} (hw : (w, mo) ∈ [((0 : Nat), (4 : Int)), (1, 5)]) :
    itM (ifM (blT (op2M opLt (varM 4) (cI 2))) (lstM vals) (lstM nilA)) Φ (eV l k w mo nm ma none) [Box a b c d, wlst] = .ok (.list 4) (stV (Box a b c d) w) := by
  have p19 : ∀ env st, op2M opPow (cI 10) (cI 19) Φ env st = .ok (.int (10 ^ (19 : Int).toNat)) st := fun env st => gz_op2 (x := .int 10) (y := .int 19) rfl rfl (gz_pow_int (by decide) (by decide) (by decide))
  have m : ∀ n1 : Int, op2M opAdd (varM 5) (cI 1) Φ (eV l k w mo nm ma none) [Box a b c d, wlst] = .ok (.int n1) [Box a b c d, wlst] → vals Φ (eV l k w mo nm ma none) [Box a b c d, wlst] = .ok [.int 0, .int n1, .int (-1), .int (10 ^ (19 : Int).toNat), .bl true, .bl false, .non, .str [50], .ref 2, .tup [.int 2], .ref 3] [Box a b c d, wlst, .lst [.int 2], .dct []] := fun n1 hn => by
    unfold vals
    exact gz_cons (x := .int 0) rfl (gz_cons hn (gz_cons (x := .int (-1)) rfl (gz_cons (p19 _ _) (gz_cons (x := .bl true) rfl (gz_cons (x := .bl false) rfl (gz_cons (x := .non) rfl (gz_cons (x := .str [50]) rfl
      (gz_cons (x := .ref 2) (st1 := [Box a b c d, wlst, .lst [.int 2]]) rfl (gz_cons (x := .tup [.int 2]) rfl (gz_cons (x := .ref 3) (st1 := [Box a b c d, wlst, .lst [.int 2], .dct []]) rfl rfl))))))))))
  simp only [List.mem_cons, List.not_mem_nil, _root_.or_false, Prod.mk.injEq] at hw
  rcases hw with ⟨rfl, rfl⟩ | ⟨rfl, rfl⟩
  · refine gz_it (x := .ref 4) ?_ rfl
    have e : ifM (blT (op2M opLt (varM 4) (cI 2))) (lstM vals) (lstM nilA) Φ (eV l k (0 : Nat) 4 nm ma none) [Box a b c d, wlst] = lstM vals Φ (eV l k (0 : Nat) 4 nm ma none) [Box a b c d, wlst] := rfl
    rw [e]
    exact gz_lst (m 5 rfl) rfl
  · refine gz_it (x := .ref 4) ?_ rfl
    have e : ifM (blT (op2M opLt (varM 4) (cI 2))) (lstM vals) (lstM nilA) Φ (eV l k (1 : Nat) 5 nm ma none) [Box a b c d, wlst] = lstM vals Φ (eV l k (1 : Nat) 5 nm ma none) [Box a b c d, wlst] := rfl
    rw [e]
    exact gz_lst (m 6 rfl) rfl
def eW (l k : D) (nm : Bool) (w mo : Option D) : EV.Env := [some l, some k, some (.ref 0), some (.bl nm), w, mo, none, none, none]
theorem below_eW {n : Nat} {nm : Bool} {w mo : Option D} (hn : 0 < n) (hl : EV.below n l = true) (hk : EV.below n k = true) (hw : be1 n w = true) (hm : be1 n mo = true) : belowE n (eW l k nm w mo) = true := by
  unfold eW
  simp only [belowE_cons, be1_some, be1_none, hl, hk, hw, hm, EV.below, Nat.blt_eq.mpr hn, Bool.and_self, Bool.and_true, Bool.true_and]
  rfl
theorem sMany_ok {w most : Nat} {mo : Int} (hmo : mo = most) (hm2 : most < 10) (hc : ∀ m ∈ (List.range most).map (· + 1), (w, m) ∈ combos) (nm : Bool) {o : O} {M : Nat} (ho : Bx M o) (hM : M < 1000) :
    ∃ o' nm' ma', Bx (M + 320) o' ∧ (∀ i, be1 i ma' = true) ∧ sMany (runL T.code 30) (eW l k nm (some (nI w)) (some (.int mo))) [o, wlst] = .nx [some l, some k, some (.ref 0), some (.bl nm'), some (nI w), some (.int mo), ma', none, none] [o', wlst] := by
  obtain ⟨o', nm', ma', b', hb', h⟩ := many_go (l := l) (k := k) (mo := mo) hc _ 0 wfuel nm none o M rfl (by simp) (by show _ < 100000; simp; omega) ho (by simp; omega) (fun _ => rfl)
  refine ⟨o', nm', ma', bx_mono b' (by simp; omega), hb', ?_⟩
  unfold sMany
  have hr : rngM2 (consA (cI 1) (consA (op2M opAdd (varM 5) (cI 1)) nilA)) (runL T.code 30) (eW l k nm (some (nI w)) (some (.int mo))) [o, wlst] = .ok (.items (((List.range most).map (· + 1)).map nI)) [o, wlst] := by
    have : most = 0 ∨ most = 1 ∨ most = 2 ∨ most = 3 ∨ most = 4 ∨ most = 5 ∨ most = 6 ∨ most = 7 ∨ most = 8 ∨ most = 9 := by omega
    subst hmo
    rcases this with rfl | rfl | rfl | rfl | rfl | rfl | rfl | rfl | rfl | rfl <;> rfl
  rw [gz_for hr]
  exact h
theorem which_turn (hl : ∀ n, EV.below n l = true) (hk : ∀ n, EV.below n k = true) {w most : Nat} (hw : (w, most) ∈ [((0 : Nat), (4 : Nat)), (1, 5), (2, 1)]) (nm : Bool) {o : O} {M : Nat} (ho : Bx M o) (hM : M < 1000) :
    ∃ o' nm', Bx (M + 320) o' ∧ ownS [6, 7, 8] bWhich (runL T.code 30) (eW l k nm (some (nI w)) (some (nI most))) [o, wlst] = .nx (eW l k nm' (some (nI w)) (some (nI most))) [o', wlst] := by
  have hc : ∀ m ∈ (List.range most).map (· + 1), (w, m) ∈ combos := by
    simp only [List.mem_cons, List.not_mem_nil, _root_.or_false, Prod.mk.injEq] at hw
    rcases hw with ⟨rfl, rfl⟩ | ⟨rfl, rfl⟩ | ⟨rfl, rfl⟩ <;> decide
  obtain ⟨o1, nm1, ma, b1, hma, h1⟩ := sMany_ok (l := l) (k := k) (mo := most) rfl (by
    simp only [List.mem_cons, List.not_mem_nil, _root_.or_false, Prod.mk.injEq] at hw
    omega) hc nm ho hM
  -- what the values leave
  have key : ∃ nm2 tl, bWhich (runL T.code 30) (eW l k nm (some (nI w)) (some (nI most))) [o, wlst] = .nx [some l, some k, some (.ref 0), some (.bl nm2), some (nI w), some (nI most), ma, none, none] (o1 :: wlst :: tl) := by
    unfold bWhich
    show ∃ nm2 tl, seqS sMany _ (runL T.code 30) (eW l k nm (some (nI w)) (some (.int most))) [o, wlst] = _
    rw [gz_seq_nx h1]
    by_cases h2 : w = 2
    · subst h2
      have : most = 1 := by simpa using hw
      subst this
      exact ⟨nm1, [.lst []], rfl⟩
    · have hv : (w, (most : Int)) ∈ [((0 : Nat), (4 : Int)), (1, 5)] := by
        simp only [List.mem_cons, List.not_mem_nil, _root_.or_false, Prod.mk.injEq] at hw ⊢
        rcases hw with ⟨rfl, rfl⟩ | ⟨rfl, rfl⟩ | ⟨rfl, rfl⟩
        · exact .inl ⟨rfl, rfl⟩
        · exact .inr ⟨rfl, rfl⟩
        · exact absurd rfl h2
      obtain ⟨a, b, c, d, B, rfl⟩ := b1
      obtain ⟨nm2, hg⟩ := val_go (l := l) (k := k) (ma := ma) (a := a) (b := b) (c := c) (d := d) hv (hl 5) (hk 5) (hma 5) (valsD w).length 0 wfuel nm1 (by omega) (by
        show (valsD w).length < 100000
        unfold valsD
        split <;> simp)
      refine ⟨nm2, [.lst [.int 2], .dct [], .lst (valsD w)], ?_⟩
      have hs : sVal (runL T.code 30) (eV l k w most nm1 ma none) [Box a b c d, wlst] = .nx (eV l k w most nm2 ma none) (stV (Box a b c d) w) := by
        unfold sVal
        rw [gz_for (vals_made hv)]
        exact hg
      show seqS sVal nilS (runL T.code 30) (eV l k w most nm1 ma none) [Box a b c d, wlst] = _
      rw [gz_seq_nx hs]
      rfl
  obtain ⟨nm2, tl, key⟩ := key
  refine ⟨o1, nm2, b1, ?_⟩
  have e1 : (o1 :: wlst :: tl).take [o, wlst].length = [o1, wlst] := rfl
  have e2 : wipeE [some l, some k, some (.ref 0), some (.bl nm2), some (nI w), some (nI most), ma, none, none] [6, 7, 8] = eW l k nm2 (some (nI w)) (some (nI most)) := rfl
  obtain ⟨ys, rfl, ny⟩ := bx_lst b1
  rw [own_nx key (by
    rw [e1, e2]
    show (allBelow 2 [.lst ys, wlst] && belowE 2 (eW l k nm2 (some (nI w)) (some (nI most)))) = true
    rw [below_eW (by decide) (hl 2) (hk 2) rfl rfl]
    simp only [allBelow, O.below, noRefs_below _ _ ny, Bool.true_and, Bool.and_true, wlst]
    rfl), e1, e2]
theorem which_loop (hl : ∀ n, EV.below n l = true) (hk : ∀ n, EV.below n k = true) (nm : Bool) {o : O} (ho : Bx 1 o) :
    ∃ o' nm' w mo, Bx 961 o' ∧ sWhich (runL T.code 30) (eW l k nm none none) [o] = .nx (eW l k nm' w mo) [o', wlst] := by
  obtain ⟨o1, nm1, b1, h1⟩ := which_turn hl hk (w := 0) (most := 4) (by simp) nm ho (by omega)
  obtain ⟨o2, nm2, b2, h2⟩ := which_turn hl hk (w := 1) (most := 5) (by simp) nm1 b1 (by omega)
  obtain ⟨o3, nm3, b3, h3⟩ := which_turn hl hk (w := 2) (most := 1) (by simp) nm2 b2 (by omega)
  refine ⟨o3, nm3, some (nI 2), some (nI 1), b3, ?_⟩
  unfold sWhich
  rw [gz_for (i := .list 1) (st1 := [o, wlst]) rfl]
  show forGo _ _ _ (99996 + 3 + 1) 0 _ _ = _
  rw [gz_go_nx (d := .tup [.int 0, .int 4]) rfl rfl h1]
  show forGo _ _ _ (99996 + 2 + 1) 1 _ _ = _
  rw [gz_go_nx (d := .tup [.int 1, .int 5]) rfl rfl h2]
  show forGo _ _ _ (99996 + 1 + 1) 2 _ _ = _
  rw [gz_go_nx (d := .tup [.int 2, .int 1]) rfl rfl h3]
  show forGo _ _ _ (99996 + 0 + 1) 3 _ _ = _
  rw [gz_go_end rfl]
end
def eK (l : D) (o1 : Option D) : EV.Env := [some l, o1, none, none, none, none, none, none, none]
theorem k_turn {ns : List Int} {k : Int} (h0 : 0 ≤ k) : ownS [2, 3, 4, 5, 6, 7, 8] bK (runL T.code 30) (eK (.lst (ns.map .int)) (some (.int k))) [] = .nx (eK (.lst (ns.map .int)) (some (.int k))) [] := by
  obtain ⟨c, hc⟩ := cell_ok c34 29 ns k h0 []
  obtain ⟨a, b, e, B, hb⟩ := box_ok c35 29 c []
  obtain ⟨f, o1, hf, B', ht⟩ := take0 29 (m := 2) (st := []) (o := Box a b e 0) (M := 0) (by decide) (by decide) ⟨a, b, e, 0, B, rfl⟩ (by decide)
  have hl : ∀ n, EV.below n (.lst (ns.map D.int)) = true := fun n => below_ints n ns
  obtain ⟨nm, hnm⟩ : ∃ nm : Bool, retB (eqD (nI f) (.int 0) [o1]) [o1] = .ok (.bl nm) [o1] := ⟨_, rfl⟩
  obtain ⟨o', nm', w, mo, b', h'⟩ := which_loop (l := .lst (ns.map .int)) (k := .int k) hl (fun _ => rfl) nm B'
  have h : bK (runL T.code 30) (eK (.lst (ns.map .int)) (some (.int k))) [] = .nx (eW (.lst (ns.map .int)) (.int k) nm' w mo) [o', wlst] := by
    unfold bK eK
    have q1 : sBox (runL T.code 30) [some (.lst (ns.map .int)), some (.int k), none, none, none, none, none, none, none] [] = .nx [some (.lst (ns.map .int)), some (.int k), some (.ref 0), none, none, none, none, none, none] [Box a b e 0] := by
      unfold sBox
      exact gz_set (i := 2) (gz_call (xs := [.int c]) (gz_cons (gz_call (xs := [.lst (ns.map .int), .int k]) rfl rfl hc) rfl) rfl hb)
    have q2 : sNam (runL T.code 30) [some (.lst (ns.map .int)), some (.int k), some (.ref 0), none, none, none, none, none, none] [Box a b e 0] = .nx (eW (.lst (ns.map .int)) (.int k) nm none none) [o1] := by
      unfold sNam
      exact gz_set (i := 3) (gz_op2 (x := nI f) (y := .int 0) (gz_call (xs := [.ref 0, nI 2]) rfl rfl ht) rfl hnm)
    rw [gz_seq_nx q1, gz_seq_nx q2, gz_seq_nx h']
    rfl
  rw [own_nx h (by
    show (true && belowE 0 (eK (.lst (ns.map .int)) (some (.int k)))) = true
    simp only [eK, belowE, EV.below, below_ints, Bool.and_self, Bool.true_and])]
  rfl
theorem k_go {ns : List Int} : ∀ (m j : Nat) (fuel n : Nat) (is : List D) (o : Option D), n + m = is.length → (∀ i (h : i < is.length), ∃ z : Int, 0 ≤ z ∧ is[i] = .int z) → m < fuel →
    ∃ o', forGo (.items is) (setG 1) (ownS [2, 3, 4, 5, 6, 7, 8] bK (runL T.code 30)) fuel n (eK (.lst (ns.map .int)) o) [] = .nx (eK (.lst (ns.map .int)) o') []
  | 0, j, fuel + 1, n, is, o, h, hi, _ => ⟨o, gz_go_end (by show some is[n]? = _; rw [List.getElem?_eq_none (by omega)])⟩
  | m + 1, j, fuel + 1, n, is, o, h, hi, hf => by
    have hn : n < is.length := by omega
    obtain ⟨z, hz, ez⟩ := hi n hn
    obtain ⟨o', h'⟩ := k_go (ns := ns) m j fuel (n + 1) is (some (.int z)) (by omega) hi (by omega)
    refine ⟨o', ?_⟩
    rw [gz_go_nx (d := .int z) (env1 := eK (.lst (ns.map .int)) (some (.int z))) (by show some is[n]? = _; rw [List.getElem?_eq_getElem hn, ez]) rfl (k_turn hz)]
    exact h'
theorem law_ok (ns : List Int) (st : Sto) : runL T.code 31 44 [.lst (ns.map .int)] st = .ok (.bl true) st := by
  rw [runL_at c44]
  refine own_val (own := []) (by simp only [noRefs, noRef, noRefs_ints]; rfl) ?_ rfl
  refine gz_body_rt rfl ?_
  show S44 (runL T.code 30) (eK (.lst (ns.map .int)) none) [] = _
  unfold S44
  obtain ⟨N, hN⟩ : ∃ N : Int, N = (if (if (ns.length : Int) < 4 then (ns.length : Int) else 4) > 2 then (if (ns.length : Int) < 4 then (ns.length : Int) else 4) else 2) := ⟨_, rfl⟩
  have N0 : 2 ≤ N := by rw [hN]; split <;> omega
  have N1 : N ≤ 4 := by rw [hN]; repeat' split <;> omega
  have hr : rngM1 (consA (withA bMax (consA (cI 2) (consA (withA bMin (consA (cI 4) (consA (b1 bLen (varM 0)) nilA))) nilA))) nilA) (runL T.code 30) (eK (.lst (ns.map .int)) none) [] = .ok (.items (rangeD 0 N.toNat)) [] := by
    have le : b1 bLen (varM 0) (runL T.code 30) (eK (.lst (ns.map .int)) none) [] = .ok (.int ns.length) [] := gz_b1 (x := .lst (ns.map .int)) (st1 := []) rfl (by show Res.ok (D.int ((ns.map D.int).length : Nat)) [] = _; rw [List.length_map])
    have mi : withA bMin (consA (cI 4) (consA (b1 bLen (varM 0)) nilA)) (runL T.code 30) (eK (.lst (ns.map .int)) none) [] = .ok (.int (if (ns.length : Int) < 4 then (ns.length : Int) else 4)) [] := gz_with (gz_cons (x := .int 4) rfl (gz_cons le rfl)) rfl
    have ma : withA bMax (consA (cI 2) (consA (withA bMin (consA (cI 4) (consA (b1 bLen (varM 0)) nilA))) nilA)) (runL T.code 30) (eK (.lst (ns.map .int)) none) [] = .ok (.int N) [] := by
      rw [hN]
      exact gz_with (gz_cons (x := .int 2) rfl (gz_cons mi rfl)) rfl
    have mc : consA (withA bMax (consA (cI 2) (consA (withA bMin (consA (cI 4) (consA (b1 bLen (varM 0)) nilA))) nilA))) nilA (runL T.code 30) (eK (.lst (ns.map .int)) none) [] = .ok [.int (N.toNat : Int)] [] := by
      rw [Int.toNat_of_nonneg (by omega)]
      exact gz_cons (m := nilA) (xs := []) ma rfl
    exact rng1_ok mc (by omega)
  obtain ⟨l1, l2⟩ := range_ints N.toNat 0
  obtain ⟨o', h⟩ := k_go (ns := ns) N.toNat 0 wfuel 0 (rangeD 0 N.toNat) none (by omega) (l2 (by omega)) (by show N.toNat < 100000; omega)
  rw [gz_seq_nx (env1 := eK (.lst (ns.map .int)) o') (st1 := []) (by
    unfold sK
    rw [gz_for hr]
    exact h)]
  exact gz_seq_rt (gz_ret rfl)
end K77

-- part HK77z
set_option Elab.async false
set_option linter.all false
set_option maxRecDepth 100000
set_option maxHeartbeats 0
open PySem PySem.W PySem.Calls PyProof.Rows
theorem PySem.Challenge.cw_holepartner_k77_other_ready_tables_holds : PySem.Challenge.rw_holepartner_k77_other_ready_tables.Holds := by
  w_on; o_law
  refine HandSHeadRun.head_any (r := OpenLaw.row PySem.Challenge.rw_holepartner_k77_other_ready_tables) (q := view (OpenLaw.row PySem.Challenge.rw_holepartner_k77_other_ready_tables).prog [64]) (H := K77.hk) (ob := K77.ob) (M := 20000) (loose := K77.ls) (d := HandSHeadRun.topDef (OpenLaw.row PySem.Challenge.rw_holepartner_k77_other_ready_tables).prog 64) (kwd := []) K77.ob_eq
    (by kernel_rfl) (fun s => by kernel_rfl) K77.run (by kernel_rfl) (by kernel_rfl) (by kernel_rfl) (by rfl) (by first | assumption | decide +kernel) (by decide +kernel) ⟨rfl, rfl, rfl, rfl, rfl, by decide +kernel⟩ ?hw ?hc
  case hw => w_witness2
  case hc => exact EV.law_end (T := K77.T) (l := PySem.Challenge.rw_holepartner_k77_other_ready_tables) (i := 44) (m := 5) (k := 31) (dl := K77.ft "law" 64 K77.lawN) rfl (by kernel_rfl) ⟨rfl, by decide, by decide⟩ K77.Tok (fun c c0 b h => EV.subOf_lt (n := 7) (f := fun c d => K77.below.contains (c, d)) h) (by rfl) (by kernel_rfl) (by kernel_rfl) (by kernel_rfl) (fun ns _ => K77.law_ok ns [])
