import PyProof.Rows.All
import Wide.All
import OpenK.AllK
import Wide.FinOn
import HandS.ForMost
import HandS.ForExc
import KE.KDictKeyed
import PyProof.NeKinds
import PyProof.SeqIndex
import HandS.Wide
import HandS.TupAny
import HandS.TupMul
import KE.DataCmp
import KE.DataMinMax
import KE.SortData
import PyProof.StrOps2
import HandS.Text
import HandS.Dict
import HandS.AnyAll
import HandS.More
import HandS.Iter
import HandS.Comp
import HandS.Small
import HandS.Style
import HandS.ExcOwn
import HandS.Codes
import HandS.IsInst
import HandS.RaiseMore
import HandS.Zip
import HandS.Conv
import HandS.SetFor
import KE.KTupSum
import KE.GoesMore
import KE.GoesEnum
import HandS.DictComp
import KE.KRevSl
import HandS.Ends
import PySem.Challenge.RW_icerink_k81_whole_one_more
section
set_option autoImplicit false
/-! The core language: pure values, and what the constructs of the programs do on them. -/
namespace Ice

/-- a value without the heap -/
inductive PV where
  | non | bl (b : Bool) | int (i : Int) | str (s : List Nat)
  | tup (xs : List PV) | lst (xs : List PV) | dct (kvs : List (PV × PV)) | fn (f : Nat)
  /-- the law's script -/
  | scr (xs : List PV)
  deriving Inhabited

/-- an end: a value, an error of the class numbered c, or nothing is known -/
inductive R (α : Type) where
  | ok (a : α) | exn (c : Nat) | stuck

def R.bind {α β : Type} (x : R α) (f : α → R β) : R β := match x with
  | .ok a => f a
  | .exn c => .exn c
  | .stuck => .stuck
@[simp] theorem R.ok_bind {α β : Type} (a : α) (f : α → R β) : (R.ok a).bind f = f a := (rfl)
@[simp] theorem R.exn_bind {α β : Type} (c : Nat) (f : α → R β) : (R.exn c : R α).bind f = .exn c := (rfl)
@[simp] theorem R.stuck_bind {α β : Type} (f : α → R β) : (R.stuck : R α).bind f = .stuck := (rfl)
def R.of {α : Type} : Option α → R α
  | some a => .ok a
  | none => .stuck
@[simp] theorem R.of_some {α : Type} (a : α) : R.of (some a) = .ok a := (rfl)
@[simp] theorem R.of_none {α : Type} : (R.of none : R α) = .stuck := (rfl)
/-- an error is not let out -/
def R.calm {α : Type} : R α → R α
  | .exn _ => .stuck
  | x => x
@[simp] theorem R.calm_ok {α : Type} (a : α) : (R.ok a).calm = .ok a := (rfl)

/-! ### equality, order -/
def eqAll (f : PV → PV → Option Bool) : List PV → List PV → Option Bool
  | [], [] => some true
  | x :: xs, y :: ys => match f x y with
    | some true => eqAll f xs ys
    | some false => (eqAll f xs ys).map fun _ => false
    | none => none
  | [], _ :: _ => some false
  | _ :: _, [] => some false
def b2i (b : Bool) : Int := if b then 1 else 0
/-- Python's ==, to a depth -/
def peqF : Nat → PV → PV → Option Bool
  | _, .fn _, _ => none
  | _, _, .fn _ => none
  | _, .scr _, _ => none
  | _, _, .scr _ => none
  | _, .dct _, _ => none
  | _, _, .dct _ => none
  | _, .non, .non => some true
  | _, .bl a, .bl b => some (a == b)
  | _, .bl a, .int j => some (b2i a == j)
  | _, .int i, .bl b => some (i == b2i b)
  | _, .int i, .int j => some (i == j)
  | _, .str x, .str y => some (x == y)
  | 0, .tup _, .tup _ => none
  | 0, .lst _, .lst _ => none
  | n + 1, .tup xs, .tup ys => eqAll (peqF n) xs ys
  | n + 1, .lst xs, .lst ys => eqAll (peqF n) xs ys
  | _, _, _ => some false
abbrev DEEP : Nat := 12
def peq (x y : PV) : Option Bool := peqF DEEP x y

def cmpI (i j : Int) : Ordering := if i < j then .lt else if i = j then .eq else .gt
def cmpN (i j : Nat) : Ordering := if i < j then .lt else if i = j then .eq else .gt
def cmpS : List Nat → List Nat → Ordering
  | [], [] => .eq
  | [], _ :: _ => .lt
  | _ :: _, [] => .gt
  | x :: xs, y :: ys => match cmpN x y with
    | .eq => cmpS xs ys
    | o => o
def cmpAll (f : PV → PV → Ordering) : List PV → List PV → Ordering
  | [], [] => .eq
  | [], _ :: _ => .lt
  | _ :: _, [] => .gt
  | x :: xs, y :: ys => match f x y with
    | .eq => cmpAll f xs ys
    | o => o
def PV.rank : PV → Nat
  | .non => 0 | .bl _ => 1 | .int _ => 1 | .str _ => 2 | .tup _ => 3 | .lst _ => 4 | .dct _ => 5 | .fn _ => 6 | .scr _ => 7
/-- a total order of all values (where Python's < is told, it is this one) -/
def cmpF : Nat → PV → PV → Ordering
  | _, .bl a, .bl b => cmpI (b2i a) (b2i b)
  | _, .bl a, .int j => cmpI (b2i a) j
  | _, .int i, .bl b => cmpI i (b2i b)
  | _, .int i, .int j => cmpI i j
  | _, .str x, .str y => cmpS x y
  | n + 1, .tup xs, .tup ys => cmpAll (cmpF n) xs ys
  | _, x, y => cmpN x.rank y.rank
def okAll (f : PV → PV → Bool) : List PV → List PV → Bool
  | x :: xs, y :: ys => f x y && okAll f xs ys
  | _, _ => true
/-- whether < is told here -/
def okcF : Nat → PV → PV → Bool
  | _, .bl _, .bl _ => true
  | _, .int _, .int _ => true
  | _, .str _, .str _ => true
  | n + 1, .tup xs, .tup ys => okAll (okcF n) xs ys
  | _, _, _ => false
def okc (x y : PV) : Bool := okcF DEEP x y && okcF DEEP x x && okcF DEEP y y
def plt (x y : PV) : Option Bool := if okc x y then some (cmpF DEEP x y == .lt) else none
def ltb (x y : PV) : Bool := cmpF DEEP x y == .lt

/-! ### sizes -/
abbrev LIM : Nat := 16777216
abbrev Out : Type := R (PV × Bool)
def old (p : PV) : Out := .ok (p, false)
def new (p : PV) : Out := .ok (p, true)
@[simp] theorem old_eq (p : PV) : old p = .ok (p, false) := (rfl)
@[simp] theorem new_eq (p : PV) : new p = .ok (p, true) := (rfl)
def guard' (c : Bool) (x : Out) : Out := if c then x else .stuck

/-! ### operations on values -/
def pAdd : PV → PV → Out
  | .int i, .int j => old (.int (i + j))
  | .str a, .str b => if a.length + b.length ≤ LIM then old (.str (a ++ b)) else .stuck
  | .tup a, .tup b => if a.length + b.length ≤ LIM then old (.tup (a ++ b)) else .stuck
  | .lst a, .lst b => if a.length + b.length ≤ LIM then new (.lst (a ++ b)) else .stuck
  | _, _ => .stuck
def pSub : PV → PV → Out
  | .int i, .int j => old (.int (i - j))
  | _, _ => .stuck
abbrev W64 : Int := 18446744073709551616
def small (i : Int) : Bool := decide (-W64 < i) && decide (i < W64)
def reps {α : Type} (xs : List α) (n : Nat) : List α := (List.replicate n xs).flatten
def okRep (l : Nat) (j : Int) : Bool := decide (j ≤ 16777216) && decide (-16777216 ≤ j) && decide (l * j.toNat ≤ LIM)
def pMul : PV → PV → Out
  | .int i, .int j => if small i || small j then old (.int (i * j)) else .stuck
  | .str a, .int j => if okRep a.length j then old (.str (reps a j.toNat)) else .stuck
  | .tup a, .int j => if okRep a.length j then old (.tup (reps a j.toNat)) else .stuck
  | .lst a, .int j => if okRep a.length j then new (.lst (reps a j.toNat)) else .stuck
  | _, _ => .stuck
def pFdiv : PV → PV → Out
  | .int i, .int j => if 0 < j ∧ j < W64 then old (.int (i / j)) else .stuck
  | _, _ => .stuck
def pMod : PV → PV → Out
  | .int i, .int j => if 0 < j then old (.int (i % j)) else .stuck
  | _, _ => .stuck
def pPow : PV → PV → Out
  | .int i, .int j => if 0 ≤ j ∧ j ≤ 1000 ∧ small i then old (.int (i ^ j.toNat)) else .stuck
  | _, _ => .stuck
def pNeg : PV → Out
  | .int i => old (.int (-i))
  | _ => .stuck
def pNot : PV → Out
  | .bl b => old (.bl (!b))
  | _ => .stuck
def ofB (o : Option Bool) : Out := match o with
  | some b => old (.bl b)
  | none => .stuck
@[simp] theorem ofB_some (b : Bool) : ofB (some b) = .ok (.bl b, false) := (rfl)
def pEq (x y : PV) : Out := ofB (peq x y)
def pNe (x y : PV) : Out := ofB ((peq x y).map (!·))
/-- d != {} -/
def pNeD : PV → PV → Out
  | .dct kvs, .dct [] => old (.bl !kvs.isEmpty)
  | _, _ => .stuck
def pLt (x y : PV) : Out := ofB (plt x y)
def pGt (x y : PV) : Out := ofB (plt y x)
def pLe (x y : PV) : Out := ofB ((plt y x).map (!·))
def pGe (x y : PV) : Out := ofB ((plt x y).map (!·))
/-- x in xs -/
def inL (x : PV) : List PV → Option Bool
  | [] => some false
  | y :: ys => match peq y x, inL x ys with
    | some a, some b => some (a || b)
    | _, _ => none
abbrev KVs : Type := List (PV × PV)
def PV.isKey : PV → Bool
  | .int _ => true | .str _ => true | _ => false
/-- == of keys -/
def keq : PV → PV → Option Bool
  | .int i, .int j => some (i == j)
  | .str x, .str y => some (x == y)
  | .int _, .str _ => some false
  | .str _, .int _ => some false
  | .tup xs, .tup ys => peq (.tup xs) (.tup ys)
  | _, _ => none
def dGet (k : PV) : KVs → Option (Option PV)
  | [] => some none
  | (k', v) :: r => match keq k' k with
    | some true => some (some v)
    | some false => dGet k r
    | none => none
def dPut (k v : PV) : KVs → Option KVs
  | [] => some [(k, v)]
  | (k', v') :: r => match keq k' k with
    | some true => some ((k', v) :: r)
    | some false => (dPut k v r).map ((k', v') :: ·)
    | none => none
def dPuts : KVs → KVs → Option KVs
  | d, [] => some d
  | d, (k, v) :: r => match dPut k v d with
    | some d' => dPuts d' r
    | none => none
def pIn (x c : PV) : Option Bool := match c with
  | .tup ys => inL x ys
  | .lst ys => inL x ys
  | .dct kvs => if x.isKey then (dGet x kvs).map Option.isSome else none
  | .str s => match x with
    | .str [c] => some (s.contains c)
    | _ => none
  | _ => none
def pInn (x c : PV) : Out := ofB (pIn x c)
def pNin (x c : PV) : Out := ofB ((pIn x c).map (!·))
/-- the place of an index -/
def ixOf (n : Nat) (i : Int) : Option Nat := if 0 ≤ i then (if i < n then some i.toNat else none) else if -(n : Int) ≤ i then some (i + n).toNat else none
def atIx {α : Type} (xs : List α) (i : Int) : Option α := match ixOf xs.length i with
  | some k => xs[k]?
  | none => none
def pIx : PV → PV → Out
  | .tup xs, .int i => match atIx xs i with | some v => old v | none => .stuck
  | .lst xs, .int i => match atIx xs i with | some v => old v | none => .stuck
  | .str xs, .int i => match atIx xs i with | some c => old (.str [c]) | none => .stuck
  | .dct kvs, k => if k.isKey then (match dGet k kvs with | some (some v) => old v | _ => .stuck) else .stuck
  | _, _ => .stuck
def clampI (n : Nat) (i : Int) : Nat := if i < 0 then (i + n).toNat else min i.toNat n
def cutL {α : Type} (xs : List α) (lo hi : Option Int) : List α :=
  let a := match lo with | some i => clampI xs.length i | none => 0
  let b := match hi with | some i => clampI xs.length i | none => xs.length
  (xs.drop a).take (b - a)
def asI : PV → Option Int
  | .int i => some i
  | _ => none
def pCut (lo hi : Option Int) : PV → Out
  | .tup xs => old (.tup (cutL xs lo hi))
  | .lst xs => new (.lst (cutL xs lo hi))
  | .str xs => old (.str (cutL xs lo hi))
  | _ => .stuck
def pRev : PV → Out
  | .lst xs => new (.lst xs.reverse)
  | _ => .stuck
/-- xs[-2::-1] -/
def pRevT : PV → Out
  | .tup xs => old (.tup xs.reverse)
  | _ => .stuck
def pRev2 : PV → Out
  | .lst xs => new (.lst xs.dropLast.reverse)
  | _ => .stuck
def itemsOf : PV → Option (List PV)
  | .tup xs => some xs
  | .lst xs => some xs
  | .str s => some (s.map fun c => .str [c])
  | .dct kvs => some (kvs.map (·.1))
  | _ => none
def pLen : PV → Out
  | .tup xs => old (.int xs.length)
  | .lst xs => old (.int xs.length)
  | .str xs => old (.int xs.length)
  | .dct xs => old (.int xs.length)
  | _ => .stuck
def sumI : List PV → Option Int
  | [] => some 0
  | .int i :: r => (sumI r).map (i + ·)
  | _ => none
def seqOf : PV → Option (List PV)
  | .tup xs => some xs
  | .lst xs => some xs
  | _ => none
def pSum (x : PV) : Out := match seqOf x with
  | some xs => match sumI xs with | some i => old (.int i) | none => .stuck
  | none => .stuck
def allB : List PV → Option Bool
  | [] => some true
  | .bl b :: r => (allB r).map (b && ·)
  | _ => none
def anyB : List PV → Option Bool
  | [] => some false
  | .bl b :: r => (anyB r).map (b || ·)
  | _ => none
def pAll : PV → Out
  | .lst xs => ofB (allB xs)
  | _ => .stuck
def pAny : PV → Out
  | .lst xs => ofB (anyB xs)
  | _ => .stuck
def okPairs (xs : List PV) : Bool := xs.all fun x => xs.all fun y => okcF DEEP x y
def minL : PV → List PV → PV
  | m, [] => m
  | m, x :: r => minL (if ltb x m then x else m) r
def maxL : PV → List PV → PV
  | m, [] => m
  | m, x :: r => maxL (if ltb m x then x else m) r
def pMin (x : PV) : Out := match seqOf x with
  | some (m :: r) => if okPairs (m :: r) then old (minL m r) else .stuck
  | _ => .stuck
def pMax (x : PV) : Out := match seqOf x with
  | some (m :: r) => if okPairs (m :: r) then old (maxL m r) else .stuck
  | _ => .stuck
def pMin2 : PV → PV → Out
  | .int i, .int j => old (.int (if j < i then j else i))
  | _, _ => .stuck
def pMax2 : PV → PV → Out
  | .int i, .int j => old (.int (if i < j then j else i))
  | _, _ => .stuck
def insS (x : PV) : List PV → List PV
  | [] => [x]
  | y :: r => if ltb x y then x :: y :: r else y :: insS x r
/-- stable -/
def sortP : List PV → List PV
  | [] => []
  | x :: r => insS' x (sortP r)
where insS' (x : PV) : List PV → List PV
  | [] => [x]
  | y :: r => if ltb y x then y :: insS' x r else x :: y :: r
def okSort : PV → Bool
  | .tup [] => false
  | _ => true
def pSorted (x : PV) : Out := match seqOf x with
  | some xs => if okPairs xs && xs.all okSort && decide (xs.length ≤ LIM) then new (.lst (sortP xs)) else .stuck
  | none => .stuck
def intsOf : List PV → Option (List Int)
  | [] => some []
  | .int i :: r => (intsOf r).map (i :: ·)
  | _ => none
/-- without those that come again -/
def nubI : List Int → List Int
  | [] => []
  | x :: r => if r.contains x then nubI r else x :: nubI r
/-- len(set(x)), x a tuple of ints -/
def pLenSet : PV → Out
  | .tup xs => match intsOf xs with
    | some ns => if ns.length ≤ 4000 then old (.int (nubI ns).length) else .stuck
    | none => .stuck
  | _ => .stuck
def pTuple (x : PV) : Out := match seqOf x with
  | some xs => old (.tup xs)
  | none => .stuck
def pList : PV → Out
  | .scr xs => new (.lst xs)
  | .lst xs => new (.lst xs)
  | .tup xs => new (.lst xs)
  | _ => .stuck
def pairOf : PV → Option (PV × PV)
  | .tup [a, b] => if a.isKey then some (a, b) else none
  | _ => none
def pDict : PV → Out
  | .dct kvs => new (.dct kvs)
  | .lst xs => match xs.mapM pairOf with
    | some ps => (match dPuts [] ps with | some d => new (.dct d) | none => .stuck)
    | none => .stuck
  | _ => .stuck
def pInt : PV → Out
  | .int i => old (.int i)
  | .bl b => old (.int (b2i b))
  | _ => .stuck
def pStr : PV → Out
  | .str s => old (.str s)
  | _ => .stuck
def pAbs : PV → Out
  | .int i => old (.int (if i < 0 then -i else i))
  | _ => .stuck
def isInt : PV → Bool | .int _ => true | .bl _ => true | _ => false
def isBool : PV → Bool | .bl _ => true | _ => false
def isStr : PV → Bool | .str _ => true | _ => false
def isTup : PV → Bool | .tup _ => true | _ => false
def isLst : PV → Bool | .lst _ => true | _ => false
def isSeq : PV → Bool | .tup _ => true | .lst _ => true | _ => false
def isDct : PV → Bool | .dct _ => true | _ => false
def isNon : PV → Bool | .non => true | _ => false
def isTrue : PV → Bool | .bl true => true | _ => false
def isFalse : PV → Bool | .bl false => true | _ => false
/-- no def, not the script -/
def PV.dat : PV → Bool | .fn _ => false | .scr _ => false | _ => true
def pIs (f : PV → Bool) (x : PV) : Out := if x.dat then old (.bl (f x)) else .stuck
def pIsN (f : PV → Bool) (x : PV) : Out := if x.dat then old (.bl (!f x)) else .stuck
def indexL (x : PV) : List PV → Option (Option Nat)
  | [] => some none
  | y :: ys => match peq y x, indexL x ys with
    | some true, some _ => some (some 0)
    | some false, some o => some (o.map (· + 1))
    | _, _ => none
def pIndex (x y : PV) : Out := match x with
  | .lst xs => match indexL y xs with | some (some k) => old (.int k) | _ => .stuck
  | _ => .stuck
def pIndexT (x y : PV) : Out := match x with
  | .tup xs => match indexL y xs with | some (some k) => old (.int k) | _ => .stuck
  | _ => .stuck
def strsOf : List PV → Option (List (List Nat))
  | [] => some []
  | .str s :: r => (strsOf r).map (s :: ·)
  | _ => none
def joinS (sep : List Nat) : List (List Nat) → List Nat
  | [] => []
  | [s] => s
  | s :: r => s ++ sep ++ joinS sep r
def joinO (sep : List Nat) (xs : List PV) : Out := match strsOf xs with
  | some ss => if (ss.map List.length).sum + ss.length * sep.length ≤ LIM then old (.str (joinS sep ss)) else .stuck
  | none => .stuck
def pJoin : PV → PV → Out
  | .str sep, .lst xs => joinO sep xs
  | .str sep, .tup xs => joinO sep xs
  | _, _ => .stuck
def splitS (c : Nat) : List Nat → List (List Nat)
  | [] => [[]]
  | x :: r => if x = c then [] :: splitS c r else match splitS c r with
    | [] => [[x]]
    | s :: t => (x :: s) :: t
def pSplit : PV → PV → Out
  | .str s, .str [c] => new (.lst ((splitS c s).map .str))
  | _, _ => .stuck
def pGet2 : PV → PV → Out
  | .dct kvs, k => if k.isKey then (match dGet k kvs with | some o => old (o.getD .non) | none => .stuck) else .stuck
  | _, _ => .stuck
def pGet3 : PV → PV → PV → Out
  | .dct kvs, k, d => if k.isKey then (match dGet k kvs with | some o => old (o.getD d) | none => .stuck) else .stuck
  | _, _, _ => .stuck

def sameAll (f : PV → PV → Bool) : List PV → List PV → Bool
  | [], [] => true
  | x :: xs, y :: ys => f x y && sameAll f xs ys
  | _, _ => false
def sameF : Nat → PV → PV → Bool
  | _, .non, .non => true
  | _, .bl a, .bl b => a == b
  | _, .int i, .int j => i == j
  | _, .str x, .str y => x == y
  | n + 1, .tup xs, .tup ys => sameAll (sameF n) xs ys
  | n + 1, .lst xs, .lst ys => sameAll (sameF n) xs ys
  | _, _, _ => false
/-- repr(x) != repr(y), of what is one -/
def pReprNe (x y : PV) : Out := if sameF DEEP x y then old (.bl false) else .stuck
def pReprEq (x y : PV) : Out := if sameF DEEP x y then old (.bl true) else .stuck

/-! ### slots -/
inductive Slot where
  | un | val (p : PV) | own (p : PV) | lok (p : PV) | par (p : PV)
  /-- a list of lists that nobody else holds -/
  | ow2 (xs : List (List PV))
  /-- a tuple that was made here -/
  | xt (ps : List PV)
  /-- such a list of lists, left alone for a while -/
  | lk2 (xs : List (List PV))
abbrev Env : Type := List Slot
def gS : Env → Nat → Slot
  | [], _ => .un
  | s :: _, 0 => s
  | _ :: r, i + 1 => gS r i
def sS : Env → Nat → Slot → Env
  | [], _, _ => []
  | _ :: r, 0, x => x :: r
  | s :: r, i + 1, x => s :: sS r i x
@[simp] theorem gS_zero (s : Slot) (r : Env) : gS (s :: r) 0 = s := (rfl)
@[simp] theorem gS_succ (s : Slot) (r : Env) (i : Nat) : gS (s :: r) (i + 1) = gS r i := (rfl)
@[simp] theorem sS_zero (s x : Slot) (r : Env) : sS (s :: r) 0 x = x :: r := (rfl)
@[simp] theorem sS_succ (s x : Slot) (r : Env) (i : Nat) : sS (s :: r) (i + 1) x = s :: sS r i x := (rfl)

/-- what a def does: the arguments, some handed on by reference; its value, whether that is new, what these hold then -/
abbrev FE : Type := Nat → List Slot → R (PV × Bool × List Slot)
abbrev Ev : Type := FE → Env → R (PV × Bool × Env)
inductive Opd where
  | ref (i : Nat) | val (p : PV)
  /-- a[k], a list of lists -/
  | ref2 (i k : Nat)
abbrev Op : Type := FE → Env → R (Opd × Env)

def deref (ρ : Env) : Opd → R PV
  | .val p => .ok p
  | .ref i => match gS ρ i with
    | .own p => .ok p
    | .lok p => .ok p
    | .par p => .ok p
    | .val p => .ok p
    | .ow2 _ => .stuck
    | .xt _ => .stuck
    | .lk2 _ => .stuck
    | .un => .stuck
  | .ref2 i k => match gS ρ i with
    | .ow2 xs => match xs[k]? with
      | some ys => .ok (.lst ys)
      | none => .stuck
    | _ => .stuck

/-! ### expressions -/
def oV (i : Nat) : Op := fun _ ρ => match gS ρ i with
  | .val p => .ok (.val p, ρ)
  | .own _ => .ok (.ref i, ρ)
  | .lok _ => .ok (.ref i, ρ)
  | .par _ => .ok (.ref i, ρ)
  | .xt ps => .ok (.val (.tup ps), ρ)
  | _ => .stuck
def oE (d : Ev) : Op := fun F ρ => (d F ρ).bind fun (p, _, ρ') => .ok (.val p, ρ')
/-- a[k], a list of lists that nobody else holds -/
def oS2 (i : Nat) (k : Op) : Op := fun F ρ => (k F ρ).bind fun (x, ρ1) => (deref ρ1 x).bind fun q => match gS ρ1 i, q with
  | .ow2 xs, .int j => match ixOf xs.length j with
    | some n => .ok (.ref2 i n, ρ1)
    | none => .stuck
  | _, _ => .stuck
/-- the list at a[j] -/
def at2 : Slot → PV → Option (List (List PV) × Nat)
  | .ow2 xs, .int j => (ixOf xs.length j).map fun n => (xs, n)
  | _, _ => none
def own2 (i : Nat) (ρ : Env) {α : Type} (x : R α) : R α := match gS ρ i with
  | .ow2 _ => x
  | _ => .stuck
/-- f of the list at a[k] -/
def eS2 (f : PV → Out) (i : Nat) (k : Op) : Ev := fun F ρ => own2 i ρ <| (k F ρ).bind fun (x, ρ1) => (deref ρ1 x).bind fun q => match at2 (gS ρ1 i) q with
  | some (xs, n) => match xs[n]? with
    | some ys => (f (.lst ys)).bind fun (v, m) => .ok (v, m, ρ1)
    | none => .stuck
  | none => .stuck
def pNil (p : PV) : Out := pEq p (.lst [])
def eC (p : PV) : Ev := fun _ ρ => .ok (p, false, ρ)
/-- a name as a value: it is shared from then on -/
def eV (i : Nat) : Ev := fun _ ρ => match gS ρ i with
  | .val p => .ok (p, false, ρ)
  | .own p => .ok (p, false, sS ρ i (.val p))
  | .lok p => .ok (p, false, sS ρ i (.val p))
  | .xt ps => .ok (.tup ps, false, ρ)
  | _ => .stuck
def evs : List Ev → FE → Env → R (List PV × Env)
  | [], _, ρ => .ok ([], ρ)
  | d :: ds, F, ρ => (d F ρ).bind fun (p, _, ρ1) => (evs ds F ρ1).bind fun (ps, ρ2) => .ok (p :: ps, ρ2)
def eT (ds : List Ev) : Ev := fun F ρ => (evs ds F ρ).bind fun (ps, ρ1) => .ok (.tup ps, false, ρ1)
def eL (ds : List Ev) : Ev := fun F ρ => (evs ds F ρ).bind fun (ps, ρ1) => .ok (.lst ps, true, ρ1)
/-- {k: v, ..} -/
def eD : List (Ev × Ev) → Ev := fun kvs F ρ => (evs (kvs.flatMap fun (k, v) => [k, v]) F ρ).bind fun (ps, ρ1) => (mk ps []).bind fun d => .ok (.dct d, true, ρ1)
where mk : List PV → KVs → R KVs
  | k :: v :: r, d => if k.isKey then (match dPut k v d with | some d' => mk r d' | none => .stuck) else .stuck
  | [], d => .ok d
  | _, _ => .stuck
def e1 (f : PV → Out) (a : Op) : Ev := fun F ρ => (a F ρ).bind fun (x, ρ1) => (deref ρ1 x).bind fun p => (f p).bind fun (v, n) => .ok (v, n, ρ1)
def e2 (f : PV → PV → Out) (a b : Op) : Ev := fun F ρ => (a F ρ).bind fun (x, ρ1) => (b F ρ1).bind fun (y, ρ2) =>
  (deref ρ2 x).bind fun p => (deref ρ2 y).bind fun q => (f p q).bind fun (v, n) => .ok (v, n, ρ2)
def e3 (f : PV → PV → PV → Out) (a b c : Op) : Ev := fun F ρ => (a F ρ).bind fun (x, ρ1) => (b F ρ1).bind fun (y, ρ2) => (c F ρ2).bind fun (z, ρ3) =>
  (deref ρ3 x).bind fun p => (deref ρ3 y).bind fun q => (deref ρ3 z).bind fun r => (f p q r).bind fun (v, n) => .ok (v, n, ρ3)
/-- o.m(b): what o is is looked at first -/
def e2g (ok : PV → Bool) (f : PV → PV → Out) (a b : Op) : Ev := fun F ρ => (a F ρ).bind fun (x, ρ1) => (deref ρ1 x).bind fun o => if ok o then (b F ρ1).bind fun (y, ρ2) =>
  (deref ρ2 x).bind fun p => (deref ρ2 y).bind fun q => (f p q).bind fun (v, n) => .ok (v, n, ρ2) else .stuck
def e3g (ok : PV → Bool) (f : PV → PV → PV → Out) (a b c : Op) : Ev := fun F ρ => (a F ρ).bind fun (x, ρ1) => (deref ρ1 x).bind fun o => if ok o then (b F ρ1).bind fun (y, ρ2) => (c F ρ2).bind fun (z, ρ3) =>
  (deref ρ3 x).bind fun p => (deref ρ3 y).bind fun q => (deref ρ3 z).bind fun r => (f p q r).bind fun (v, n) => .ok (v, n, ρ3) else .stuck
/-- a < b < c: c is asked only if the first holds -/
def eCh (f g : PV → PV → Out) (a b c : Op) : Ev := fun F ρ => (a F ρ).bind fun (x, ρ1) => (b F ρ1).bind fun (y, ρ2) =>
  (deref ρ2 x).bind fun p => (deref ρ2 y).bind fun q => (f p q).bind fun (v, _) => match v with
    | .bl true => (c F ρ2).bind fun (z, ρ3) => (deref ρ3 y).bind fun q' => (deref ρ3 z).bind fun r => (g q' r).bind fun (v, n) => .ok (v, n, ρ3)
    | .bl false => .ok (.bl false, false, ρ2)
    | _ => .stuck
/-- a test -/
def tst (d : Ev) (F : FE) (ρ : Env) : R (Bool × Env) := (d F ρ).bind fun (p, _, ρ1) => match p with
  | .bl b => .ok (b, ρ1)
  | _ => .stuck
def eAnd (a b : Ev) : Ev := fun F ρ => (tst a F ρ).bind fun (c, ρ1) => if c then b F ρ1 else .ok (.bl false, false, ρ1)
def eOr (a b : Ev) : Ev := fun F ρ => (tst a F ρ).bind fun (c, ρ1) => if c then .ok (.bl true, false, ρ1) else b F ρ1
def eNot (a : Ev) : Ev := fun F ρ => (tst a F ρ).bind fun (c, ρ1) => .ok (.bl (!c), false, ρ1)
def eIf (c a b : Ev) : Ev := fun F ρ => (tst c F ρ).bind fun (k, ρ1) => if k then a F ρ1 else b F ρ1
def opI : Option Op → FE → Env → R (Option Int × Env)
  | none, _, ρ => .ok (none, ρ)
  | some o, F, ρ => (o F ρ).bind fun (x, ρ1) => (deref ρ1 x).bind fun p => match p with
    | .int i => .ok (some i, ρ1)
    | _ => .stuck
/-- a[lo:hi] -/
def eCut (a : Op) (lo hi : Option Op) : Ev := fun F ρ => (a F ρ).bind fun (x, ρ1) => (opI lo F ρ1).bind fun (i, ρ2) => (opI hi F ρ2).bind fun (j, ρ3) =>
  (deref ρ3 x).bind fun p => (pCut i j p).bind fun (v, n) => .ok (v, n, ρ3)
def ops : List Op → FE → Env → R (List Opd × Env)
  | [], _, ρ => .ok ([], ρ)
  | d :: ds, F, ρ => (d F ρ).bind fun (p, ρ1) => (ops ds F ρ1).bind fun (ps, ρ2) => .ok (p :: ps, ρ2)
/-- an argument: by reference what may be changed -/
def argS (ρ : Env) : Opd → R Slot
  | .val p => .ok (.val p)
  | .ref i => match gS ρ i with
    | .own p => .ok (.own p)
    | .par p => .ok (.own p)
    | _ => .stuck
  | .ref2 _ _ => .stuck
def args (ρ : Env) : List Opd → R (List Slot)
  | [] => .ok []
  | x :: r => (argS ρ x).bind fun s => (args ρ r).bind fun ss => .ok (s :: ss)
def refsOf : List Opd → List Nat
  | [] => []
  | .ref i :: r => i :: refsOf r
  | .val _ :: r => refsOf r
  | .ref2 _ _ :: r => refsOf r
/-- what the names handed on hold behind the call -/
def back : List Opd → List Slot → Env → R Env
  | [], _, ρ => .ok ρ
  | .val _ :: r, _ :: ss, ρ => back r ss ρ
  | .ref i :: r, .par p :: ss, ρ => match gS ρ i with
    | .own _ => back r ss (sS ρ i (.own p))
    | .par _ => back r ss (sS ρ i (.par p))
    | _ => .stuck
  | _, _, _ => .stuck
def nodupN : List Nat → Bool
  | [] => true
  | i :: r => !r.contains i && nodupN r
def callN (f : Nat) (xs : List Opd) (F : FE) (ρ : Env) : R (PV × Bool × Env) :=
  if nodupN (refsOf xs) then (args ρ xs).bind fun ss => (F f ss).bind fun (v, n, outs) => (back xs outs ρ).bind fun ρ' => .ok (v, n, ρ') else .stuck
def eF (f : Nat) (as : List Op) : Ev := fun F ρ => (ops as F ρ).bind fun (xs, ρ1) => callN f xs F ρ1
/-- a call of a def that a name holds -/
def eFV (i : Nat) (as : List Op) : Ev := fun F ρ => match gS ρ i with
  | .val (.fn f) => (ops as F ρ).bind fun (xs, ρ1) => callN f xs F ρ1
  | _ => .stuck
/-- a tuple and tuple(..) of a list that is not empty: a new one, at any rate -/
def eCatT (i : Nat) (d : Op) : Ev := fun F ρ => match gS ρ i with
  | .val (.tup xs) => (d F ρ).bind fun (y, ρ1) => (deref ρ1 y).bind fun q => match q with
    | .lst ys => if !ys.isEmpty && decide (xs.length + ys.length ≤ LIM) then .ok (.tup (xs ++ ys), true, ρ1) else .stuck
    | _ => .stuck
  | .xt xs => (d F ρ).bind fun (y, ρ1) => (deref ρ1 y).bind fun q => match q with
    | .lst ys => if !ys.isEmpty && decide (xs.length + ys.length ≤ LIM) then .ok (.tup (xs ++ ys), true, ρ1) else .stuck
    | _ => .stuck
  | _ => .stuck
/-- the place in a tuple that was made here -/
def eIxT (i : Nat) (b : Op) : Ev := fun F ρ => match gS ρ i with
  | .xt xs => (b F ρ).bind fun (y, ρ1) => (deref ρ1 y).bind fun q => (pIndexT (.tup xs) q).bind fun (v, n) => .ok (v, n, ρ1)
  | _ => .stuck
/-! ### targets, what is walked -/
abbrev Tg : Type := PV → Env → R Env
/-- a name gets a value; one that is walked, or handed in by reference, does not -/
def frS : PV → Slot
  | .tup ps => .xt ps
  | p => .own p
def asg (i : Nat) (p : PV) (fresh : Bool) (ρ : Env) : R Env := match gS ρ i with
  | .lk2 _ => .stuck
  | .lok _ => .stuck
  | .par _ => .stuck
  | .un => .ok (sS ρ i (if fresh then frS p else .val p))
  | .val _ => .ok (sS ρ i (if fresh then frS p else .val p))
  | .own _ => .ok (sS ρ i (if fresh then frS p else .val p))
  | .ow2 _ => .ok (sS ρ i (if fresh then frS p else .val p))
  | .xt _ => .ok (sS ρ i (if fresh then frS p else .val p))
def tgN (i : Nat) : Tg := fun p ρ => asg i p false ρ
def tgAll : List Tg → List PV → Env → R Env
  | [], [], ρ => .ok ρ
  | t :: ts, p :: ps, ρ => (t p ρ).bind fun ρ1 => tgAll ts ps ρ1
  | _, _, _ => .stuck
def tgT (ts : List Tg) : Tg := fun p ρ => match p with
  | .tup ps => tgAll ts ps ρ
  | _ => .stuck
/-- the items, and which name's own object is walked -/
abbrev It : Type := FE → Env → R (List PV × Option Nat × Env)
/-- what a loop may walk -/
def walkOf : PV → Option (List PV)
  | .tup xs => some xs
  | .lst xs => some xs
  | .str s => some (s.map fun c => .str [c])
  | _ => none
def itE (d : Ev) : It := fun F ρ => (d F ρ).bind fun (p, _, ρ1) => (R.of (walkOf p)).bind fun xs => .ok (xs, none, ρ1)
def itV (i : Nat) : It := fun _ ρ => match gS ρ i with
  | .val p => (R.of (walkOf p)).bind fun xs => .ok (xs, none, ρ)
  | .own p => (R.of (walkOf p)).bind fun xs => .ok (xs, some i, sS ρ i (.lok p))
  | .lok p => (R.of (walkOf p)).bind fun xs => .ok (xs, none, ρ)
  | _ => .stuck
def unlock : Option Nat → Env → Env
  | none, ρ => ρ
  | some i, ρ => match gS ρ i with
    | .lok p => sS ρ i (.own p)
    | _ => ρ
def rangeL (lo : Int) (n : Nat) : List PV := (List.range n).map fun (k : Nat) => .int (lo + (k : Int))
abbrev W62 : Int := 4611686018427387904
def okR (i : Int) : Bool := decide (-W62 ≤ i) && decide (i < W62)
def itR1 (a : Op) : It := fun F ρ => (a F ρ).bind fun (x, ρ1) => (deref ρ1 x).bind fun p => match p with
  | .int j => if okR j then .ok (rangeL 0 j.toNat, none, ρ1) else .stuck
  | _ => .stuck
def itR2 (a b : Op) : It := fun F ρ => (a F ρ).bind fun (x, ρ1) => (b F ρ1).bind fun (y, ρ2) => (deref ρ2 x).bind fun p => (deref ρ2 y).bind fun q => match p, q with
  | .int i, .int j => if okR i && okR j then .ok (rangeL i (j - i).toNat, none, ρ2) else .stuck
  | _, _ => .stuck
/-- range(a, b, -1) -/
def itR3 (a b : Op) : It := fun F ρ => (a F ρ).bind fun (x, ρ1) => (b F ρ1).bind fun (y, ρ2) => (deref ρ2 x).bind fun p => (deref ρ2 y).bind fun q => match p, q with
  | .int i, .int j => if okR i && okR j then .ok ((List.range (i - j).toNat).map (fun (k : Nat) => .int (i - (k : Int))), none, ρ2) else .stuck
  | _, _ => .stuck
def zipP : List PV → List PV → List PV
  | x :: xs, y :: ys => .tup [x, y] :: zipP xs ys
  | _, _ => []
def enumP : Nat → List PV → List PV
  | _, [] => []
  | k, x :: xs => .tup [.int k, x] :: enumP (k + 1) xs
def zipV : PV → PV → Option (List PV)
  | .lst xs, .lst ys => some (zipP xs ys)
  | .tup xs, .tup ys => some (zipP xs ys)
  | _, _ => none
def itZ (a b : Ev) : It := fun F ρ => (a F ρ).bind fun (p, _, ρ1) => (b F ρ1).bind fun (q, _, ρ2) => (R.of (zipV p q)).bind fun xs => .ok (xs, none, ρ2)
/-- zip of any two -/
def zipW (p q : PV) : Option (List PV) := match walkOf p, walkOf q with
  | some xs, some ys => some (zipP xs ys)
  | _, _ => none
def itM (a b : Ev) : It := fun F ρ => (a F ρ).bind fun (p, _, ρ1) => (b F ρ1).bind fun (q, _, ρ2) => (R.of (zipW p q)).bind fun xs => .ok (xs, none, ρ2)
/-- enumerate(zip(a, b)) -/
def itEnZ (a b : Ev) : It := fun F ρ => (a F ρ).bind fun (p, _, ρ1) => (b F ρ1).bind fun (q, _, ρ2) => (R.of (itemsOf p)).bind fun xs => (R.of (itemsOf q)).bind fun ys => .ok (enumP 0 (zipP xs ys), none, ρ2)
def itEn (a : Ev) : It := fun F ρ => (a F ρ).bind fun (p, _, ρ1) => (R.of (walkOf p)).bind fun xs => .ok (enumP 0 xs, none, ρ1)
/-- list(range(..)), tuple(range(..)), list(zip(..)) -/
def eItL (it : It) : Ev := fun F ρ => (it F ρ).bind fun (xs, l, ρ1) => if xs.length ≤ LIM then .ok (.lst xs, true, unlock l ρ1) else .stuck
def eItT (it : It) : Ev := fun F ρ => (it F ρ).bind fun (xs, l, ρ1) => if xs.length ≤ LIM then .ok (.tup xs, false, unlock l ρ1) else .stuck
/-! ### comprehensions -/
def wipeS : List Nat → Env → Env
  | [], ρ => ρ
  | i :: r, ρ => wipeS r (sS ρ i .un)
/-- own slots as they were -/
def restS : List Nat → Env → Env → Env
  | [], _, ρ => ρ
  | i :: r, ρ0, ρ => restS r ρ0 (sS ρ i (gS ρ0 i))
def plainS (ρ : Env) : List Nat → Bool
  | [] => true
  | i :: r => (match gS ρ i with | .un => true | .val _ => true | _ => false) && plainS ρ r
def cond? : Option Ev → FE → Env → R (Bool × Env)
  | none, _, ρ => .ok (true, ρ)
  | some d, F, ρ => tst d F ρ
def compL (own : List Nat) (tg : Tg) (c : Option Ev) (el : FE → Env → R (List PV × Env)) (F : FE) : List PV → Env → R (List PV × Env)
  | [], ρ => .ok ([], ρ)
  | x :: xs, ρ => (tg x (wipeS own ρ)).bind fun ρ1 => (cond? c F ρ1).bind fun (k, ρ2) =>
      if k then (el F ρ2).bind fun (ps, ρ3) => (compL own tg c el F xs ρ3).bind fun (qs, ρ4) => .ok (ps ++ qs, ρ4)
      else compL own tg c el F xs ρ2
def elOf (d : Ev) : FE → Env → R (List PV × Env) := fun F ρ => (d F ρ).bind fun (p, _, ρ1) => .ok ([p], ρ1)
def el2 (k v : Ev) : FE → Env → R (List PV × Env) := fun F ρ => (k F ρ).bind fun (p, _, ρ1) => (v F ρ1).bind fun (q, _, ρ2) => .ok ([.tup [p, q]], ρ2)
/-- an inner for of the same comprehension -/
def elIn (it : It) (own : List Nat) (tg : Tg) (c : Option Ev) (el : FE → Env → R (List PV × Env)) : FE → Env → R (List PV × Env) := fun F ρ =>
  (it F ρ).bind fun (xs, l, ρ1) => (compL own tg c el F xs ρ1).bind fun (ps, ρ2) => .ok (ps, unlock l ρ2)
def eComp (own : List Nat) (it : It) (tg : Tg) (c : Option Ev) (el : FE → Env → R (List PV × Env)) (fin : List PV → R PV) : Ev := fun F ρ =>
  (it F ρ).bind fun (xs, l, ρ1) => if plainS ρ1 own then ((compL own tg c el F xs ρ1).bind fun (ps, ρ2) => (fin ps).bind fun v => .ok (v, true, unlock l (restS own ρ1 ρ2))).calm else .stuck
def finL (ps : List PV) : R PV := if ps.length ≤ LIM then .ok (.lst ps) else .stuck
/-- pairs are put in -/
def puts : List PV → KVs → R KVs
  | [], d => .ok d
  | .tup [k, v] :: r, d => if k.isKey then (match dPut k v d with | some d' => puts r d' | none => .stuck) else .stuck
  | _, _ => .stuck
def finDN (n : Nat) (ps : List PV) (d : KVs) : R PV := if n ≤ LIM then (puts ps d).bind fun d' => .ok (.dct d') else .stuck
def finD (ps : List PV) : R PV := finDN ps.length ps []
def eLC (own : List Nat) (it : It) (tg : Tg) (c : Option Ev) (el : Ev) : Ev := eComp own it tg c (elOf el) finL
def eLC2 (own own2 : List Nat) (it : It) (tg : Tg) (it2 : It) (tg2 : Tg) (el : Ev) : Ev := eComp own it tg none (elIn it2 own2 tg2 none (elOf el)) finL
def eLC3 (own own2 own3 : List Nat) (it : It) (tg : Tg) (it2 : It) (tg2 : Tg) (it3 : It) (tg3 : Tg) (el : Ev) : Ev := eComp own it tg none (elIn it2 own2 tg2 none (elIn it3 own3 tg3 none (elOf el))) finL
def eDC (own : List Nat) (it : It) (tg : Tg) (c : Option Ev) (k v : Ev) : Ev := eComp own it tg c (el2 k v) finD
/-! ### what changes a name's own object -/
def chg (i : Nat) (f : PV → R (PV × PV)) (ρ : Env) : R (PV × Env) := match gS ρ i with
  | .own p => (f p).bind fun (v, q) => .ok (v, sS ρ i (.own q))
  | .par p => (f p).bind fun (v, q) => .ok (v, sS ρ i (.par q))
  | _ => .stuck
def mApp (x : PV) : PV → R (PV × PV)
  | .lst xs => if xs.length + 1 ≤ LIM then .ok (.non, .lst (xs ++ [x])) else .stuck
  | _ => .stuck
def mExt (x : PV) : PV → R (PV × PV)
  | .lst xs => match x with
    | .lst ys => if xs.length + ys.length ≤ LIM then .ok (.non, .lst (xs ++ ys)) else .stuck
    | _ => .stuck
  | _ => .stuck
def mSet (k v : PV) : PV → R (PV × PV)
  | .lst xs => match k with
    | .int i => match ixOf xs.length i with | some j => .ok (.non, .lst (xs.set j v)) | none => .stuck
    | _ => .stuck
  | .dct kvs => if k.isKey then (match dPut k v kvs with | some d => if kvs.length < LIM then .ok (.non, .dct d) else .stuck | none => .stuck) else .stuck
  | _ => .stuck
def mUpd (x : PV) : PV → R (PV × PV)
  | .dct kvs => match x with
    | .dct more => match dPuts kvs more with | some d => if d.length ≤ LIM then .ok (.non, .dct d) else .stuck | none => .stuck
    | _ => .stuck
  | _ => .stuck
def mPop0 : PV → R (PV × PV)
  | .lst xs => match xs.getLast? with
    | some x => .ok (x, .lst xs.dropLast)
    | none => .stuck
  | _ => .stuck
def mPop1 (k : PV) : PV → R (PV × PV)
  | .lst xs => match k with
    | .int i => match ixOf xs.length i with | some j => (match xs[j]? with | some x => .ok (x, .lst (xs.eraseIdx j)) | none => .stuck) | none => .stuck
    | _ => .stuck
  | _ => .stuck
/-- the name's own list, own dict, before the rest is evaluated -/
def ownL (i : Nat) (ρ : Env) {α : Type} (x : R α) : R α := match gS ρ i with
  | .own (.lst _) => x
  | .par (.lst _) => x
  | _ => .stuck
def ownD (i : Nat) (ρ : Env) {α : Type} (x : R α) : R α := match gS ρ i with
  | .own (.dct _) => x
  | .par (.dct _) => x
  | _ => .stuck
def ownO (i : Nat) (ρ : Env) {α : Type} (x : R α) : R α := match gS ρ i with
  | .own _ => x
  | .par _ => x
  | _ => .stuck
def ePop0 (i : Nat) : Ev := fun _ ρ => (chg i mPop0 ρ).bind fun (v, ρ1) => .ok (v, false, ρ1)
def ePop1 (i : Nat) (k : Op) : Ev := fun F ρ => ownL i ρ ((k F ρ).bind fun (x, ρ1) => (deref ρ1 x).bind fun q => (chg i (mPop1 q) ρ1).bind fun (v, ρ2) => .ok (v, false, ρ2))
def mRem (x : PV) : PV → R (PV × PV)
  | .lst xs => match x, intsOf xs with
    | .int k, some ns => if k ∈ ns then .ok (.non, .lst ((ns.erase k).map .int)) else .stuck
    | _, _ => .stuck
  | _ => .stuck
/-- a target a[b], b a name -/
def tgS (i j : Nat) : Tg := fun p ρ => match gS ρ j with
  | .val q => (chg i (mSet q p) ρ).bind fun (_, ρ1) => .ok ρ1
  | _ => .stuck
/-! ### statements -/
inductive Flow where
  | nx | rt (p : PV) (fresh : Bool)
abbrev Sx : Type := FE → Env → R (Flow × Env)
def sSeq (a b : Sx) : Sx := fun F ρ => (a F ρ).bind fun (f, ρ1) => match f with
  | .nx => b F ρ1
  | .rt p n => .ok (.rt p n, ρ1)
def sNil : Sx := fun _ ρ => .ok (.nx, ρ)
def blk : List Sx → Sx
  | [] => sNil
  | [s] => s
  | s :: r => sSeq s (blk r)
def nx (x : R Env) : R (Flow × Env) := x.bind fun ρ => .ok (.nx, ρ)
def sAsg (i : Nat) (d : Ev) : Sx := fun F ρ => (d F ρ).bind fun (p, n, ρ1) => nx (asg i p n ρ1)
/-- a, b = e, f -/
def evsF : List Ev → FE → Env → R (List (PV × Bool) × Env)
  | [], _, ρ => .ok ([], ρ)
  | d :: ds, F, ρ => (d F ρ).bind fun (p, n, ρ1) => (evsF ds F ρ1).bind fun (ps, ρ2) => .ok ((p, n) :: ps, ρ2)
def asgs : List Nat → List (PV × Bool) → Env → R Env
  | [], [], ρ => .ok ρ
  | i :: is, (p, n) :: ps, ρ => (asg i p n ρ).bind fun ρ1 => asgs is ps ρ1
  | _, _, _ => .stuck
def sAsgs (is : List Nat) (ds : List Ev) : Sx := fun F ρ => if nodupN is then (evsF ds F ρ).bind fun (ps, ρ1) => nx (asgs is ps ρ1) else .stuck
/-- (a, b) = e -/
def sTg (t : Tg) (d : Ev) : Sx := fun F ρ => (d F ρ).bind fun (p, _, ρ1) => nx (t p ρ1)
def sEx (d : Ev) : Sx := fun F ρ => (d F ρ).bind fun (_, _, ρ1) => .ok (.nx, ρ1)
/-- a[k] = v -/
def sSet (i : Nat) (k : Op) (v : Ev) : Sx := fun F ρ => (v F ρ).bind fun (p, _, ρ1) => ownO i ρ1 ((k F ρ1).bind fun (x, ρ2) => (deref ρ2 x).bind fun q => (chg i (mSet q p) ρ2).bind fun (_, ρ3) => .ok (.nx, ρ3))
/-- a.append(v) -/
def sApp (i : Nat) (v : Ev) : Sx := fun F ρ => ownL i ρ ((v F ρ).bind fun (p, _, ρ1) => (chg i (mApp p) ρ1).bind fun (_, ρ2) => .ok (.nx, ρ2))
/-- a.update(v) -/
def sUpd (i : Nat) (v : Op) : Sx := fun F ρ => ownD i ρ ((v F ρ).bind fun (x, ρ1) => (deref ρ1 x).bind fun p => (chg i (mUpd p) ρ1).bind fun (_, ρ2) => .ok (.nx, ρ2))
/-- a += v, a list -/
def sAug (i : Nat) (v : Op) : Sx := fun F ρ => ownL i ρ ((v F ρ).bind fun (x, ρ1) => (deref ρ1 x).bind fun p => (chg i (mExt p) ρ1).bind fun (_, ρ2) => .ok (.nx, ρ2))
/-- a = [[..] for .. in ..]: lists that nobody else holds -/
def elFr (d : Ev) : FE → Env → R (List PV × Env) := fun F ρ => (d F ρ).bind fun (p, n, ρ1) => match p, n with
  | .lst ys, true => .ok ([.lst ys], ρ1)
  | _, _ => .stuck
def lists : List PV → Option (List (List PV))
  | [] => some []
  | .lst ys :: r => (lists r).map (ys :: ·)
  | _ => none
def sAsg2 (i : Nat) (own : List Nat) (it : It) (tg : Tg) (el : Ev) : Sx := fun F ρ => (eComp own it tg none (elFr el) finL F ρ).bind fun (p, _, ρ1) => match gS ρ1 i, p with
  | .un, .lst xs => (R.of (lists xs)).bind fun yss => .ok (.nx, sS ρ1 i (.ow2 yss))
  | _, _ => .stuck
/-- a[k].append(v), a[k].remove(v) -/
def sSub2 (f : PV → PV → R (PV × PV)) (i : Nat) (k : Op) (v : Ev) : Sx := fun F ρ => own2 i ρ <| (k F ρ).bind fun (x, ρ1) => (deref ρ1 x).bind fun q => match at2 (gS ρ1 i) q with
  | some (xs, n) => (v F (sS ρ1 i (.lk2 xs))).bind fun (p, _, ρ2) => match gS ρ2 i with
    | .lk2 ys => match ys[n]? with
      | some y => (f p (.lst y)).bind fun (_, z) => match z with
        | .lst zs => .ok (.nx, sS ρ2 i (.ow2 (ys.set n zs)))
        | _ => .stuck
      | none => .stuck
    | _ => .stuck
  | none => .stuck
/-- a[k], b = v, w -/
def sIf (c : Ev) (a b : Sx) : Sx := fun F ρ => (tst c F ρ).bind fun (k, ρ1) => if k then a F ρ1 else b F ρ1
def whl (c : Ev) (b : Sx) (F : FE) : Nat → Env → R (Flow × Env)
  | 0, _ => .stuck
  | n + 1, ρ => (tst c F ρ).bind fun (k, ρ1) => if k then (b F ρ1).bind fun (f, ρ2) => (match f with
      | .nx => whl c b F n ρ2
      | .rt p m => .ok (.rt p m, ρ2)) else .ok (.nx, ρ1)
abbrev LONG : Nat := 1048576
def sWhile (c : Ev) (b : Sx) : Sx := fun F ρ => (whl c b F LONG ρ).calm
def forL (tg : Tg) (b : Sx) (F : FE) : List PV → Env → R (Flow × Env)
  | [], ρ => .ok (.nx, ρ)
  | x :: xs, ρ => (tg x ρ).bind fun ρ1 => (b F ρ1).bind fun (f, ρ2) => match f with
    | .nx => forL tg b F xs ρ2
    | .rt p m => .ok (.rt p m, ρ2)
def sFor (it : It) (tg : Tg) (b : Sx) : Sx := fun F ρ => ((it F ρ).bind fun (xs, l, ρ1) => (forL tg b F xs ρ1).bind fun (f, ρ2) => .ok (f, unlock l ρ2)).calm
def sRet (d : Ev) : Sx := fun F ρ => (d F ρ).bind fun (p, n, ρ1) => .ok (.rt p n, ρ1)
/-- return a name: what it owns goes out with it -/
def sRetV (i : Nat) : Sx := fun _ ρ => match gS ρ i with
  | .val p => .ok (.rt p false, ρ)
  | .own p => .ok (.rt p true, sS ρ i .un)
  | .ow2 xs => .ok (.rt (.lst (xs.map .lst)) true, sS ρ i .un)
  | .xt ps => .ok (.rt (.tup ps) true, ρ)
  | _ => .stuck
def sRaise (c : Nat) : Sx := fun _ _ => .exn c
/-! ### defs -/
structure FDef where
  np : Nat
  ns : Nat
  body : Sx
inductive FD where
  | d (x : FDef)
  /-- the word of the error that a call of the first argument, with the others, ends in -/
  | w (tbl : List (Nat × List Nat))
abbrev Tab : Type := Nat → Option FD
def entry (n : Nat) (as : List Slot) : Env := as.map (fun | .own p => Slot.par p | s => s) ++ List.replicate (n - as.length) Slot.un
def outsOf : List Slot → Env → R (List Slot)
  | [], _ => .ok []
  | .own _ :: as, s :: ρ => match s with
    | .par p => (outsOf as ρ).bind fun r => .ok (.par p :: r)
    | _ => .stuck
  | _ :: as, _ :: ρ => (outsOf as ρ).bind fun r => .ok (.un :: r)
  | _, _ => .stuck
def okArg : Slot → Bool
  | .val _ => true
  | .own _ => true
  | _ => false
def runD (d : FDef) (F : FE) (as : List Slot) : R (PV × Bool × List Slot) :=
  if as.length = d.np ∧ as.all okArg ∧ d.np ≤ d.ns then (d.body F (entry d.ns as)).bind fun (f, ρ) => (outsOf as ρ).bind fun outs => match f with
    | .nx => .ok (.non, false, outs)
    | .rt p n => .ok (p, n, outs)
  else .stuck
def wordOf (tbl : List (Nat × List Nat)) (c : Nat) : List Nat := match tbl with
  | [] => [111, 100, 100]
  | (k, s) :: r => if k = c then s else wordOf r c
def runW (tbl : List (Nat × List Nat)) (F : FE) (as : List Slot) : R (PV × Bool × List Slot) := match as with
  | .val (.fn f) :: r => if r.all (fun s => match s with | .val _ => true | _ => false) then match F f r with
    | .ok _ => .ok (.str [], false, as.map fun _ => .un)
    | .exn c => .ok (.str (wordOf tbl c), false, as.map fun _ => .un)
    | .stuck => .stuck else .stuck
  | _ => .stuck
def callF (T : Tab) : Nat → FE
  | 0, _, _ => .stuck
  | n + 1, f, as => match T f with
    | some (.d d) => runD d (callF T n) as
    | some (.w tbl) => runW tbl (callF T n) as
    | none => .stuck
end Ice
end
section
set_option Elab.async false
set_option linter.all false
set_option maxRecDepth 100000
/-! How the pure values lie in the heap. -/
namespace IceS
open PySem PySem.Spec PyProof.Rows L2
open Ice (PV)

/-- what is fixed through the whole law -/
structure Cfg where
  K : PySem.W.Frag
  /-- where the def with this number stands -/
  fnA : Nat → Option Addr
  /-- .. the class of an error -/
  exA : Nat → Option Addr

def Sub (B H : Hp) : Prop := ∀ b o, B b = some o → H b = some o
theorem Sub.refl (B : Hp) : Sub B B := fun _ _ h => h
theorem Sub.trans {A B C : Hp} (h : Sub A B) (k : Sub B C) : Sub A C := fun b o e => k b o (h b o e)
theorem Sub.rd {B H : Hp} (h : Sub B H) {a : Addr} {u : HO} (r : Rd B a u) : Rd H a u := by
  rcases r with r | ⟨o, r⟩
  · exact .inl (h _ _ r)
  · exact .inr ⟨o, h _ _ r⟩
theorem Sub.sqL {K : PySem.W.Frag} {B H : Hp} (h : Sub B H) {a : Addr} {xs : List V} (r : SqL K B a xs) : SqL K H a xs := by
  rcases r with r | r
  · exact .inl (h.rd r)
  · exact .inr r
theorem Sub.sqT {K : PySem.W.Frag} {B H : Hp} (h : Sub B H) {a : Addr} {xs : List V} (r : SqT K B a xs) : SqT K H a xs := by
  rcases r with r | r
  · exact .inl (h.rd r)
  · exact .inr r
theorem Sub.updB {B : Hp} {a : Addr} {o : HO} (h : B a = none) : Sub B (upd B a o) := fun b x e => by rw [upd_ne (ne_of_none e h)]; exact e

/-- the script: known to the object, or an object of the module -/
def ScrAt (K : PySem.W.Frag) (B : Hp) (a : Addr) (vs : List V) : Prop := (∃ o, B a = some (.frz o (.lst vs))) ∨ (∃ o, K.lookup a = some o) ∧ SqL K (fun _ => none) a vs
theorem ScrAt.sqL {K : PySem.W.Frag} {B : Hp} {a : Addr} {vs : List V} (h : ScrAt K B a vs) : SqL K B a vs := by
  rcases h with ⟨o, h⟩ | ⟨_, h⟩
  · exact .inl (.inr ⟨o, h⟩)
  · rcases h with h | h
    · rcases h with h | ⟨o, h⟩ <;> cases h
    · exact .inr h
theorem Sub.scr {K : PySem.W.Frag} {B H : Hp} (h : Sub B H) {a : Addr} {xs : List V} (r : ScrAt K B a xs) : ScrAt K H a xs := by
  rcases r with ⟨o, r⟩ | r
  · exact .inl ⟨o, h _ _ r⟩
  · exact .inr r
/-- a key by value -/
def keyP : Key → PV
  | .inl i => .int i
  | .inr x => .str x.cps.toList

section
variable (G : Cfg) (B : Hp)
mutual
/-- the value v is p; all that p is made of stands in B -/
inductive Rep : V → PV → Prop
  | non : Rep .non .non
  | bl (b : Bool) : Rep (.bl b) (.bl b)
  | int (i : Int) : Rep (.int i) (.int i)
  | str (x : Str) : x.length ≤ sizeLine → Rep (.str x) (.str x.cps.toList)
  | tup {a : Addr} {vs : List V} {ps : List PV} : SqT G.K B a vs → RepL vs ps → Rep (.ref a) (.tup ps)
  | lst {a : Addr} {vs : List V} {ps : List PV} : B a = some (.lst vs) → RepL vs ps → Rep (.ref a) (.lst ps)
  | scr {a : Addr} {vs : List V} {ps : List PV} : ScrAt G.K B a vs → RepL vs ps → Rep (.ref a) (.scr ps)
  | dK {a : Addr} {es : List (Key × V)} {kvs : List (PV × PV)} : B a = some (.dK es) → RepK es kvs → Rep (.ref a) (.dct kvs)
  | fn {a : Addr} {f : Nat} : G.fnA f = some a → Rep (.ref a) (.fn f)
inductive RepL : List V → List PV → Prop
  | nil : RepL [] []
  | cons {v : V} {p : PV} {vs : List V} {ps : List PV} : Rep v p → RepL vs ps → RepL (v :: vs) (p :: ps)
inductive RepK : List (Key × V) → List (PV × PV) → Prop
  | nil : RepK [] []
  | cons {k : Key} {v : V} {p : PV} {es : List (Key × V)} {kvs : List (PV × PV)} : Rep v p → RepK es kvs → RepK ((k, v) :: es) ((keyP k, p) :: kvs)
end
end

section
variable {G : Cfg} {B B' : Hp}
mutual
theorem Rep.mono (h : Sub B B') : ∀ {v : V} {p : PV}, Rep G B v p → Rep G B' v p
  | _, _, .non => .non
  | _, _, .bl b => .bl b
  | _, _, .int i => .int i
  | _, _, .str x h => .str x h
  | _, _, .tup r rl => .tup (h.sqT r) (RepL.mono h rl)
  | _, _, .lst r rl => .lst (h _ _ r) (RepL.mono h rl)
  | _, _, .scr r rl => .scr (h.scr r) (RepL.mono h rl)
  | _, _, .dK r rl => .dK (h _ _ r) (RepK.mono h rl)
  | _, _, .fn e => .fn e
theorem RepL.mono (h : Sub B B') : ∀ {vs : List V} {ps : List PV}, RepL G B vs ps → RepL G B' vs ps
  | _, _, .nil => .nil
  | _, _, .cons r rl => .cons (Rep.mono h r) (RepL.mono h rl)
theorem RepK.mono (h : Sub B B') : ∀ {es : List (Key × V)} {kvs : List (PV × PV)}, RepK G B es kvs → RepK G B' es kvs
  | _, _, .nil => .nil
  | _, _, .cons r rl => .cons (Rep.mono h r) (RepK.mono h rl)
end

theorem RepL.length {vs : List V} {ps : List PV} (h : RepL G B vs ps) : vs.length = ps.length := by
  match h with
  | .nil => rfl
  | .cons _ t => rw [List.length_cons, List.length_cons, t.length]
theorem RepL.append : ∀ {vs us : List V} {ps qs : List PV}, RepL G B vs ps → RepL G B us qs → RepL G B (vs ++ us) (ps ++ qs)
  | _, _, _, _, .nil, k => k
  | _, _, _, _, .cons r t, k => .cons r (RepL.append t k)
theorem RepL.get : ∀ {vs : List V} {ps : List PV} {i : Nat} {p : PV}, RepL G B vs ps → ps[i]? = some p → ∃ v, vs[i]? = some v ∧ Rep G B v p
  | _, _, _, _, .nil, e => by simp at e
  | _, _, 0, _, .cons r _, e => by simp at e; subst e; exact ⟨_, rfl, r⟩
  | _, _, i + 1, _, .cons _ t, e => by
    obtain ⟨v, h1, h2⟩ := RepL.get (i := i) t (by simpa using e)
    exact ⟨v, by simpa using h1, h2⟩
theorem RepL.getV : ∀ {vs : List V} {ps : List PV} {i : Nat} {v : V}, RepL G B vs ps → vs[i]? = some v → ∃ p, ps[i]? = some p ∧ Rep G B v p
  | _, _, _, _, .nil, e => by simp at e
  | _, _, 0, _, .cons r _, e => by simp at e; subst e; exact ⟨_, rfl, r⟩
  | _, _, i + 1, _, .cons _ t, e => by
    obtain ⟨v, h1, h2⟩ := RepL.getV (i := i) t (by simpa using e)
    exact ⟨v, by simpa using h1, h2⟩
theorem RepL.set : ∀ {vs : List V} {ps : List PV} (i : Nat) {v : V} {p : PV}, RepL G B vs ps → Rep G B v p → RepL G B (vs.set i v) (ps.set i p)
  | _, _, _, _, _, .nil, _ => .nil
  | _, _, 0, _, _, .cons _ t, r => .cons r t
  | _, _, i + 1, _, _, .cons q t, r => .cons q (RepL.set i t r)
theorem RepL.take : ∀ {vs : List V} {ps : List PV} (n : Nat), RepL G B vs ps → RepL G B (vs.take n) (ps.take n)
  | _, _, 0, _ => .nil
  | _, _, _ + 1, .nil => .nil
  | _, _, n + 1, .cons r t => .cons r (RepL.take n t)
theorem RepL.drop : ∀ {vs : List V} {ps : List PV} (n : Nat), RepL G B vs ps → RepL G B (vs.drop n) (ps.drop n)
  | _, _, 0, h => h
  | _, _, _ + 1, .nil => .nil
  | _, _, n + 1, .cons _ t => RepL.drop n t
theorem RepL.rev : ∀ {vs : List V} {ps : List PV}, RepL G B vs ps → RepL G B vs.reverse ps.reverse
  | _, _, .nil => .nil
  | _, _, .cons r t => by rw [List.reverse_cons, List.reverse_cons]; exact (RepL.rev t).append (.cons r .nil)
theorem RepL.erase : ∀ {vs : List V} {ps : List PV} (n : Nat), RepL G B vs ps → RepL G B (vs.eraseIdx n) (ps.eraseIdx n)
  | _, _, _, .nil => .nil
  | _, _, 0, .cons _ t => t
  | _, _, n + 1, .cons r t => .cons r (RepL.erase n t)
theorem RepL.reps : ∀ {vs : List V} {ps : List PV} (n : Nat), RepL G B vs ps → RepL G B (List.replicate n vs).flatten (Ice.reps ps n)
  | _, _, 0, _ => .nil
  | vs, ps, n + 1, h => by
    show RepL G B (List.replicate (n + 1) vs).flatten (List.replicate (n + 1) ps).flatten
    rw [List.replicate_succ, List.replicate_succ, List.flatten_cons, List.flatten_cons]
    exact h.append (RepL.reps n h)
theorem RepK.length {es : List (Key × V)} {kvs : List (PV × PV)} (h : RepK G B es kvs) : es.length = kvs.length := by
  match h with
  | .nil => rfl
  | .cons _ t => rw [List.length_cons, List.length_cons, t.length]

/-! ### what nobody else holds -/
/-- at a stands p, its items stand in B; a itself need not -/
inductive ObjR (G : Cfg) (B H : Hp) (a : Addr) : PV → Prop
  | lst {vs : List V} {ps : List PV} : H a = some (.lst vs) → RepL G B vs ps → ObjR G B H a (.lst ps)
  | dK {es : List (Key × V)} {kvs : List (PV × PV)} : H a = some (.dK es) → RepK G B es kvs → ObjR G B H a (.dct kvs)
theorem ObjR.there {H : Hp} {a : Addr} {p : PV} (h : ObjR G B H a p) : ∃ o, H a = some o := by
  cases h with
  | lst e _ => exact ⟨_, e⟩
  | dK e _ => exact ⟨_, e⟩
theorem ObjR.mono {H H' : Hp} {a : Addr} {p : PV} (h : ObjR G B H a p) (hb : Sub B B') (ha : ∀ o, H a = some o → H' a = some o) : ObjR G B' H' a p := by
  cases h with
  | lst e r => exact .lst (ha _ e) (r.mono hb)
  | dK e r => exact .dK (ha _ e) (r.mono hb)
/-- read where it stands -/
theorem ObjR.rep {H : Hp} {a : Addr} {p : PV} (h : ObjR G B H a p) (s : Sub B H) : Rep G H (.ref a) p := by
  cases h with
  | lst e r => exact .lst e (r.mono s)
  | dK e r => exact .dK e (r.mono s)
/-- it is shared from now on -/
theorem ObjR.share {H : Hp} {a : Addr} {p : PV} (h : ObjR G B H a p) (hn : B a = none) {o : HO} (ho : H a = some o) : Rep G (upd B a o) (.ref a) p := by
  cases h with
  | lst e r =>
    rw [e] at ho; cases ho
    exact .lst upd_same (r.mono (Sub.updB hn))
  | dK e r =>
    rw [e] at ho; cases ho
    exact .dK upd_same (r.mono (Sub.updB hn))

/-- lists that nobody else holds -/
inductive SubsR (G : Cfg) (B H : Hp) : List Addr → List (List PV) → Prop
  | nil : SubsR G B H [] []
  | cons {b : Addr} {vs : List V} {ps : List PV} {as : List Addr} {xss : List (List PV)} : B b = none → H b = some (.lst vs) → RepL G B vs ps → SubsR G B H as xss → SubsR G B H (b :: as) (ps :: xss)
theorem SubsR.mono {H H' : Hp} : ∀ {as : List Addr} {xss : List (List PV)}, SubsR G B H as xss → Sub B B' → (∀ a ∈ as, B' a = none) → (∀ a ∈ as, ∀ o, H a = some o → H' a = some o) → SubsR G B' H' as xss
  | _, _, .nil, _, _, _ => .nil
  | _, _, .cons h1 h2 r t, hb, hn, ha => .cons (hn _ List.mem_cons_self) (ha _ List.mem_cons_self _ h2) (r.mono hb) (t.mono hb (fun a q => hn a (List.mem_cons_of_mem _ q)) fun a q => ha a (List.mem_cons_of_mem _ q))
theorem SubsR.some {H : Hp} : ∀ {as : List Addr} {xss : List (List PV)}, SubsR G B H as xss → ∀ a ∈ as, B a = none ∧ ∃ o, H a = some o
  | _, _, .nil, a, ha => by cases ha
  | _, _, .cons h1 h2 r t, a, ha => by
    rcases List.mem_cons.mp ha with e | ha
    · subst e; exact ⟨h1, _, h2⟩
    · exact t.some a ha

/-! ### the slots -/
/-- the slot's value x, and what it owns -/
inductive SlR (G : Cfg) (B H : Hp) : Option V → Ice.Slot → List Addr → Prop
  | un {x : Option V} : SlR G B H x .un []
  | val {v : V} {p : PV} : Rep G B v p → SlR G B H (some v) (.val p) []
  | own {a : Addr} {p : PV} : B a = none → ObjR G B H a p → SlR G B H (some (.ref a)) (.own p) [a]
  | lok {a : Addr} {p : PV} : B a = none → ObjR G B H a p → SlR G B H (some (.ref a)) (.lok p) [a]
  | par {a : Addr} {p : PV} : B a = none → ObjR G B H a p → SlR G B H (some (.ref a)) (.par p) [a]
  | ow2 {a : Addr} {as : List Addr} {xss : List (List PV)} : B a = none → H a = some (.lst (as.map .ref)) → SubsR G B H as xss → (a :: as).Nodup → SlR G B H (some (.ref a)) (.ow2 xss) (a :: as)
  | xt {a : Addr} {vs : List V} {ps : List PV} {o : Obj} : B a = some (.frz o (.tup vs)) → o.dict = none → RepL G B vs ps → SlR G B H (some (.ref a)) (.xt ps) []
  | lk2 {a : Addr} {as : List Addr} {xss : List (List PV)} : B a = none → H a = some (.lst (as.map .ref)) → SubsR G B H as xss → (a :: as).Nodup → SlR G B H (some (.ref a)) (.lk2 xss) (a :: as)

/-- the slot's value -/
def gσ (σ : L2.St) (i : Nat) : Option V := (σ[i]?).join
structure StR (G : Cfg) (B : Hp) (σ : L2.St) (H : Hp) (ρ : Ice.Env) (L : Nat → List Addr) : Prop where
  len : σ.length = ρ.length
  sub : Sub B H
  slot : ∀ i, SlR G B H (gσ σ i) (Ice.gS ρ i) (L i)
  dist : ∀ i j a, a ∈ L i → a ∈ L j → i = j
abbrev Mem (L : Nat → List Addr) (a : Addr) : Prop := ∃ i, a ∈ L i

theorem SlR.own_some {H : Hp} {x : Option V} {s : Ice.Slot} {l : List Addr} (h : SlR G B H x s l) : ∀ a ∈ l, B a = none ∧ ∃ o, H a = some o := by
  cases h with
  | un => intro a ha; cases ha
  | val _ => intro a ha; cases ha
  | own hb ho => intro a ha; rw [List.mem_singleton.mp ha]; exact ⟨hb, ho.there⟩
  | lok hb ho => intro a ha; rw [List.mem_singleton.mp ha]; exact ⟨hb, ho.there⟩
  | par hb ho => intro a ha; rw [List.mem_singleton.mp ha]; exact ⟨hb, ho.there⟩
  | ow2 hb ho t _ =>
    intro a ha
    rcases List.mem_cons.mp ha with e | ha
    · subst e; exact ⟨hb, _, ho⟩
    · exact t.some a ha
  | xt _ _ _ => intro a ha; cases ha
  | lk2 hb ho t _ =>
    intro a ha
    rcases List.mem_cons.mp ha with e | ha
    · subst e; exact ⟨hb, _, ho⟩
    · exact t.some a ha
theorem SlR.mono {H H' : Hp} {x : Option V} {s : Ice.Slot} {l : List Addr} (h : SlR G B H x s l) (hb : Sub B B') (hn : ∀ a ∈ l, B' a = none) (ha : ∀ a ∈ l, ∀ o, H a = some o → H' a = some o) : SlR G B' H' x s l := by
  cases h with
  | un => exact .un
  | val r => exact .val (r.mono hb)
  | own h1 h2 => exact .own (hn _ List.mem_cons_self) (h2.mono hb (ha _ List.mem_cons_self))
  | lok h1 h2 => exact .lok (hn _ List.mem_cons_self) (h2.mono hb (ha _ List.mem_cons_self))
  | par h1 h2 => exact .par (hn _ List.mem_cons_self) (h2.mono hb (ha _ List.mem_cons_self))
  | ow2 h1 h2 t nd => exact .ow2 (hn _ List.mem_cons_self) (ha _ List.mem_cons_self _ h2) (t.mono hb (fun a q => hn a (List.mem_cons_of_mem _ q)) fun a q => ha a (List.mem_cons_of_mem _ q)) nd
  | xt h1 h2 h3 => exact .xt (hb _ _ h1) h2 (h3.mono hb)
  | lk2 h1 h2 t nd => exact .lk2 (hn _ List.mem_cons_self) (ha _ List.mem_cons_self _ h2) (t.mono hb (fun a q => hn a (List.mem_cons_of_mem _ q)) fun a q => ha a (List.mem_cons_of_mem _ q)) nd
theorem StR.own {σ : L2.St} {H : Hp} {ρ : Ice.Env} {L : Nat → List Addr} (S : StR G B σ H ρ L) {a : Addr} (h : Mem L a) : B a = none ∧ ∃ o, H a = some o := by
  obtain ⟨i, hi⟩ := h
  exact (S.slot i).own_some a hi

/-- what changed: M may have been written; what is in sight stays, and comes from what is new or was in T -/
structure Ext (M T : Addr → Prop) (B H B' H' : Hp) : Prop where
  bb : Sub B B'
  hh : ∀ b o, H b = some o → ¬ M b → H' b = some o
  nw : ∀ b o, B' b = some o → B b = none → H b = none ∨ T b
  dm : ∀ b, H' b = none → H b = none
theorem Ext.refl {M T : Addr → Prop} {B H : Hp} : Ext M T B H B H := ⟨Sub.refl _, fun _ _ h _ => h, fun b o h n => (by rw [h] at n; cases n), fun _ h => h⟩
theorem Ext.weak {M M' T T' : Addr → Prop} {B H B' H' : Hp} (h : Ext M T B H B' H') (k : ∀ a, M a → M' a) (l : ∀ a, T a → T' a) : Ext M' T' B H B' H' :=
  ⟨h.bb, fun b o e n => h.hh b o e fun z => n (k b z), fun b o e n => (h.nw b o e n).imp id (l b), h.dm⟩
theorem Ext.trans {M M1 T T1 : Addr → Prop} {B H B1 H1 B2 H2 : Hp} (h : Ext M T B H B1 H1) (k : Ext M1 T1 B1 H1 B2 H2) (hm : ∀ a, M1 a → M a ∨ H a = none) (ht : ∀ a, T1 a → T a ∨ H a = none) : Ext M T B H B2 H2 := by
  refine ⟨h.bb.trans k.bb, fun b o e n => ?_, fun b o e n => ?_, fun b e => h.dm b (k.dm b e)⟩
  · refine k.hh b o (h.hh b o e n) fun z => ?_
    rcases hm b z with z | z
    · exact n z
    · rw [e] at z; cases z
  · cases e1 : B1 b with
    | some o1 => exact h.nw b o1 e1 n
    | none =>
      rcases k.nw b o e e1 with z | z
      · exact .inl (h.dm b z)
      · exact (ht b z).symm
theorem upd_dm {H : Hp} {a : Addr} {o : HO} (b : Addr) (h : upd H a o b = none) : H b = none := by
  by_cases e : b = a
  · subst e; rw [upd_same] at h; cases h
  · rw [upd_ne e] at h; exact h
/-- a new object out of sight -/
theorem Ext.new {M T : Addr → Prop} {B H : Hp} {a : Addr} {o : HO} (hn : H a = none) : Ext M T B H B (upd H a o) :=
  ⟨Sub.refl _, fun b x e _ => by rw [upd_ne (ne_of_none e hn)]; exact e, fun b x e n => (by rw [e] at n; cases n), upd_dm⟩
/-- .. in sight -/
theorem Ext.newV {M T : Addr → Prop} {B H : Hp} {a : Addr} {o : HO} (s : Sub B H) (hn : H a = none) : Ext M T B H (upd B a o) (upd H a o) := by
  have hb : B a = none := by
    cases e : B a with
    | none => rfl
    | some x => rw [s _ _ e] at hn; cases hn
  refine ⟨Sub.updB hb, fun b x e _ => by rw [upd_ne (ne_of_none e hn)]; exact e, fun b x e n => ?_, upd_dm⟩
  by_cases h : b = a
  · subst h; exact .inl hn
  · rw [upd_ne h] at e; rw [e] at n; cases n
theorem Sub.upd2 {B H : Hp} {a : Addr} {o : HO} (s : Sub B H) : Sub (upd B a o) (upd H a o) := fun b x e => by
  by_cases h : b = a
  · subst h; rw [upd_same] at e ⊢; exact e
  · rw [upd_ne h] at e ⊢; exact s _ _ e
theorem Sub.no {B H : Hp} (s : Sub B H) {a : Addr} (h : H a = none) : B a = none := by
  cases e : B a with
  | none => rfl
  | some x => rw [s _ _ e] at h; cases h
theorem Sub.new {B H : Hp} (s : Sub B H) {a : Addr} {o : HO} (h : H a = none) : Sub B (upd H a o) := fun b x e => by
  rw [upd_ne (ne_of_none (s _ _ e) h)]; exact s _ _ e

/-- the slots behind what wrote none of them -/
theorem StR.ext {M T : Addr → Prop} {σ : L2.St} {H B' H' : Hp} {ρ : Ice.Env} {L : Nat → List Addr} (S : StR G B σ H ρ L) (e : Ext M T B H B' H') (hs : Sub B' H') (hm : ∀ a, Mem L a → ¬ M a) (ht : ∀ a, Mem L a → ¬ T a) : StR G B' σ H' ρ L := by
  refine ⟨S.len, hs, fun i => ?_, S.dist⟩
  refine (S.slot i).mono e.bb (fun a ha => ?_) fun a ha o ho => e.hh a o ho (hm a ⟨i, ha⟩)
  obtain ⟨h1, o, h2⟩ := (S.slot i).own_some a ha
  cases q : B' a with
  | none => rfl
  | some x =>
    rcases e.nw a x q h1 with z | z
    · rw [h2] at z; cases z
    · exact absurd z (ht a ⟨i, ha⟩)

/-! ### a result -/
/-- what came out: seen, or new and nobody's -/
inductive Res (G : Cfg) (B' H0 H' : Hp) : V → PV → Bool → Prop
  | old {v : V} {p : PV} : Rep G B' v p → Res G B' H0 H' v p false
  | new {a : Addr} {p : PV} : B' a = none → H0 a = none → ObjR G B' H' a p → Res G B' H0 H' (.ref a) p true
  | xt {a : Addr} {vs : List V} {ps : List PV} {o : Obj} : B' a = some (.frz o (.tup vs)) → o.dict = none → RepL G B' vs ps → Res G B' H0 H' (.ref a) (.tup ps) true
theorem Rep.xt {B : Hp} {a : Addr} {vs : List V} {ps : List PV} {o : Obj} (h : B a = some (.frz o (.tup vs))) (r : RepL G B vs ps) : Rep G B (.ref a) (.tup ps) := .tup (.inl (.inr ⟨_, h⟩)) r
end
end IceS
end
section
set_option Elab.async false
set_option linter.all false
set_option maxRecDepth 100000
/-! == and != of values, to any depth that is told. -/
namespace IceS
open PySem PySem.Spec PyProof.Rows L2 PySem.SeqAt
open Ice (PV)

/-- ==, != and the search's == are told -/
structure Eq3 (A : Around) (s : Shared) (v u : Value) (b : Bool) : Prop where
  rc : RcAt A s v u b
  ne : RcNeAt A s v u (!b)
  eq : EqAt A s v u b
theorem Eq3.cast {A : Around} {s : Shared} {v u : Value} {b b' : Bool} (h : Eq3 A s v u b) (e : b = b') : Eq3 A s v u b' := e ▸ h

theorem str_beq (x y : Str) : (x == y) = (x.cps.toList == y.cps.toList) := by
  cases x with | mk a =>
  cases y with | mk b =>
  rw [Bool.eq_iff_iff]
  simp

section
variable {X : Cx} {pins : List (Addr × Obj)} {σ : L2.St} {H : Hp} {s : Shared} {G : Cfg}

theorem all_true (n : Nat) (f : Nat → Bool) (h : ∀ j, j < n → f j = true) : (List.range n).all f = true := List.all_eq_true.mpr fun j hj => h j (List.mem_range.mp hj)
/-- the items' answers -/
def eqsAt (f : PV → PV → Option Bool) (ps qs : List PV) (j : Nat) : Bool := match ps[j]?, qs[j]? with
  | some p, some q => (f p q).getD false
  | _, _ => false
theorem eqAll_none_nil {f : PV → PV → Option Bool} : ∀ {ps qs : List PV} {b : Bool}, Ice.eqAll f ps qs = some b →
    (∀ (j : Nat) (p q : PV), ps[j]? = some p → qs[j]? = some q → ∃ c, f p q = some c) ∧ b = ((List.range (min ps.length qs.length)).all (eqsAt f ps qs) && ps.length == qs.length)
  | [], [], b, h => by
    cases h
    exact ⟨fun j p q e => by simp at e, rfl⟩
  | [], _ :: _, b, h => by
    cases h
    refine ⟨fun j p q e => by simp at e, ?_⟩
    simp
  | _ :: _, [], b, h => by
    cases h
    refine ⟨fun j p q _ e => by simp at e, ?_⟩
    simp
  | p :: ps, q :: qs, b, h => by
    have step : ∀ (c d : Bool), f p q = some c → Ice.eqAll f ps qs = some d →
        (∀ (j : Nat) (p' q' : PV), (p :: ps)[j]? = some p' → (q :: qs)[j]? = some q' → ∃ c, f p' q' = some c) ∧
        (c && d) = ((List.range (min (p :: ps).length (q :: qs).length)).all (eqsAt f (p :: ps) (q :: qs)) && (p :: ps).length == (q :: qs).length) := by
      intro c d hc hd
      obtain ⟨h1, h2⟩ := eqAll_none_nil hd
      refine ⟨fun j p' q' e1 e2 => ?_, ?_⟩
      · cases j with
        | zero => simp at e1 e2; subst e1; subst e2; exact ⟨c, hc⟩
        | succ j => exact h1 j p' q' (by simpa using e1) (by simpa using e2)
      · have em : min (p :: ps).length (q :: qs).length = min ps.length qs.length + 1 := by simp only [List.length_cons]; omega
        have e0 : eqsAt f (p :: ps) (q :: qs) 0 = c := by show (f p q).getD false = c; rw [hc]; rfl
        have es : ∀ j, eqsAt f (p :: ps) (q :: qs) (j + 1) = eqsAt f ps qs j := fun j => by
          unfold eqsAt
          rw [List.getElem?_cons_succ, List.getElem?_cons_succ]
        have ea : (List.range (min ps.length qs.length + 1)).all (eqsAt f (p :: ps) (q :: qs)) = (c && (List.range (min ps.length qs.length)).all (eqsAt f ps qs)) := by
          rw [List.range_succ_eq_map, List.all_cons, e0, List.all_map]
          congr 2
        have el : ((p :: ps).length == (q :: qs).length) = (ps.length == qs.length) := by
          rw [Bool.eq_iff_iff]
          simp
        rw [em, ea, el, h2, Bool.and_assoc]
    unfold Ice.eqAll at h
    cases hc : f p q with
    | none => rw [hc] at h; cases h
    | some c =>
      rw [hc] at h
      cases c with
      | true =>
        have := step true b hc h
        simpa using this
      | false =>
        have h' : (Ice.eqAll f ps qs).map (fun _ => false) = some b := h
        cases hd : Ice.eqAll f ps qs with
        | none => rw [hd] at h'; cases h'
        | some d =>
          rw [hd] at h'
          cases h'
          have := step false d hc hd
          simpa using this

theorem peqF_scr (n : Nat) (xs : List PV) (q : PV) : Ice.peqF n (.scr xs) q = none := by cases n <;> cases q <;> rfl
theorem peqF_dct (n : Nat) (xs : List (PV × PV)) (q : PV) : Ice.peqF n (.dct xs) q = none := by cases n <;> cases q <;> rfl
theorem peqF_fn (n : Nat) (f : Nat) (q : PV) : Ice.peqF n (.fn f) q = none := by cases n <;> cases q <;> rfl
theorem peqF_scr2 (n : Nat) (xs : List PV) (q : PV) : Ice.peqF n q (.scr xs) = none := by cases n <;> cases q <;> rfl
theorem peqF_dct2 (n : Nat) (xs : List (PV × PV)) (q : PV) : Ice.peqF n q (.dct xs) = none := by cases n <;> cases q <;> rfl
theorem peqF_fn2 (n : Nat) (f : Nat) (q : PV) : Ice.peqF n q (.fn f) = none := by cases n <;> cases q <;> rfl
/-- no tuple is a list -/
theorem tup_lst (I : Inv X pins σ H s) (hK : X.K = G.K) {a : Addr} {vs us : List V} (t1 : SqT G.K H a vs) (t2 : H a = some (.lst us)) : False := by
  obtain ⟨_, _, ⟨o, e1, c1, _⟩, _⟩ := I.tuple (by rw [hK]; exact t1)
  obtain ⟨_, _, ⟨o', n', e2, c2, _⟩, _⟩ := I.list (SqL.of t2)
  rw [e1] at e2; cases e2
  rw [c1] at c2
  exact absurd (Value.type.inj c2) (by decide)
/-- what a tuple, a list reads -/
theorem Rep.tupAt (I : Inv X pins σ H s) (hK : X.K = G.K) {a : Addr} {ps : List PV} (h : Rep G H (.ref a) (.tup ps)) : ∃ (vs : List V) (its : List Value), RepL G H vs ps ∧ Vals vs its ∧ s.heap.IsTuple a its.toArray := by
  cases h with
  | tup h1 h2 =>
    obtain ⟨its, r, p, _⟩ := I.tuple (by rw [hK]; exact h1)
    exact ⟨_, its, h2, r, p⟩
theorem Rep.lstAt (I : Inv X pins σ H s) (hK : X.K = G.K) {a : Addr} {ps : List PV} (h : Rep G H (.ref a) (.lst ps)) : ∃ (vs : List V) (its : List Value), RepL G H vs ps ∧ Vals vs its ∧ s.heap.IsList a its.toArray := by
  cases h with
  | lst h1 h2 =>
    obtain ⟨its, r, p, _⟩ := I.list (SqL.of h1)
    exact ⟨_, its, h2, r, p.isList⟩
theorem items_eq {f : PV → PV → Option Bool} {A : Around} (ih : ∀ (p q : PV) (b : Bool), f p q = some b → ∀ (x y : V) (v u : Value), Rep G H x p → Rep G H y q → RelV x v → RelV y u → EqAt A s v u b)
    {ps qs : List PV} {vs us : List V} {i1 i2 : List Value} (r1 : RepL G H vs ps) (r2 : RepL G H us qs) (w1 : Vals vs i1) (w2 : Vals us i2) (h : ∀ (j : Nat) (p q : PV), ps[j]? = some p → qs[j]? = some q → ∃ c, f p q = some c) :
    ∀ j (h1 : j < i1.toArray.size) (h2 : j < i2.toArray.size), EqAt A s i1.toArray[j] i2.toArray[j] (eqsAt f ps qs j) := by
  intro j h1 h2
  have l1 := r1.length
  have l2 := r2.length
  have m1 := w1.length
  have m2 := w2.length
  have g1 : j < ps.length := by simp at h1; omega
  have g2 : j < qs.length := by simp at h2; omega
  obtain ⟨x, hx, rx⟩ := r1.get (List.getElem?_eq_getElem g1)
  obtain ⟨y, hy, ry⟩ := r2.get (List.getElem?_eq_getElem g2)
  obtain ⟨v, hv, rv⟩ := w1.get hx
  obtain ⟨u, hu, ru⟩ := w2.get hy
  obtain ⟨c, hc⟩ := h j _ _ (List.getElem?_eq_getElem g1) (List.getElem?_eq_getElem g2)
  have e1 : i1.toArray[j] = v := by
    have := (List.getElem?_eq_some_iff.mp hv).2
    simpa using this
  have e2 : i2.toArray[j] = u := by
    have := (List.getElem?_eq_some_iff.mp hu).2
    simpa using this
  have e3 : eqsAt f ps qs j = c := by
    unfold eqsAt
    rw [List.getElem?_eq_getElem g1, List.getElem?_eq_getElem g2]
    show (f _ _).getD false = c
    rw [hc] <;> rfl
  rw [e1, e2, e3]
  exact ih _ _ c hc x y v u rx ry rv ru
/-- two tuples -/
theorem eq3_tup {f : PV → PV → Option Bool} {A : Around} (hu : A.units < cLine) (ih : ∀ (p q : PV) (b : Bool), f p q = some b → ∀ (x y : V) (v u : Value), Rep G H x p → Rep G H y q → RelV x v → RelV y u → EqAt A.in1 s v u b)
    {ps qs : List PV} {vs us : List V} {i1 i2 : List Value} {a b : Addr} {c : Bool} (r1 : RepL G H vs ps) (r2 : RepL G H us qs) (w1 : Vals vs i1) (w2 : Vals us i2) (t1 : s.heap.IsTuple a i1.toArray) (t2 : s.heap.IsTuple b i2.toArray)
    (h : Ice.eqAll f ps qs = some c) (ref : a = b → c = true) : Eq3 A s (.ref a) (.ref b) c := by
  obtain ⟨h1, h2⟩ := eqAll_none_nil h
  have he := items_eq ih r1 r2 w1 w2 h1
  have l1 : i1.toArray.size = ps.length := by rw [List.size_toArray, ← w1.length, r1.length]
  have l2 : i2.toArray.size = qs.length := by rw [List.size_toArray, ← w2.length, r2.length]
  have rc : RcAt A s (.ref a) (.ref b) c := by
    have q := RcAt.tuples t1 t2 hu he
    rw [l1, l2, ← h2] at q
    exact q
  have ne : RcNeAt A s (.ref a) (.ref b) (!c) := by
    have q := RcNeAt.tuples t1 t2 hu he
    rw [l1, l2, ← h2] at q
    exact q
  refine ⟨rc, ne, ?_⟩
  by_cases e : a = b
  · subst e
    rw [ref rfl]
    exact EqAt.same _
  · exact EqAt.of_refs e rc
theorem eq3_lst {f : PV → PV → Option Bool} {A : Around} (hu : A.units < cLine) (ih : ∀ (p q : PV) (b : Bool), f p q = some b → ∀ (x y : V) (v u : Value), Rep G H x p → Rep G H y q → RelV x v → RelV y u → EqAt A.in1 s v u b)
    {ps qs : List PV} {vs us : List V} {i1 i2 : List Value} {a b : Addr} {c : Bool} (r1 : RepL G H vs ps) (r2 : RepL G H us qs) (w1 : Vals vs i1) (w2 : Vals us i2) (t1 : s.heap.IsList a i1.toArray) (t2 : s.heap.IsList b i2.toArray)
    (h : Ice.eqAll f ps qs = some c) (ref : a = b → c = true) : Eq3 A s (.ref a) (.ref b) c := by
  obtain ⟨h1, h2⟩ := eqAll_none_nil h
  have he := items_eq ih r1 r2 w1 w2 h1
  have l1 : i1.toArray.size = ps.length := by rw [List.size_toArray, ← w1.length, r1.length]
  have l2 : i2.toArray.size = qs.length := by rw [List.size_toArray, ← w2.length, r2.length]
  have rcne : RcAt A s (.ref a) (.ref b) c ∧ RcNeAt A s (.ref a) (.ref b) (!c) := by
    by_cases hl : ps.length = qs.length
    · have hsz : i1.toArray.size = i2.toArray.size := by rw [l1, l2, hl]
      have q := RcAt.lists t1 t2 hsz hu he
      have q' := RcNeAt.lists t1 t2 hsz hu he
      have ec : c = (List.range i1.toArray.size).all (eqsAt f ps qs) := by
        rw [h2, l1, hl, Nat.min_self]
        simp
      rw [← ec] at q q'
      exact ⟨q, q'⟩
    · have hsz : (i1.toArray.size != i2.toArray.size) = true := by rw [l1, l2]; simpa using hl
      have ec : c = false := by
        rw [h2]
        have : (ps.length == qs.length) = false := by simpa using hl
        rw [this, Bool.and_false]
      rw [ec]
      exact ⟨RcAt.lists_lengths t1 t2 hsz hu, RcNeAt.lists_lengths t1 t2 hsz hu⟩
  refine ⟨rcne.1, rcne.2, ?_⟩
  by_cases e : a = b
  · subst e
    rw [ref rfl]
    exact EqAt.same _
  · exact EqAt.of_refs e rcne.1

/-- a value is alike itself -/
theorem eqAll_self {f : PV → PV → Option Bool} : ∀ {ps qs : List PV} {vs : List V} {c : Bool}, RepL G H vs ps → RepL G H vs qs → (∀ (x : V) (p q : PV) (b : Bool), Rep G H x p → Rep G H x q → f p q = some b → b = true) → Ice.eqAll f ps qs = some c → c = true
  | [], _, _, c, .nil, .nil, _, h => by cases h; rfl
  | p :: ps, _, _, c, .cons r rs, .cons r' rs', ih, h => by
    unfold Ice.eqAll at h
    cases hc : f p _ with
    | none => rw [hc] at h; cases h
    | some d =>
      have := ih _ _ _ _ r r' hc
      subst this
      rw [hc] at h
      exact eqAll_self rs rs' ih h
theorem peq_self (I : Inv X pins σ H s) (hK : X.K = G.K) : ∀ (n : Nat) (x : V) (p q : PV) (b : Bool), Rep G H x p → Rep G H x q → Ice.peqF n p q = some b → b = true := by
  intro n
  induction n with
  | zero =>
    intro x p q b h1 h2 e
    cases h1 with
    | scr _ _ => rw [peqF_scr] at e; cases e
    | dK _ _ => rw [peqF_dct] at e; cases e
    | fn _ => rw [peqF_fn] at e; cases e
    | tup t1 l1 =>
      cases h2 with
      | tup t2 l2 => unfold Ice.peqF at e; cases e
      | lst t2 l2 => exact (tup_lst I hK t1 t2).elim
      | scr _ _ => rw [peqF_scr2] at e; cases e
      | dK _ _ => rw [peqF_dct2] at e; cases e
      | fn _ => rw [peqF_fn2] at e; cases e
    | lst t1 l1 =>
      cases h2 with
      | lst t2 l2 => unfold Ice.peqF at e; cases e
      | tup t2 l2 => exact (tup_lst I hK t2 t1).elim
      | scr _ _ => rw [peqF_scr2] at e; cases e
      | dK _ _ => rw [peqF_dct2] at e; cases e
      | fn _ => rw [peqF_fn2] at e; cases e
    | _ => cases h2 <;> first
      | (unfold Ice.peqF at e; simp at e; done)
      | (unfold Ice.peqF at e; simp at e; exact e.symm ▸ rfl)
      | (unfold Ice.peqF at e; simp at e; exact e)
  | succ n ih =>
    intro x p q b h1 h2 e
    cases h1 with
    | scr _ _ => rw [peqF_scr] at e; cases e
    | dK _ _ => rw [peqF_dct] at e; cases e
    | fn _ => rw [peqF_fn] at e; cases e
    | tup t1 l1 =>
      cases h2 with
      | tup t2 l2 =>
        have := I.tuple_inj (by rw [hK]; exact t1) (by rw [hK]; exact t2)
        subst this
        unfold Ice.peqF at e
        exact eqAll_self l1 l2 ih e
      | lst t2 l2 => exact (tup_lst I hK t1 t2).elim
      | scr _ _ => rw [peqF_scr2] at e; cases e
      | dK _ _ => rw [peqF_dct2] at e; cases e
      | fn _ => rw [peqF_fn2] at e; cases e
    | lst t1 l1 =>
      cases h2 with
      | lst t2 l2 =>
        rw [t1] at t2; cases t2
        unfold Ice.peqF at e
        exact eqAll_self l1 l2 ih e
      | tup t2 l2 => exact (tup_lst I hK t2 t1).elim
      | scr _ _ => rw [peqF_scr2] at e; cases e
      | dK _ _ => rw [peqF_dct2] at e; cases e
      | fn _ => rw [peqF_fn2] at e; cases e
    | _ => cases h2 <;> first
      | (unfold Ice.peqF at e; simp at e; done)
      | (unfold Ice.peqF at e; simp at e; exact e.symm ▸ rfl)
      | (unfold Ice.peqF at e; simp at e; exact e)
/-- == of values that are told, n levels down -/
theorem eq3 (I : Inv X pins σ H s) (hK : X.K = G.K) : ∀ (n : Nat) (A : Around), A.units + n < cLine → ∀ (p q : PV) (b : Bool), Ice.peqF n p q = some b → ∀ (x y : V) (v u : Value), Rep G H x p → Rep G H y q → RelV x v → RelV y u → Eq3 A s v u b := by
  intro n
  induction n with
  | zero =>
    intro A hu p q b e x y v u h1 h2 rx ry
    cases h1 with
    | non =>
      cases h2 with
      | non =>
        cases rx
        cases ry
        unfold Ice.peqF at e
        cases e
        exact ⟨RcAt.none_none  , RcNeAt.none_none  , EqAt.same _⟩
      | bl b =>
        cases rx
        cases ry
        unfold Ice.peqF at e
        cases e
        exact ⟨RcAt.none_bool _ , RcNeAt.none_bool _ , EqAt.none_bool _ ⟩
      | int b =>
        cases rx
        obtain ⟨_, rfl⟩ := ry
        unfold Ice.peqF at e
        cases e
        exact ⟨RcAt.none_int _ _ , RcNeAt.none_int _ _ , EqAt.none_int _ _ ⟩
      | str b _ =>
        cases rx
        obtain ⟨_, rfl⟩ := ry
        unfold Ice.peqF at e
        cases e
        exact ⟨RcAt.none_str _ _ , RcNeAt.none_str _ _ , EqAt.none_str _ _ ⟩
      | tup t2 l2 =>
        cases rx
        cases ry
        obtain ⟨vs2, i2, r2, w2, g2⟩ := Rep.tupAt I hK (.tup t2 l2)
        unfold Ice.peqF at e
        cases e
        exact ⟨RcAt.none_tuple  g2 (by omega), RcNeAt.none_tuple  g2 (by omega), EqAt.none_tuple  g2 (by omega)⟩
      | lst t2 l2 =>
        cases rx
        cases ry
        obtain ⟨vs2, i2, r2, w2, g2⟩ := Rep.lstAt I hK (.lst t2 l2)
        unfold Ice.peqF at e
        cases e
        exact ⟨RcAt.none_list  g2 (by omega), RcNeAt.none_list  g2 (by omega), EqAt.none_list  g2 (by omega)⟩
      | scr _ _ => rw [peqF_scr2] at e; cases e
      | dK _ _ => rw [peqF_dct2] at e; cases e
      | fn _ => rw [peqF_fn2] at e; cases e
    | bl a =>
      cases h2 with
      | non =>
        cases rx
        cases ry
        unfold Ice.peqF at e
        cases e
        exact ⟨RcAt.bool_none _ , RcNeAt.bool_none _ , EqAt.bool_none _ ⟩
      | bl b =>
        cases rx
        cases ry
        unfold Ice.peqF at e
        cases e
        exact ⟨RcAt.bool_bool _ _ , RcNeAt.bool_bool _ _ , EqAt.bool_bool _ _ ⟩
      | int b =>
        cases rx
        obtain ⟨_, rfl⟩ := ry
        unfold Ice.peqF at e
        cases e
        exact (⟨RcAt.bool_int _ _ _ , RcNeAt.bool_int _ _ _ , EqAt.bool_int _ _ _ ⟩ : Eq3 A s _ _ _)
      | str b _ =>
        cases rx
        obtain ⟨_, rfl⟩ := ry
        unfold Ice.peqF at e
        cases e
        exact ⟨RcAt.bool_str _ _ _ , RcNeAt.bool_str _ _ _ , EqAt.bool_str _ _ _ ⟩
      | tup t2 l2 =>
        cases rx
        cases ry
        obtain ⟨vs2, i2, r2, w2, g2⟩ := Rep.tupAt I hK (.tup t2 l2)
        unfold Ice.peqF at e
        cases e
        exact ⟨RcAt.bool_tuple _ g2 (by omega), RcNeAt.bool_tuple _ g2 (by omega), EqAt.bool_tuple _ g2 (by omega)⟩
      | lst t2 l2 =>
        cases rx
        cases ry
        obtain ⟨vs2, i2, r2, w2, g2⟩ := Rep.lstAt I hK (.lst t2 l2)
        unfold Ice.peqF at e
        cases e
        exact ⟨RcAt.bool_list _ g2 (by omega), RcNeAt.bool_list _ g2 (by omega), EqAt.bool_list _ g2 (by omega)⟩
      | scr _ _ => rw [peqF_scr2] at e; cases e
      | dK _ _ => rw [peqF_dct2] at e; cases e
      | fn _ => rw [peqF_fn2] at e; cases e
    | int a =>
      cases h2 with
      | non =>
        obtain ⟨_, rfl⟩ := rx
        cases ry
        unfold Ice.peqF at e
        cases e
        exact ⟨RcAt.int_none _ _ , RcNeAt.int_none _ _ , EqAt.int_none _ _ ⟩
      | bl b =>
        obtain ⟨_, rfl⟩ := rx
        cases ry
        unfold Ice.peqF at e
        cases e
        exact (⟨RcAt.int_bool _ _ _ , RcNeAt.int_bool _ _ _ , EqAt.int_bool _ _ _ ⟩ : Eq3 A s _ _ _)
      | int b =>
        obtain ⟨_, rfl⟩ := rx
        obtain ⟨_, rfl⟩ := ry
        unfold Ice.peqF at e
        cases e
        exact ⟨RcAt.int_int _ _ _ _ , RcNeAt.int_int _ _ _ _ , EqAt.int_int _ _ _ _ ⟩
      | str b _ =>
        obtain ⟨_, rfl⟩ := rx
        obtain ⟨_, rfl⟩ := ry
        unfold Ice.peqF at e
        cases e
        exact ⟨RcAt.int_str _ _ _ _ , RcNeAt.int_str _ _ _ _ , EqAt.int_str _ _ _ _ ⟩
      | tup t2 l2 =>
        obtain ⟨_, rfl⟩ := rx
        cases ry
        obtain ⟨vs2, i2, r2, w2, g2⟩ := Rep.tupAt I hK (.tup t2 l2)
        unfold Ice.peqF at e
        cases e
        exact ⟨RcAt.int_tuple _ _ g2 (by omega), RcNeAt.int_tuple _ _ g2 (by omega), EqAt.int_tuple _ _ g2 (by omega)⟩
      | lst t2 l2 =>
        obtain ⟨_, rfl⟩ := rx
        cases ry
        obtain ⟨vs2, i2, r2, w2, g2⟩ := Rep.lstAt I hK (.lst t2 l2)
        unfold Ice.peqF at e
        cases e
        exact ⟨RcAt.int_list _ _ g2 (by omega), RcNeAt.int_list _ _ g2 (by omega), EqAt.int_list _ _ g2 (by omega)⟩
      | scr _ _ => rw [peqF_scr2] at e; cases e
      | dK _ _ => rw [peqF_dct2] at e; cases e
      | fn _ => rw [peqF_fn2] at e; cases e
    | str a _ =>
      cases h2 with
      | non =>
        obtain ⟨_, rfl⟩ := rx
        cases ry
        unfold Ice.peqF at e
        cases e
        exact ⟨RcAt.str_none _ _ , RcNeAt.str_none _ _ , EqAt.str_none _ _ ⟩
      | bl b =>
        obtain ⟨_, rfl⟩ := rx
        cases ry
        unfold Ice.peqF at e
        cases e
        exact ⟨RcAt.str_bool _ _ _ , RcNeAt.str_bool _ _ _ , EqAt.str_bool _ _ _ ⟩
      | int b =>
        obtain ⟨_, rfl⟩ := rx
        obtain ⟨_, rfl⟩ := ry
        unfold Ice.peqF at e
        cases e
        exact ⟨RcAt.str_int _ _ _ _ , RcNeAt.str_int _ _ _ _ , EqAt.str_int _ _ _ _ ⟩
      | str b _ =>
        obtain ⟨_, rfl⟩ := rx
        obtain ⟨_, rfl⟩ := ry
        unfold Ice.peqF at e
        cases e
        exact (⟨RcAt.str_str _ _ _ _, RcNeAt.str_str _ _ _ _, EqAt.str_str _ _ _ _⟩ : Eq3 A s _ _ _).cast (str_beq _ _)
      | tup t2 l2 =>
        obtain ⟨_, rfl⟩ := rx
        cases ry
        obtain ⟨vs2, i2, r2, w2, g2⟩ := Rep.tupAt I hK (.tup t2 l2)
        unfold Ice.peqF at e
        cases e
        exact ⟨RcAt.str_tuple _ _ g2 (by omega), RcNeAt.str_tuple _ _ g2 (by omega), EqAt.str_tuple _ _ g2 (by omega)⟩
      | lst t2 l2 =>
        obtain ⟨_, rfl⟩ := rx
        cases ry
        obtain ⟨vs2, i2, r2, w2, g2⟩ := Rep.lstAt I hK (.lst t2 l2)
        unfold Ice.peqF at e
        cases e
        exact ⟨RcAt.str_list _ _ g2 (by omega), RcNeAt.str_list _ _ g2 (by omega), EqAt.str_list _ _ g2 (by omega)⟩
      | scr _ _ => rw [peqF_scr2] at e; cases e
      | dK _ _ => rw [peqF_dct2] at e; cases e
      | fn _ => rw [peqF_fn2] at e; cases e
    | tup t1 l1 =>
      cases h2 with
      | non =>
        cases rx
        cases ry
        obtain ⟨vs1, i1, r1, w1, g1⟩ := Rep.tupAt I hK (.tup t1 l1)
        unfold Ice.peqF at e
        cases e
        exact ⟨RcAt.tuple_none  g1 (by omega), RcNeAt.tuple_none  g1 (by omega), EqAt.tuple_none  g1 (by omega)⟩
      | bl b =>
        cases rx
        cases ry
        obtain ⟨vs1, i1, r1, w1, g1⟩ := Rep.tupAt I hK (.tup t1 l1)
        unfold Ice.peqF at e
        cases e
        exact ⟨RcAt.tuple_bool _ g1 (by omega), RcNeAt.tuple_bool _ g1 (by omega), EqAt.tuple_bool _ g1 (by omega)⟩
      | int b =>
        cases rx
        obtain ⟨_, rfl⟩ := ry
        obtain ⟨vs1, i1, r1, w1, g1⟩ := Rep.tupAt I hK (.tup t1 l1)
        unfold Ice.peqF at e
        cases e
        exact ⟨RcAt.tuple_int _ _ g1 (by omega), RcNeAt.tuple_int _ _ g1 (by omega), EqAt.tuple_int _ _ g1 (by omega)⟩
      | str b _ =>
        cases rx
        obtain ⟨_, rfl⟩ := ry
        obtain ⟨vs1, i1, r1, w1, g1⟩ := Rep.tupAt I hK (.tup t1 l1)
        unfold Ice.peqF at e
        cases e
        exact ⟨RcAt.tuple_str _ _ g1 (by omega), RcNeAt.tuple_str _ _ g1 (by omega), EqAt.tuple_str _ _ g1 (by omega)⟩
      | tup t2 l2 =>
        unfold Ice.peqF at e; cases e
      | lst t2 l2 =>
        cases rx
        cases ry
        obtain ⟨vs1, i1, r1, w1, g1⟩ := Rep.tupAt I hK (.tup t1 l1)
        obtain ⟨vs2, i2, r2, w2, g2⟩ := Rep.lstAt I hK (.lst t2 l2)
        unfold Ice.peqF at e
        cases e
        exact ⟨RcAt.tuple_list  g1 g2 (by omega), RcNeAt.tuple_list  g1 g2 (by omega), EqAt.tuple_list  g1 g2 (by omega)⟩
      | scr _ _ => rw [peqF_scr2] at e; cases e
      | dK _ _ => rw [peqF_dct2] at e; cases e
      | fn _ => rw [peqF_fn2] at e; cases e
    | lst t1 l1 =>
      cases h2 with
      | non =>
        cases rx
        cases ry
        obtain ⟨vs1, i1, r1, w1, g1⟩ := Rep.lstAt I hK (.lst t1 l1)
        unfold Ice.peqF at e
        cases e
        exact ⟨RcAt.list_none  g1 (by omega), RcNeAt.list_none  g1 (by omega), EqAt.list_none  g1 (by omega)⟩
      | bl b =>
        cases rx
        cases ry
        obtain ⟨vs1, i1, r1, w1, g1⟩ := Rep.lstAt I hK (.lst t1 l1)
        unfold Ice.peqF at e
        cases e
        exact ⟨RcAt.list_bool _ g1 (by omega), RcNeAt.list_bool _ g1 (by omega), EqAt.list_bool _ g1 (by omega)⟩
      | int b =>
        cases rx
        obtain ⟨_, rfl⟩ := ry
        obtain ⟨vs1, i1, r1, w1, g1⟩ := Rep.lstAt I hK (.lst t1 l1)
        unfold Ice.peqF at e
        cases e
        exact ⟨RcAt.list_int _ _ g1 (by omega), RcNeAt.list_int _ _ g1 (by omega), EqAt.list_int _ _ g1 (by omega)⟩
      | str b _ =>
        cases rx
        obtain ⟨_, rfl⟩ := ry
        obtain ⟨vs1, i1, r1, w1, g1⟩ := Rep.lstAt I hK (.lst t1 l1)
        unfold Ice.peqF at e
        cases e
        exact ⟨RcAt.list_str _ _ g1 (by omega), RcNeAt.list_str _ _ g1 (by omega), EqAt.list_str _ _ g1 (by omega)⟩
      | tup t2 l2 =>
        cases rx
        cases ry
        obtain ⟨vs1, i1, r1, w1, g1⟩ := Rep.lstAt I hK (.lst t1 l1)
        obtain ⟨vs2, i2, r2, w2, g2⟩ := Rep.tupAt I hK (.tup t2 l2)
        unfold Ice.peqF at e
        cases e
        exact ⟨RcAt.list_tuple  g1 g2 (by omega), RcNeAt.list_tuple  g1 g2 (by omega), EqAt.list_tuple  g1 g2 (by omega)⟩
      | lst t2 l2 =>
        unfold Ice.peqF at e; cases e
      | scr _ _ => rw [peqF_scr2] at e; cases e
      | dK _ _ => rw [peqF_dct2] at e; cases e
      | fn _ => rw [peqF_fn2] at e; cases e
    | scr _ _ => rw [peqF_scr] at e; cases e
    | dK _ _ => rw [peqF_dct] at e; cases e
    | fn _ => rw [peqF_fn] at e; cases e
  | succ n ih =>
    intro A hu p q b e x y v u h1 h2 rx ry
    cases h1 with
    | non =>
      cases h2 with
      | non =>
        cases rx
        cases ry
        unfold Ice.peqF at e
        cases e
        exact ⟨RcAt.none_none  , RcNeAt.none_none  , EqAt.same _⟩
      | bl b =>
        cases rx
        cases ry
        unfold Ice.peqF at e
        cases e
        exact ⟨RcAt.none_bool _ , RcNeAt.none_bool _ , EqAt.none_bool _ ⟩
      | int b =>
        cases rx
        obtain ⟨_, rfl⟩ := ry
        unfold Ice.peqF at e
        cases e
        exact ⟨RcAt.none_int _ _ , RcNeAt.none_int _ _ , EqAt.none_int _ _ ⟩
      | str b _ =>
        cases rx
        obtain ⟨_, rfl⟩ := ry
        unfold Ice.peqF at e
        cases e
        exact ⟨RcAt.none_str _ _ , RcNeAt.none_str _ _ , EqAt.none_str _ _ ⟩
      | tup t2 l2 =>
        cases rx
        cases ry
        obtain ⟨vs2, i2, r2, w2, g2⟩ := Rep.tupAt I hK (.tup t2 l2)
        unfold Ice.peqF at e
        cases e
        exact ⟨RcAt.none_tuple  g2 (by omega), RcNeAt.none_tuple  g2 (by omega), EqAt.none_tuple  g2 (by omega)⟩
      | lst t2 l2 =>
        cases rx
        cases ry
        obtain ⟨vs2, i2, r2, w2, g2⟩ := Rep.lstAt I hK (.lst t2 l2)
        unfold Ice.peqF at e
        cases e
        exact ⟨RcAt.none_list  g2 (by omega), RcNeAt.none_list  g2 (by omega), EqAt.none_list  g2 (by omega)⟩
      | scr _ _ => rw [peqF_scr2] at e; cases e
      | dK _ _ => rw [peqF_dct2] at e; cases e
      | fn _ => rw [peqF_fn2] at e; cases e
    | bl a =>
      cases h2 with
      | non =>
        cases rx
        cases ry
        unfold Ice.peqF at e
        cases e
        exact ⟨RcAt.bool_none _ , RcNeAt.bool_none _ , EqAt.bool_none _ ⟩
      | bl b =>
        cases rx
        cases ry
        unfold Ice.peqF at e
        cases e
        exact ⟨RcAt.bool_bool _ _ , RcNeAt.bool_bool _ _ , EqAt.bool_bool _ _ ⟩
      | int b =>
        cases rx
        obtain ⟨_, rfl⟩ := ry
        unfold Ice.peqF at e
        cases e
        exact (⟨RcAt.bool_int _ _ _ , RcNeAt.bool_int _ _ _ , EqAt.bool_int _ _ _ ⟩ : Eq3 A s _ _ _)
      | str b _ =>
        cases rx
        obtain ⟨_, rfl⟩ := ry
        unfold Ice.peqF at e
        cases e
        exact ⟨RcAt.bool_str _ _ _ , RcNeAt.bool_str _ _ _ , EqAt.bool_str _ _ _ ⟩
      | tup t2 l2 =>
        cases rx
        cases ry
        obtain ⟨vs2, i2, r2, w2, g2⟩ := Rep.tupAt I hK (.tup t2 l2)
        unfold Ice.peqF at e
        cases e
        exact ⟨RcAt.bool_tuple _ g2 (by omega), RcNeAt.bool_tuple _ g2 (by omega), EqAt.bool_tuple _ g2 (by omega)⟩
      | lst t2 l2 =>
        cases rx
        cases ry
        obtain ⟨vs2, i2, r2, w2, g2⟩ := Rep.lstAt I hK (.lst t2 l2)
        unfold Ice.peqF at e
        cases e
        exact ⟨RcAt.bool_list _ g2 (by omega), RcNeAt.bool_list _ g2 (by omega), EqAt.bool_list _ g2 (by omega)⟩
      | scr _ _ => rw [peqF_scr2] at e; cases e
      | dK _ _ => rw [peqF_dct2] at e; cases e
      | fn _ => rw [peqF_fn2] at e; cases e
    | int a =>
      cases h2 with
      | non =>
        obtain ⟨_, rfl⟩ := rx
        cases ry
        unfold Ice.peqF at e
        cases e
        exact ⟨RcAt.int_none _ _ , RcNeAt.int_none _ _ , EqAt.int_none _ _ ⟩
      | bl b =>
        obtain ⟨_, rfl⟩ := rx
        cases ry
        unfold Ice.peqF at e
        cases e
        exact (⟨RcAt.int_bool _ _ _ , RcNeAt.int_bool _ _ _ , EqAt.int_bool _ _ _ ⟩ : Eq3 A s _ _ _)
      | int b =>
        obtain ⟨_, rfl⟩ := rx
        obtain ⟨_, rfl⟩ := ry
        unfold Ice.peqF at e
        cases e
        exact ⟨RcAt.int_int _ _ _ _ , RcNeAt.int_int _ _ _ _ , EqAt.int_int _ _ _ _ ⟩
      | str b _ =>
        obtain ⟨_, rfl⟩ := rx
        obtain ⟨_, rfl⟩ := ry
        unfold Ice.peqF at e
        cases e
        exact ⟨RcAt.int_str _ _ _ _ , RcNeAt.int_str _ _ _ _ , EqAt.int_str _ _ _ _ ⟩
      | tup t2 l2 =>
        obtain ⟨_, rfl⟩ := rx
        cases ry
        obtain ⟨vs2, i2, r2, w2, g2⟩ := Rep.tupAt I hK (.tup t2 l2)
        unfold Ice.peqF at e
        cases e
        exact ⟨RcAt.int_tuple _ _ g2 (by omega), RcNeAt.int_tuple _ _ g2 (by omega), EqAt.int_tuple _ _ g2 (by omega)⟩
      | lst t2 l2 =>
        obtain ⟨_, rfl⟩ := rx
        cases ry
        obtain ⟨vs2, i2, r2, w2, g2⟩ := Rep.lstAt I hK (.lst t2 l2)
        unfold Ice.peqF at e
        cases e
        exact ⟨RcAt.int_list _ _ g2 (by omega), RcNeAt.int_list _ _ g2 (by omega), EqAt.int_list _ _ g2 (by omega)⟩
      | scr _ _ => rw [peqF_scr2] at e; cases e
      | dK _ _ => rw [peqF_dct2] at e; cases e
      | fn _ => rw [peqF_fn2] at e; cases e
    | str a _ =>
      cases h2 with
      | non =>
        obtain ⟨_, rfl⟩ := rx
        cases ry
        unfold Ice.peqF at e
        cases e
        exact ⟨RcAt.str_none _ _ , RcNeAt.str_none _ _ , EqAt.str_none _ _ ⟩
      | bl b =>
        obtain ⟨_, rfl⟩ := rx
        cases ry
        unfold Ice.peqF at e
        cases e
        exact ⟨RcAt.str_bool _ _ _ , RcNeAt.str_bool _ _ _ , EqAt.str_bool _ _ _ ⟩
      | int b =>
        obtain ⟨_, rfl⟩ := rx
        obtain ⟨_, rfl⟩ := ry
        unfold Ice.peqF at e
        cases e
        exact ⟨RcAt.str_int _ _ _ _ , RcNeAt.str_int _ _ _ _ , EqAt.str_int _ _ _ _ ⟩
      | str b _ =>
        obtain ⟨_, rfl⟩ := rx
        obtain ⟨_, rfl⟩ := ry
        unfold Ice.peqF at e
        cases e
        exact (⟨RcAt.str_str _ _ _ _, RcNeAt.str_str _ _ _ _, EqAt.str_str _ _ _ _⟩ : Eq3 A s _ _ _).cast (str_beq _ _)
      | tup t2 l2 =>
        obtain ⟨_, rfl⟩ := rx
        cases ry
        obtain ⟨vs2, i2, r2, w2, g2⟩ := Rep.tupAt I hK (.tup t2 l2)
        unfold Ice.peqF at e
        cases e
        exact ⟨RcAt.str_tuple _ _ g2 (by omega), RcNeAt.str_tuple _ _ g2 (by omega), EqAt.str_tuple _ _ g2 (by omega)⟩
      | lst t2 l2 =>
        obtain ⟨_, rfl⟩ := rx
        cases ry
        obtain ⟨vs2, i2, r2, w2, g2⟩ := Rep.lstAt I hK (.lst t2 l2)
        unfold Ice.peqF at e
        cases e
        exact ⟨RcAt.str_list _ _ g2 (by omega), RcNeAt.str_list _ _ g2 (by omega), EqAt.str_list _ _ g2 (by omega)⟩
      | scr _ _ => rw [peqF_scr2] at e; cases e
      | dK _ _ => rw [peqF_dct2] at e; cases e
      | fn _ => rw [peqF_fn2] at e; cases e
    | tup t1 l1 =>
      cases h2 with
      | non =>
        cases rx
        cases ry
        obtain ⟨vs1, i1, r1, w1, g1⟩ := Rep.tupAt I hK (.tup t1 l1)
        unfold Ice.peqF at e
        cases e
        exact ⟨RcAt.tuple_none  g1 (by omega), RcNeAt.tuple_none  g1 (by omega), EqAt.tuple_none  g1 (by omega)⟩
      | bl b =>
        cases rx
        cases ry
        obtain ⟨vs1, i1, r1, w1, g1⟩ := Rep.tupAt I hK (.tup t1 l1)
        unfold Ice.peqF at e
        cases e
        exact ⟨RcAt.tuple_bool _ g1 (by omega), RcNeAt.tuple_bool _ g1 (by omega), EqAt.tuple_bool _ g1 (by omega)⟩
      | int b =>
        cases rx
        obtain ⟨_, rfl⟩ := ry
        obtain ⟨vs1, i1, r1, w1, g1⟩ := Rep.tupAt I hK (.tup t1 l1)
        unfold Ice.peqF at e
        cases e
        exact ⟨RcAt.tuple_int _ _ g1 (by omega), RcNeAt.tuple_int _ _ g1 (by omega), EqAt.tuple_int _ _ g1 (by omega)⟩
      | str b _ =>
        cases rx
        obtain ⟨_, rfl⟩ := ry
        obtain ⟨vs1, i1, r1, w1, g1⟩ := Rep.tupAt I hK (.tup t1 l1)
        unfold Ice.peqF at e
        cases e
        exact ⟨RcAt.tuple_str _ _ g1 (by omega), RcNeAt.tuple_str _ _ g1 (by omega), EqAt.tuple_str _ _ g1 (by omega)⟩
      | tup t2 l2 =>
        cases rx
        cases ry
        obtain ⟨vs1, i1, r1, w1, g1⟩ := Rep.tupAt I hK (.tup t1 l1)
        obtain ⟨vs2, i2, r2, w2, g2⟩ := Rep.tupAt I hK (.tup t2 l2)
        have e0 := e
        unfold Ice.peqF at e
        refine eq3_tup (by omega) (fun p q b h x y v u h1 h2 r1 r2 => (ih A.in1 (by show A.units + 1 + n < cLine; omega) p q b h x y v u h1 h2 r1 r2).eq) r1 r2 w1 w2 g1 g2 e (fun z => ?_)
        subst z
        exact peq_self I hK (n + 1) _ _ _ _ (.tup t1 l1) (.tup t2 l2) e0
      | lst t2 l2 =>
        cases rx
        cases ry
        obtain ⟨vs1, i1, r1, w1, g1⟩ := Rep.tupAt I hK (.tup t1 l1)
        obtain ⟨vs2, i2, r2, w2, g2⟩ := Rep.lstAt I hK (.lst t2 l2)
        unfold Ice.peqF at e
        cases e
        exact ⟨RcAt.tuple_list  g1 g2 (by omega), RcNeAt.tuple_list  g1 g2 (by omega), EqAt.tuple_list  g1 g2 (by omega)⟩
      | scr _ _ => rw [peqF_scr2] at e; cases e
      | dK _ _ => rw [peqF_dct2] at e; cases e
      | fn _ => rw [peqF_fn2] at e; cases e
    | lst t1 l1 =>
      cases h2 with
      | non =>
        cases rx
        cases ry
        obtain ⟨vs1, i1, r1, w1, g1⟩ := Rep.lstAt I hK (.lst t1 l1)
        unfold Ice.peqF at e
        cases e
        exact ⟨RcAt.list_none  g1 (by omega), RcNeAt.list_none  g1 (by omega), EqAt.list_none  g1 (by omega)⟩
      | bl b =>
        cases rx
        cases ry
        obtain ⟨vs1, i1, r1, w1, g1⟩ := Rep.lstAt I hK (.lst t1 l1)
        unfold Ice.peqF at e
        cases e
        exact ⟨RcAt.list_bool _ g1 (by omega), RcNeAt.list_bool _ g1 (by omega), EqAt.list_bool _ g1 (by omega)⟩
      | int b =>
        cases rx
        obtain ⟨_, rfl⟩ := ry
        obtain ⟨vs1, i1, r1, w1, g1⟩ := Rep.lstAt I hK (.lst t1 l1)
        unfold Ice.peqF at e
        cases e
        exact ⟨RcAt.list_int _ _ g1 (by omega), RcNeAt.list_int _ _ g1 (by omega), EqAt.list_int _ _ g1 (by omega)⟩
      | str b _ =>
        cases rx
        obtain ⟨_, rfl⟩ := ry
        obtain ⟨vs1, i1, r1, w1, g1⟩ := Rep.lstAt I hK (.lst t1 l1)
        unfold Ice.peqF at e
        cases e
        exact ⟨RcAt.list_str _ _ g1 (by omega), RcNeAt.list_str _ _ g1 (by omega), EqAt.list_str _ _ g1 (by omega)⟩
      | tup t2 l2 =>
        cases rx
        cases ry
        obtain ⟨vs1, i1, r1, w1, g1⟩ := Rep.lstAt I hK (.lst t1 l1)
        obtain ⟨vs2, i2, r2, w2, g2⟩ := Rep.tupAt I hK (.tup t2 l2)
        unfold Ice.peqF at e
        cases e
        exact ⟨RcAt.list_tuple  g1 g2 (by omega), RcNeAt.list_tuple  g1 g2 (by omega), EqAt.list_tuple  g1 g2 (by omega)⟩
      | lst t2 l2 =>
        cases rx
        cases ry
        obtain ⟨vs1, i1, r1, w1, g1⟩ := Rep.lstAt I hK (.lst t1 l1)
        obtain ⟨vs2, i2, r2, w2, g2⟩ := Rep.lstAt I hK (.lst t2 l2)
        have e0 := e
        unfold Ice.peqF at e
        refine eq3_lst (by omega) (fun p q b h x y v u h1 h2 r1 r2 => (ih A.in1 (by show A.units + 1 + n < cLine; omega) p q b h x y v u h1 h2 r1 r2).eq) r1 r2 w1 w2 g1 g2 e (fun z => ?_)
        subst z
        exact peq_self I hK (n + 1) _ _ _ _ (.lst t1 l1) (.lst t2 l2) e0
      | scr _ _ => rw [peqF_scr2] at e; cases e
      | dK _ _ => rw [peqF_dct2] at e; cases e
      | fn _ => rw [peqF_fn2] at e; cases e
    | scr _ _ => rw [peqF_scr] at e; cases e
    | dK _ _ => rw [peqF_dct] at e; cases e
    | fn _ => rw [peqF_fn] at e; cases e
end
end IceS
end
section
set_option Elab.async false
set_option linter.all false
set_option maxRecDepth 100000
/-! The operations on values, as the model does them. -/
namespace IceS
open PySem PySem.Spec PyProof.Rows L2
open Ice (PV)

/-- a context of the law's program, room for n calls -/
structure XG (G : Cfg) (X : Cx) (n : Nat) : Prop where
  K : X.K = G.K
  calm : X.calm = true
  nd : X.N.Nodup
  room : Room n X.A
  fnK : ∀ f a, G.fnA f = some a → ∃ o, X.K.lookup a = some o ∧ o.cls = .type "function"
  fnI : ∀ f g a, G.fnA f = some a → G.fnA g = some a → f = g
abbrev NoM : Addr → Prop := fun _ => False

section
variable {G : Cfg} {B H : Hp}
/-- an operand: seen, or a name's own object that is just looked at -/
inductive Opn (G : Cfg) (B H : Hp) : V → PV → Prop
  | old {x : V} {p : PV} : Rep G B x p → Opn G B H x p
  | own {a : Addr} {p : PV} : ObjR G B H a p → Opn G B H (.ref a) p
theorem Opn.rep {x : V} {p : PV} (s : Sub B H) (h : Opn G B H x p) : Rep G H x p := by
  cases h with
  | old r => exact r.mono s
  | own o => exact o.rep s
theorem Opn.int {x : V} {i : Int} (h : Opn G B H x (.int i)) : x = .int i := by
  cases h with
  | old r => cases r; rfl
  | own o => cases o
theorem Opn.bl {x : V} {i : Bool} (h : Opn G B H x (.bl i)) : x = .bl i := by
  cases h with
  | old r => cases r; rfl
  | own o => cases o
theorem Opn.non {x : V} (h : Opn G B H x .non) : x = .non := by
  cases h with
  | old r => cases r; rfl
  | own o => cases o
theorem Opn.str {x : V} {l : List Nat} (h : Opn G B H x (.str l)) : ∃ z : Str, x = .str z ∧ l = z.cps.toList ∧ z.length ≤ sizeLine := by
  cases h with
  | old r => cases r with | str z hz => exact ⟨_, rfl, rfl, hz⟩
  | own o => cases o
theorem Opn.tup {x : V} {ps : List PV} (h : Opn G B H x (.tup ps)) : ∃ a vs, x = .ref a ∧ SqT G.K B a vs ∧ RepL G B vs ps := by
  cases h with
  | old r => cases r with | tup a b => exact ⟨_, _, rfl, a, b⟩
  | own o => cases o
theorem Opn.scr {x : V} {ps : List PV} (h : Opn G B H x (.scr ps)) : ∃ a vs, x = .ref a ∧ SqL G.K B a vs ∧ RepL G B vs ps := by
  cases h with
  | old r => cases r with | scr a b => exact ⟨_, _, rfl, a.sqL, b⟩
  | own o => cases o
theorem Opn.lst {x : V} {ps : List PV} (s : Sub B H) (h : Opn G B H x (.lst ps)) : ∃ a vs, x = .ref a ∧ H a = some (.lst vs) ∧ RepL G B vs ps := by
  cases h with
  | old r => cases r with | lst a b => exact ⟨_, _, rfl, s _ _ a, b⟩
  | own o => cases o with | lst a b => exact ⟨_, _, rfl, a, b⟩
theorem Opn.dct {x : V} {kvs : List (PV × PV)} (s : Sub B H) (h : Opn G B H x (.dct kvs)) : ∃ a es, x = .ref a ∧ H a = some (.dK es) ∧ RepK G B es kvs := by
  cases h with
  | old r => cases r with | dK a b => exact ⟨_, _, rfl, s _ _ a, b⟩
  | own o => cases o with | dK a b => exact ⟨_, _, rfl, a, b⟩

/-- what comes out is wanted -/
def Gives (G : Cfg) (B H : Hp) (Q : VK) (p : PV) (n : Bool) : Prop := ∀ v B' H', Ext NoM NoM B H B' H' → Sub B' H' → Res G B' H H' v p n → Q v H'
theorem Gives.at {Q : VK} {p : PV} {v : V} (g : Gives G B H Q p false) (s : Sub B H) (r : Rep G B v p) : Q v H := g v B H Ext.refl s (.old r)
theorem Gives.tup {Q : VK} {ps : List PV} {vs : List V} (g : Gives G B H Q (.tup ps) false) (s : Sub B H) (r : RepL G B vs ps) {a : Addr} (hn : H a = none) : Q (.ref a) (upd H a (.tup vs)) :=
  g _ _ _ (Ext.newV s hn) s.upd2 (.old (.tup (SqT.of upd_same) (r.mono (Sub.updB (s.no hn)))))
theorem Gives.lst {Q : VK} {ps : List PV} {vs : List V} (g : Gives G B H Q (.lst ps) true) (s : Sub B H) (r : RepL G B vs ps) {a : Addr} (hn : H a = none) : Q (.ref a) (upd H a (.lst vs)) :=
  g _ _ _ (Ext.new hn) (s.new hn) (.new (s.no hn) hn (.lst upd_same r))
theorem Gives.dK {Q : VK} {kvs : List (PV × PV)} {es : List (Key × V)} (g : Gives G B H Q (.dct kvs) true) (s : Sub B H) (r : RepK G B es kvs) {a : Addr} (hn : H a = none) : Q (.ref a) (upd H a (.dK es)) :=
  g _ _ _ (Ext.new hn) (s.new hn) (.new (s.no hn) hn (.dK upd_same r))
theorem Gives.str {Q : VK} {l : List Nat} {z : Str} (g : Gives G B H Q (.str l) false) (s : Sub B H) (e : z.cps.toList = l) (hz : z.length ≤ sizeLine) : Q (.str z) H := by
  subst e; exact g.at s (.str z hz)

def rP1 (G : Cfg) (f : PV → Ice.Out) : V → Hp → VK → Prop := fun x H Q => ∃ B p r n, Sub B H ∧ Opn G B H x p ∧ f p = .ok (r, n) ∧ Gives G B H Q r n
def rP2 (G : Cfg) (f : PV → PV → Ice.Out) : R2 := fun x y H Q => ∃ B p q r n, Sub B H ∧ Opn G B H x p ∧ Opn G B H y q ∧ f p q = .ok (r, n) ∧ Gives G B H Q r n
def rC1 (G : Cfg) (f : PV → Ice.Out) : List V → Hp → VK → Prop := fun vs H Q => ∃ x, vs = [x] ∧ rP1 G f x H Q
def rC2 (G : Cfg) (f : PV → PV → Ice.Out) : List V → Hp → VK → Prop := fun vs H Q => ∃ x y, vs = [x, y] ∧ rP2 G f x y H Q
end

theorem sizeLine_lim : (sizeLine : Nat) = Ice.LIM := by rw [sizeLine_eq]
theorem cps_append (a b : Str) : (a ++ b).cps.toList = a.cps.toList ++ b.cps.toList := by
  show (Str.append a b).cps.toList = _
  unfold Str.append
  simp
theorem str_len (z : Str) : z.cps.toList.length = z.length := by
  show _ = z.cps.size
  simp
theorem w64 : Ice.W64 = 2 ^ 64 := by decide
theorem small_bounds {i : Int} (h : Ice.small i = true) : -(2 ^ 64) < i ∧ i < 2 ^ 64 := by
  unfold Ice.small at h
  rw [Bool.and_eq_true] at h
  have h1 := of_decide_eq_true h.1
  have h2 := of_decide_eq_true h.2
  rw [w64] at h1 h2
  exact ⟨h1, h2⟩

section
variable {X : Cx} {G : Cfg} {n : Nat}
theorem o_add (h : XG G X n) : OpR X (binaryOp .Add) (rP2 G Ice.pAdd) := by
  intro pins s σ H x y v u Q I rx ry ⟨B, p, q, r, m, sb, ox, oy, e, g⟩
  unfold Ice.pAdd at e
  split at e
  · cases e
    obtain rfl := ox.int
    obtain rfl := oy.int
    exact op_add pins s σ H _ _ v u Q I rx ry ⟨_, _, rfl, rfl, g.at sb (.int _)⟩
  · rename_i a b
    split at e
    · rename_i hl
      cases e
      obtain ⟨za, rfl, rfl, _⟩ := ox.str
      obtain ⟨zb, rfl, rfl, _⟩ := oy.str
      have hz : za.length + zb.length ≤ sizeLine := by rw [sizeLine_lim, ← str_len, ← str_len]; exact hl
      exact op_add_str pins s σ H _ _ v u Q I rx ry ⟨_, _, rfl, rfl, hz, g.str sb (cps_append _ _) (by rw [← str_len, cps_append, List.length_append, str_len, str_len]; exact hz)⟩
    · cases e
  · rename_i a b
    split at e
    · rename_i hl
      cases e
      obtain ⟨aa, va, rfl, ta, la⟩ := ox.tup
      obtain ⟨ab, vb, rfl, tb, lb⟩ := oy.tup
      have ta' := sb.sqT ta
      have tb' := sb.sqT tb
      rw [← h.K] at ta' tb'
      have hl' : va.length + vb.length ≤ sizeLine := by rw [sizeLine_lim, la.length, lb.length]; exact hl
      by_cases ha : va = []
      · subst ha
        obtain ⟨its, r1, p1, _⟩ := I.tuple ta'
        cases r1
        obtain ⟨its2, r2, p2, _⟩ := I.tuple tb'
        cases rx
        cases ry
        cases la
        exact cat_tup0 p1 p2 ⟨.ref ab, H, I, rfl, g.at sb (.tup tb lb)⟩
      · refine op_catT pins s σ H _ _ v u Q I rx ry ⟨_, _, _, _, rfl, rfl, ta', tb', ha, hl', fun z => ?_, fun z p hp => ?_⟩
        · subst z
          cases lb
          rw [List.append_nil] at g
          exact g.at sb (.tup ta la)
        · exact g.tup sb (la.append lb) hp
    · cases e
  · rename_i a b
    split at e
    · rename_i hl
      cases e
      obtain ⟨aa, va, rfl, ta, la⟩ := ox.lst sb
      obtain ⟨ab, vb, rfl, tb, lb⟩ := oy.lst sb
      exact op_cat pins s σ H _ _ v u Q I rx ry ⟨_, _, _, _, rfl, rfl, ta, tb, by rw [sizeLine_lim, la.length, lb.length]; exact hl, fun p hp => g.lst sb (la.append lb) hp⟩
    · cases e
  · cases e
theorem o_sub : OpR X (binaryOp .Sub) (rP2 G Ice.pSub) := by
  intro pins s σ H x y v u Q I rx ry ⟨B, p, q, r, m, sb, ox, oy, e, g⟩
  unfold Ice.pSub at e
  split at e
  · cases e
    obtain rfl := ox.int
    obtain rfl := oy.int
    exact op_sub pins s σ H _ _ v u Q I rx ry ⟨_, _, rfl, rfl, g.at sb (.int _)⟩
  · cases e
theorem o_fdiv : OpR X (binaryOp .FloorDiv) (rP2 G Ice.pFdiv) := by
  intro pins s σ H x y v u Q I rx ry ⟨B, p, q, r, m, sb, ox, oy, e, g⟩
  unfold Ice.pFdiv at e
  split at e
  · split at e
    · rename_i hj
      cases e
      obtain rfl := ox.int
      obtain rfl := oy.int
      refine op_fdivW pins s σ H _ _ v u Q I rx ry ⟨_, _, rfl, rfl, wide_div (b := 64) hj.1 ?_ (by decide) (by decide), g.at sb (.int _)⟩
      have := hj.2
      rw [w64] at this
      omega
    · cases e
  · cases e
theorem o_mod : OpR X (binaryOp .Mod) (rP2 G Ice.pMod) := by
  intro pins s σ H x y v u Q I rx ry ⟨B, p, q, r, m, sb, ox, oy, e, g⟩
  unfold Ice.pMod at e
  split at e
  · split at e
    · rename_i hj
      cases e
      obtain rfl := ox.int
      obtain rfl := oy.int
      exact op_mod pins s σ H _ _ v u Q I rx ry ⟨_, _, rfl, rfl, hj, g.at sb (.int _)⟩
    · cases e
  · cases e
theorem o_pow : OpR X (binaryOp .Pow) (rP2 G Ice.pPow) := by
  intro pins s σ H x y v u Q I rx ry ⟨B, p, q, r, m, sb, ox, oy, e, g⟩
  unfold Ice.pPow at e
  split at e
  · split at e
    · rename_i hj
      cases e
      obtain rfl := ox.int
      obtain rfl := oy.int
      have hs := small_bounds hj.2.2
      refine op_pow pins s σ H _ _ v u Q I rx ry ⟨_, _, rfl, rfl, ⟨hj.1, by omega, by omega⟩, g.at sb (.int _)⟩
    · cases e
  · cases e
theorem o_neg : UnR X (unaryOp .USub) (rP1 G Ice.pNeg) := by
  intro pins s σ H x v Q I rx ⟨B, p, r, m, sb, ox, e, g⟩
  unfold Ice.pNeg at e
  split at e
  · cases e
    obtain rfl := ox.int
    exact un_neg pins s σ H _ v Q I rx ⟨_, rfl, g.at sb (.int _)⟩
  · cases e
/-- == -/
theorem o_eq (h : XG G X n) : OpR X (compareOp .Eq) (rP2 G Ice.pEq) := by
  intro pins s σ H x y v u Q I rx ry ⟨B, p, q, r, m, sb, ox, oy, e, g⟩
  unfold Ice.pEq Ice.ofB at e
  split at e
  · rename_i b hb
    cases e
    have un := h.room.units
    have k := eq3 I h.K 12 X.A (by omega) p q b hb x y v u (ox.rep sb) (oy.rep sb) rx ry
    exact k.rc X.prog X.w _ _ ⟨.bl b, H, I, rfl, g.at sb (.bl b)⟩
  · cases e
theorem o_ne (h : XG G X n) : OpR X (compareOp .NotEq) (rP2 G Ice.pNe) := by
  intro pins s σ H x y v u Q I rx ry ⟨B, p, q, r, m, sb, ox, oy, e, g⟩
  unfold Ice.pNe Ice.ofB at e
  split at e
  · rename_i b hb
    cases e
    cases hc : Ice.peq p q with
    | none => rw [hc] at hb; cases hb
    | some c =>
      rw [hc] at hb
      cases hb
      have un := h.room.units
      have k := eq3 I h.K 12 X.A (by omega) p q c hc x y v u (ox.rep sb) (oy.rep sb) rx ry
      exact k.ne X.prog X.w _ _ ⟨.bl (!c), H, I, rfl, g.at sb (.bl _)⟩
  · cases e
end
end IceS
end
section
set_option Elab.async false
set_option linter.all false
set_option maxRecDepth 100000
/-! A value of the heap is one pure value. -/
namespace IceS
open PySem hiding Env
open PySem.Spec PyProof.Rows L2
open Ice (PV)
theorem keyP_inj {k k' : Key} (h : keyP k = keyP k') : k = k' := by
  cases k with
  | inl i => cases k' with
    | inl j => cases h; rfl
    | inr y => cases h
  | inr x => cases k' with
    | inl j => cases h
    | inr y =>
      have e : PV.str x.cps.toList = PV.str y.cps.toList := h
      injection e with e
      cases x with | mk x =>
      cases y with | mk y =>
      have e : x.toList = y.toList := e
      rw [Array.toList_inj.mp e]
section
variable {X : Cx} {G : Cfg} {n : Nat} {pins : List (Addr × Obj)} {σ : L2.St} {H : Hp} {s : Shared}
theorem look_none (I : Inv X pins σ H s) {a : Addr} {o : Obj} (h : X.K.lookup a = some o) : H a = none := (I.bs a o (I.ok.mod.kin a o h)).2
theorem ScrAt.cls (I : Inv X pins σ H s) (hK : X.K = G.K) {a : Addr} {vs : List V} (h : ScrAt G.K H a vs) : (∀ ys, H a ≠ some (.lst ys)) ∧ (∀ es, H a ≠ some (.dK es)) := by
  rcases h with ⟨o, h⟩ | ⟨⟨o, h⟩, _⟩
  · exact ⟨fun ys e => (by rw [h] at e; cases e), fun ys e => (by rw [h] at e; cases e)⟩
  · rw [← hK] at h
    have e := look_none I h
    exact ⟨fun ys e' => (by rw [e] at e'; cases e'), fun ys e' => (by rw [e] at e'; cases e')⟩
theorem list_not_tup (I : Inv X pins σ H s) {a : Addr} {xs ys : List V} (h : SqL X.K H a xs) (k : SqT X.K H a ys) : False := by
  obtain ⟨_, _, ⟨o, _, e, c, _, _⟩, _⟩ := I.list h
  obtain ⟨_, _, ⟨o', e', c', _⟩, _⟩ := I.tuple k
  rw [e] at e'; cases e'
  rw [c] at c'; simp at c'
theorem dict_not_tup (I : Inv X pins σ H s) {a : Addr} {es : List (Key × V)} {ys : List V} (h : H a = some (.dK es)) (k : SqT X.K H a ys) : False := by
  obtain ⟨_, _, _, _, o, _, _, e, c, _⟩ := (show ObjOk X.prog X.w H s.heap a (.dK es) from I.hok a _ h)
  obtain ⟨_, _, ⟨o', e', c', _⟩, _⟩ := I.tuple k
  rw [e] at e'; cases e'
  rw [c.1] at c'; simp at c'
theorem fn_not_tup (I : Inv X pins σ H s) (g : XG G X n) {a : Addr} {f : Nat} {ys : List V} (h : G.fnA f = some a) (k : SqT X.K H a ys) : False := by
  obtain ⟨o, h1, h2⟩ := g.fnK f a h
  have e := I.kIn a o h1
  obtain ⟨_, _, ⟨o', e', c', _⟩, _⟩ := I.tuple k
  rw [e] at e'; cases e'
  rw [h2] at c'; simp at c'
theorem fn_not_list (I : Inv X pins σ H s) (g : XG G X n) {a : Addr} {f : Nat} {ys : List V} (h : G.fnA f = some a) (k : SqL X.K H a ys) : False := by
  obtain ⟨o, h1, h2⟩ := g.fnK f a h
  have e := I.kIn a o h1
  obtain ⟨_, _, ⟨o', _, e', c', _⟩, _⟩ := I.list k
  rw [e] at e'; cases e'
  rw [h2] at c'; simp at c'
mutual
theorem rep_inj (I : Inv X pins σ H s) (g : XG G X n) : ∀ {v : V} {p q : PV}, Rep G H v p → Rep G H v q → p = q
  | _, _, _, .non, h => by cases h; rfl
  | _, _, _, .bl b, h => by cases h; rfl
  | _, _, _, .int i, h => by cases h; rfl
  | _, _, _, .str x _, h => by cases h; rfl
  | _, _, _, .tup t l, h => by
    have t' := g.K ▸ t
    cases h with
    | tup u m =>
      have e := I.tuple_inj t' (g.K ▸ u)
      subst e
      rw [repL_inj I g l m]
    | lst u m => exact (list_not_tup I (.inl (.inl u)) t').elim
    | scr u m => exact (list_not_tup I (g.K ▸ u.sqL) t').elim
    | dK u m => exact (dict_not_tup I u t').elim
    | fn u => exact (fn_not_tup I g u t').elim
  | _, _, _, .lst t l, h => by
    cases h with
    | tup u m => exact (list_not_tup I (.inl (.inl t)) (g.K ▸ u)).elim
    | lst u m => rw [t] at u; cases u; rw [repL_inj I g l m]
    | scr u m => exact absurd t ((u.cls I g.K).1 _)
    | dK u m => rw [t] at u; cases u
    | fn u => exact (fn_not_list I g u (.inl (.inl t))).elim
  | _, _, _, .scr t l, h => by
    cases h with
    | tup u m => exact (list_not_tup I (g.K ▸ t.sqL) (g.K ▸ u)).elim
    | lst u m => exact absurd u ((t.cls I g.K).1 _)
    | scr u m =>
      have e := I.list_inj (g.K ▸ t.sqL) (g.K ▸ u.sqL)
      subst e
      rw [repL_inj I g l m]
    | dK u m => exact absurd u ((t.cls I g.K).2 _)
    | fn u => exact (fn_not_list I g u (g.K ▸ t.sqL)).elim
  | _, _, _, .dK t l, h => by
    cases h with
    | tup u m => exact (dict_not_tup I t (g.K ▸ u)).elim
    | lst u m => rw [t] at u; cases u
    | scr u m => exact absurd t ((u.cls I g.K).2 _)
    | dK u m => rw [t] at u; cases u; rw [repK_inj I g l m]
    | fn u =>
      obtain ⟨o, h1, _⟩ := g.fnK _ _ u
      rw [look_none I h1] at t; cases t
  | _, _, _, .fn t, h => by
    cases h with
    | tup u m => exact (fn_not_tup I g t (g.K ▸ u)).elim
    | lst u m => exact (fn_not_list I g t (.inl (.inl u))).elim
    | scr u m => exact (fn_not_list I g t (g.K ▸ u.sqL)).elim
    | dK u m =>
      obtain ⟨o, h1, _⟩ := g.fnK _ _ t
      rw [look_none I h1] at u; cases u
    | fn u => rw [g.fnI _ _ _ t u]
theorem repL_inj (I : Inv X pins σ H s) (g : XG G X n) : ∀ {vs : List V} {ps qs : List PV}, RepL G H vs ps → RepL G H vs qs → ps = qs
  | _, _, _, .nil, h => by cases h; rfl
  | _, _, _, .cons a b, h => by
    cases h with
    | cons c d => rw [rep_inj I g a c, repL_inj I g b d]
theorem repK_inj (I : Inv X pins σ H s) (g : XG G X n) : ∀ {es : List (Key × V)} {ps qs : List (PV × PV)}, RepK G H es ps → RepK G H es qs → ps = qs
  | _, _, _, .nil, h => by cases h; rfl
  | _, _, _, .cons a b, h => by
    cases h with
    | cons c d => rw [rep_inj I g a c, repK_inj I g b d]
end
end
end IceS
end
section
set_option Elab.async false
set_option linter.all false
set_option maxRecDepth 100000
/-! The order of values, as the model does it. -/
namespace IceS
open PySem PySem.Spec PyProof.Rows L2 PySem.W
open Ice (PV)

/-- a value as the library's data, to a depth -/
def toD : Nat → PV → PyData
  | _, .bl b => .bool b
  | _, .int i => .int i
  | _, .str l => .str ⟨l.toArray⟩
  | n + 1, .tup ps => .tuple (ps.map (toD n))
  | _, _ => .none
theorem str_mk (z : Str) : (⟨z.cps.toList.toArray⟩ : Str) = z := by
  cases z
  simp
theorem depthAll_le {n : Nat} : ∀ {ds : List PyData}, (∀ d ∈ ds, d.depth ≤ n) → PyData.depthAll ds ≤ n
  | [], _ => by simp [PyData.depthAll]
  | d :: ds, h => by
    have h1 := h d List.mem_cons_self
    have h2 := depthAll_le (ds := ds) fun x hx => h x (List.mem_cons_of_mem _ hx)
    simp only [PyData.depthAll]
    omega
theorem toD_depth : ∀ (n : Nat) (p : PV), (toD n p).depth ≤ n
  | 0, p => by cases p <;> simp [toD, PyData.depth]
  | n + 1, p => by
    cases p with
    | tup ps =>
      simp only [toD, PyData.depth]
      have := depthAll_le (n := n) (ds := ps.map (toD n)) fun d hd => by
        obtain ⟨q, _, rfl⟩ := List.mem_map.mp hd
        exact toD_depth n q
      omega
    | _ => simp [toD, PyData.depth]
theorem okAll_self {f : PV → PV → Bool} : ∀ {ps : List PV}, Ice.okAll f ps ps = true → ∀ p ∈ ps, f p p = true
  | [], _, p, hp => by cases hp
  | q :: ps, h, p, hp => by
    have h : (f q q && Ice.okAll f ps ps) = true := h
    rw [Bool.and_eq_true] at h
    rcases List.mem_cons.mp hp with e | hp
    · rw [e]; exact h.1
    · exact okAll_self h.2 p hp
theorem toD_ne {n : Nat} {p q : PV} (h : Ice.okcF n p q = true) : toD n p ≠ .none := by
  cases n <;> cases p <;> cases q <;> first
    | (simp [toD]; done)
    | exact absurd (show false = true from h) Bool.false_ne_true
/-- what reads it -/
theorem reads_of {X : Cx} {pins : List (Addr × Obj)} {σ : L2.St} {H : Hp} {s : Shared} {G : Cfg} (I : Inv X pins σ H s) (hK : X.K = G.K) :
    ∀ (n : Nat) (p : PV) (x : V) (v : Value), Ice.okcF n p p = true → Rep G H x p → RelV x v → ∃ as, Reads s.heap v (toD n p) as := by
  intro n
  induction n with
  | zero =>
    intro p x v h r rv
    cases r with
    | bl b => cases rv; exact ⟨_, .bool b⟩
    | int i => obtain ⟨t, rfl⟩ := rv; exact ⟨_, .int i t⟩
    | str z _ => obtain ⟨t, rfl⟩ := rv; simp only [toD, str_mk]; exact ⟨_, .str z t⟩
    | _ => exact absurd (show false = true from h) Bool.false_ne_true
  | succ n ih =>
    intro p x v h r rv
    cases r with
    | bl b => cases rv; exact ⟨_, .bool b⟩
    | int i => obtain ⟨t, rfl⟩ := rv; exact ⟨_, .int i t⟩
    | str z _ => obtain ⟨t, rfl⟩ := rv; simp only [toD, str_mk]; exact ⟨_, .str z t⟩
    | tup t l =>
      cases rv
      obtain ⟨its, rv, ⟨o, ho, hc, k, hd⟩, _⟩ := I.tuple (by rw [hK]; exact t)
      have hs := okAll_self (show Ice.okAll (Ice.okcF n) _ _ = true from h)
      have all : ∀ {vs : List V} {ps : List PV} {us : List Value}, RepL G H vs ps → Vals vs us → (∀ p ∈ ps, Ice.okcF n p p = true) → ∃ as, ReadsAll s.heap us (ps.map (toD n)) as := by
        intro vs
        induction vs with
        | nil =>
          intro ps us l rv _
          cases l
          cases rv
          exact ⟨_, .nil⟩
        | cons y vs ih2 =>
          intro ps us l rv hp
          cases l with
          | cons a b =>
            cases rv with
            | cons c d =>
              obtain ⟨as, h1⟩ := ih _ _ _ (hp _ List.mem_cons_self) a c
              obtain ⟨bs, h2⟩ := ih2 b d fun p q => hp p (List.mem_cons_of_mem _ q)
              exact ⟨_, .cons h1 h2⟩
      obtain ⟨as, ha⟩ := all l rv hs
      refine ⟨as, ?_⟩
      simp only [toD]
      exact .tuple ho hc hd (by simpa using ha)
    | _ => exact absurd (show false = true from h) Bool.false_ne_true

/-! ### the order, in the library's words -/
theorem cmpI_lt (i j : Int) : (Ice.cmpI i j == .lt) = decide (i < j) := by
  unfold Ice.cmpI
  by_cases h : i < j
  · rw [if_pos h, decide_eq_true h]; rfl
  · rw [if_neg h, decide_eq_false h]
    split <;> rfl
theorem cmpI_eq (i j : Int) : (Ice.cmpI i j == .eq) = (i == j) := by
  unfold Ice.cmpI
  by_cases h : i < j
  · rw [if_pos h]
    have : (i == j) = false := by simp; omega
    rw [this]; rfl
  · rw [if_neg h]
    by_cases e : i = j
    · rw [if_pos e]; subst e; simp
    · rw [if_neg e]
      have : (i == j) = false := by simpa using e
      rw [this]; rfl
theorem cmpS_spec : ∀ (a b : List Nat), (Ice.cmpS a b == .lt) = decide (a < b) ∧ (Ice.cmpS a b == .eq) = (a == b)
  | [], [] => ⟨rfl, rfl⟩
  | [], y :: ys => by
    refine ⟨?_, rfl⟩
    have : ([] : List Nat) < (y :: ys) := List.nil_lt_cons _ _
    rw [decide_eq_true this]; rfl
  | _ :: _, [] => by
    refine ⟨?_, rfl⟩
    rw [decide_eq_false (List.not_lt_nil _)]; rfl
  | x :: xs, y :: ys => by
    obtain ⟨h1, h2⟩ := cmpS_spec xs ys
    unfold Ice.cmpS Ice.cmpN
    by_cases l : x < y
    · rw [if_pos l]
      have e : (x == y) = false := by simp; omega
      refine ⟨?_, ?_⟩
      · rw [decide_eq_true (List.cons_lt_cons_iff.mpr (.inl l))]; rfl
      · rw [List.cons_beq_cons, e]; rfl
    · rw [if_neg l]
      by_cases e : x = y
      · subst e
        rw [if_pos rfl]
        refine ⟨?_, ?_⟩
        · show (Ice.cmpS xs ys == .lt) = _
          rw [h1]
          congr 1
          rw [List.cons_lt_cons_iff]
          simp
        · show (Ice.cmpS xs ys == .eq) = _
          rw [h2, List.cons_beq_cons]
          simp
      · rw [if_neg e]
        refine ⟨?_, ?_⟩
        · rw [decide_eq_false (fun z => (List.cons_lt_cons_iff.mp z).elim l fun z => e z.1)]; rfl
        · have : (x == y) = false := by simpa using e
          rw [List.cons_beq_cons, this]; rfl
theorem ord_spec : ∀ (n : Nat) (p q : PV), Ice.okcF n p q = true →
    alike (toD n p) (toD n q) = true ∧ dataLt (toD n p) (toD n q) = (Ice.cmpF n p q == .lt) ∧ PyData.eqv (toD n p) (toD n q) = (Ice.cmpF n p q == .eq) := by
  intro n
  have scal : ∀ (n : Nat) (p q : PV), Ice.okcF n p q = true → (∀ ps, p ≠ .tup ps) → alike (toD n p) (toD n q) = true ∧ dataLt (toD n p) (toD n q) = (Ice.cmpF n p q == .lt) ∧ PyData.eqv (toD n p) (toD n q) = (Ice.cmpF n p q == .eq) := by
    intro n p q h hp
    have bl : ∀ n (a b : Bool), alike (toD n (.bl a)) (toD n (.bl b)) = true ∧ dataLt (toD n (.bl a)) (toD n (.bl b)) = (Ice.cmpF n (.bl a) (.bl b) == .lt) ∧ PyData.eqv (toD n (.bl a)) (toD n (.bl b)) = (Ice.cmpF n (.bl a) (.bl b) == .eq) := by
      intro n a b
      have t : ∀ c, toD n (.bl c) = .bool c := fun c => by cases n <;> rfl
      have c : Ice.cmpF n (.bl a) (.bl b) = Ice.cmpI (Ice.b2i a) (Ice.b2i b) := by cases n <;> rfl
      rw [t, t, c, dataLt_bool, cmpI_lt, cmpI_eq]
      refine ⟨by simp [alike], by cases a <;> cases b <;> rfl, by cases a <;> cases b <;> simp [PyData.eqv, Ice.b2i]⟩
    have int : ∀ n (a b : Int), alike (toD n (.int a)) (toD n (.int b)) = true ∧ dataLt (toD n (.int a)) (toD n (.int b)) = (Ice.cmpF n (.int a) (.int b) == .lt) ∧ PyData.eqv (toD n (.int a)) (toD n (.int b)) = (Ice.cmpF n (.int a) (.int b) == .eq) := by
      intro n a b
      have t : ∀ c, toD n (.int c) = .int c := fun c => by cases n <;> rfl
      have c : Ice.cmpF n (.int a) (.int b) = Ice.cmpI a b := by cases n <;> rfl
      rw [t, t, c, dataLt_int, cmpI_lt, cmpI_eq]
      exact ⟨by simp [alike], rfl, by simp [PyData.eqv]⟩
    have str : ∀ n (a b : List Nat), alike (toD n (.str a)) (toD n (.str b)) = true ∧ dataLt (toD n (.str a)) (toD n (.str b)) = (Ice.cmpF n (.str a) (.str b) == .lt) ∧ PyData.eqv (toD n (.str a)) (toD n (.str b)) = (Ice.cmpF n (.str a) (.str b) == .eq) := by
      intro n a b
      have t : ∀ c, toD n (.str c) = .str ⟨c.toArray⟩ := fun c => by cases n <;> rfl
      have c : Ice.cmpF n (.str a) (.str b) = Ice.cmpS a b := by cases n <;> rfl
      rw [t, t, c, dataLt_str, (cmpS_spec a b).1, (cmpS_spec a b).2]
      refine ⟨by simp [alike], rfl, ?_⟩
      show (( ⟨a.toArray⟩ : Str) == ⟨b.toArray⟩) = _
      rw [str_beq]
    cases p <;> cases q <;> first
      | exact bl n _ _
      | exact int n _ _
      | exact str n _ _
      | exact absurd rfl (hp _)
      | (cases n <;> exact absurd (show false = true from h) Bool.false_ne_true)
  induction n with
  | zero =>
    intro p q h
    cases p with
    | tup ps => cases q <;> exact absurd (show false = true from h) Bool.false_ne_true
    | _ => exact scal 0 _ q h (fun ps e => by cases e)
  | succ n ih =>
    intro p q h
    cases p with
    | tup ps =>
      cases q with
      | tup qs =>
        have h : Ice.okAll (Ice.okcF n) ps qs = true := h
        have all : ∀ (ps qs : List PV), Ice.okAll (Ice.okcF n) ps qs = true → alikeAll (ps.map (toD n)) (qs.map (toD n)) = true ∧
            PyProof.Rows.lexLt itemOrd (keyToksAll (ps.map (toD n))) (keyToksAll (qs.map (toD n))) = (Ice.cmpAll (Ice.cmpF n) ps qs == .lt) ∧ PyData.eqvAll (ps.map (toD n)) (qs.map (toD n)) = (Ice.cmpAll (Ice.cmpF n) ps qs == .eq) := by
          intro ps
          induction ps with
          | nil =>
            intro qs _
            cases qs with
            | nil => exact ⟨by simp [alikeAll], by rw [List.map_nil, lex_irrefl]; rfl, rfl⟩
            | cons q qs =>
              refine ⟨by simp [alikeAll], ?_, rfl⟩
              have e := firstLt_toks [] ((q :: qs).map (toD n)) (by simp [alikeAll])
              rw [List.map_nil, ← e]
              simp [SeqAt.firstLt, Ice.cmpAll]
          | cons p ps ih2 =>
            intro qs h
            cases qs with
            | nil =>
              refine ⟨by simp [alikeAll], ?_, rfl⟩
              have e := firstLt_toks ((p :: ps).map (toD n)) [] (by simp [alikeAll])
              rw [List.map_nil, ← e]
              simp [SeqAt.firstLt, Ice.cmpAll]
            | cons q qs =>
              have h : (Ice.okcF n p q && Ice.okAll (Ice.okcF n) ps qs) = true := h
              rw [Bool.and_eq_true] at h
              obtain ⟨a1, a2, a3⟩ := ih p q h.1
              obtain ⟨b1, b2, b3⟩ := ih2 qs h.2
              refine ⟨?_, ?_, ?_⟩
              · show alikeAll (toD n p :: ps.map (toD n)) (toD n q :: qs.map (toD n)) = true
                rw [alikeAll, a1, b1]; rfl
              · show PyProof.Rows.lexLt itemOrd (keyToksAll (toD n p :: ps.map (toD n))) (keyToksAll (toD n q :: qs.map (toD n))) = _
                unfold Ice.cmpAll
                cases hc : Ice.cmpF n p q with
                | eq =>
                  rw [hc] at a3
                  rw [dataLt_all_yes a1 a3, b2]
                | lt =>
                  rw [hc] at a2 a3
                  rw [dataLt_all_no a1 a3, a2]
                | gt =>
                  rw [hc] at a2 a3
                  rw [dataLt_all_no a1 a3, a2]
              · show PyData.eqvAll (toD n p :: ps.map (toD n)) (toD n q :: qs.map (toD n)) = _
                unfold Ice.cmpAll
                rw [PyData.eqvAll, a3, b3]
                cases hc : Ice.cmpF n p q <;> rfl
        obtain ⟨h1, h2, h3⟩ := all ps qs h
        refine ⟨?_, ?_, ?_⟩
        · show alike (.tuple (ps.map (toD n))) (.tuple (qs.map (toD n))) = true
          rw [alike]; exact h1
        · show dataLt (.tuple (ps.map (toD n))) (.tuple (qs.map (toD n))) = _
          rw [dataLt_tuple]; exact h2
        · show PyData.eqv (.tuple (ps.map (toD n))) (.tuple (qs.map (toD n))) = _
          rw [PyData.eqv]; exact h3
      | _ => exact absurd (show false = true from h) Bool.false_ne_true
    | _ => exact scal (n + 1) _ q h (fun ps e => by cases e)

section
variable {X : Cx} {G : Cfg} {n : Nat}
theorem plt_some {p q : PV} {b : Bool} (h : Ice.plt p q = some b) : Ice.okcF 12 p q = true ∧ Ice.okcF 12 p p = true ∧ Ice.okcF 12 q q = true ∧ b = Ice.ltb p q := by
  unfold Ice.plt Ice.okc at h
  split at h
  · rename_i c
    rw [Bool.and_eq_true, Bool.and_eq_true] at c
    cases h
    exact ⟨c.1.1, c.1.2, c.2, rfl⟩
  · cases h
theorem cmp_data (h : XG G X n) {pins : List (Addr × Obj)} {s : Shared} {σ : L2.St} {H : Hp} {x y : V} {v u : Value} {p q : PV} {b : Bool} (I : Inv X pins σ H s) (rp : Rep G H x p) (rq : Rep G H y q) (rx : RelV x v) (ry : RelV y u) (e : Ice.plt p q = some b) :
    ∃ as bs, Reads s.heap v (toD 12 p) as ∧ Reads s.heap u (toD 12 q) bs ∧ alike (toD 12 p) (toD 12 q) = true ∧ toD 12 p ≠ .none ∧ X.A.units + min (toD 12 p).depth (toD 12 q).depth < cLine ∧ dataLt (toD 12 p) (toD 12 q) = b := by
  obtain ⟨h1, h2, h3, rfl⟩ := plt_some e
  obtain ⟨as, ra⟩ := reads_of I h.K 12 p x v h2 rp rx
  obtain ⟨bs, rb⟩ := reads_of I h.K 12 q y u h3 rq ry
  obtain ⟨a1, a2, _⟩ := ord_spec 12 p q h1
  have un := h.room.units
  have d1 := toD_depth 12 p
  exact ⟨as, bs, ra, rb, a1, toD_ne h1, by omega, a2⟩
theorem o_lt (h : XG G X n) : OpR X (compareOp .Lt) (rP2 G Ice.pLt) := by
  intro pins s σ H x y v u Q I rx ry ⟨B, p, q, r, m, sb, ox, oy, e, g⟩
  unfold Ice.pLt Ice.ofB at e
  split at e
  · rename_i b hb
    cases e
    obtain ⟨as, bs, ra, rb, al, ne, un, e⟩ := cmp_data h I (ox.rep sb) (oy.rep sb) rx ry hb
    exact lt_data ra rb al ne un (by rw [e]; exact ⟨.bl b, H, I, rfl, g.at sb (.bl b)⟩)
  · cases e
theorem o_ge (h : XG G X n) : OpR X (compareOp .GtE) (rP2 G Ice.pGe) := by
  intro pins s σ H x y v u Q I rx ry ⟨B, p, q, r, m, sb, ox, oy, e, g⟩
  unfold Ice.pGe Ice.ofB at e
  cases hb : Ice.plt p q with
  | none => rw [hb] at e; cases e
  | some b =>
    rw [hb] at e
    cases e
    obtain ⟨as, bs, ra, rb, al, ne, un, e⟩ := cmp_data h I (ox.rep sb) (oy.rep sb) rx ry hb
    exact ge_data ra rb al ne un (by rw [e]; exact ⟨.bl (!b), H, I, rfl, g.at sb (.bl _)⟩)
theorem o_gt (h : XG G X n) : OpR X (compareOp .Gt) (rP2 G Ice.pGt) := by
  intro pins s σ H x y v u Q I rx ry ⟨B, p, q, r, m, sb, ox, oy, e, g⟩
  unfold Ice.pGt Ice.ofB at e
  split at e
  · rename_i b hb
    cases e
    obtain ⟨as, bs, ra, rb, al, ne, un, e⟩ := cmp_data h I (oy.rep sb) (ox.rep sb) ry rx hb
    exact gt_data rb ra (by rw [alike_comm]; exact al) (ne_none_both al ne) (by rw [Nat.min_comm]; exact un) (by rw [e]; exact ⟨.bl b, H, I, rfl, g.at sb (.bl b)⟩)
  · cases e
theorem o_le (h : XG G X n) : OpR X (compareOp .LtE) (rP2 G Ice.pLe) := by
  intro pins s σ H x y v u Q I rx ry ⟨B, p, q, r, m, sb, ox, oy, e, g⟩
  unfold Ice.pLe Ice.ofB at e
  cases hb : Ice.plt q p with
  | none => rw [hb] at e; cases e
  | some b =>
    rw [hb] at e
    cases e
    obtain ⟨as, bs, ra, rb, al, ne, un, e⟩ := cmp_data h I (oy.rep sb) (ox.rep sb) ry rx hb
    exact le_data rb ra (by rw [alike_comm]; exact al) (ne_none_both al ne) (by rw [Nat.min_comm]; exact un) (by rw [e]; exact ⟨.bl (!b), H, I, rfl, g.at sb (.bl _)⟩)
end
end IceS
end
section
set_option Elab.async false
set_option linter.all false
set_option maxRecDepth 100000
set_option maxHeartbeats 1000000
/-! *, in, is, subscripts, slices. -/
namespace IceS
open PySem PySem.Spec PyProof.Rows L2
open Ice (PV)

/-! ### tuple * int -/
open AutoSeq1 (wpAny_loadPart') in
theorem tuple_mul_self (l : Addr) (items : Array Value) (n : Nat) (dd : Option Addr) (sl : Array (Option Value)) (x : Int) (u : Tok) (c0 : (decide (x < -(2 ^ 63)) || decide (x ≥ 2 ^ 63)) = false) (c1 : (items.isEmpty || x == 1) = true) :
    Meets (Builtin.«tuple.__mul__» ⟨[.ref l, .int x u], []⟩) (fun _ R s => s.heap.get? l = some { cls := .type "tuple", dict := dd, data := .seq items n, slots := sl } ∧ R (.ok (.ret (Value.ref l))) s) :=
  .of_wp fun prog w A R s h => by
    obtain ⟨hp, g, d, tk, os⟩ := s
    obtain ⟨hl, h⟩ := h
    have f1 := AutoSeq1.idx_int
    wp_walk using wpAny_loadPart' hl
    repeat (first
      | (refine wpAny_ite_false (decide_eq_false (by rw [c0]; exact Bool.false_ne_true)) ?_; wp_walk using wpAny_loadPart' hl)
      | (refine wpAny_ite_true (decide_eq_true (by rw [c1])) ?_; wp_walk using wpAny_loadPart' hl))
    exact ⟨_, rfl, h⟩
open AutoSeq1 (wpAny_loadPart') in
theorem tuple_mul_none (l : Addr) (items : Array Value) (n : Nat) (dd : Option Addr) (sl : Array (Option Value)) (x : Int) (u : Tok) (c0 : (decide (x < -(2 ^ 63)) || decide (x ≥ 2 ^ 63)) = false) (c1 : (items.isEmpty || x == 1) = false) (c2 : (decide (x ≤ 0) || items.isEmpty) = true) :
    Meets (Builtin.«tuple.__mul__» ⟨[.ref l, .int x u], []⟩) (fun _ R s => s.heap.get? l = some { cls := .type "tuple", dict := dd, data := .seq items n, slots := sl } ∧
      R (.ok (.ret (Value.ref s.heap.objs.size))) { s with heap := s.heap.push { cls := Value.type "tuple", data := Data.seq #[] }, toks := s.toks }) :=
  .of_wp fun prog w A R s h => by
    obtain ⟨hp, g, d, tk, os⟩ := s
    obtain ⟨hl, h⟩ := h
    have f1 := AutoSeq1.idx_int
    wp_walk using wpAny_loadPart' hl
    repeat (first
      | (refine wpAny_ite_false (decide_eq_false (by rw [c0]; exact Bool.false_ne_true)) ?_; wp_walk using wpAny_loadPart' hl)
      | (refine wpAny_ite_false (decide_eq_false (by rw [c1]; exact Bool.false_ne_true)) ?_; wp_walk using wpAny_loadPart' hl)
      | (refine wpAny_ite_true (decide_eq_true (by rw [c2])) ?_; wp_walk using wpAny_loadPart' hl))
    exact ⟨_, rfl, h⟩

section
variable {X : Cx} {G : Cfg} {n : Nat}
theorem reps_len {α : Type} (xs : List α) (k : Nat) : (Ice.reps xs k).length = k * xs.length := by
  show (List.replicate k xs).flatten.length = _
  rw [PyProof.Rows.lm_len_rep_flat]
theorem okRep_spec {l : Nat} {j : Int} (h : Ice.okRep l j = true) : j ≤ 16777216 ∧ -16777216 ≤ j ∧ l * j.toNat ≤ 16777216 := by
  unfold Ice.okRep at h
  rw [Bool.and_eq_true, Bool.and_eq_true] at h
  exact ⟨of_decide_eq_true h.1.1, of_decide_eq_true h.1.2, of_decide_eq_true h.2⟩
theorem foldl_cps (x : Array Nat) : ∀ (m : Nat) (acc : Array Nat), ((List.replicate m x).foldl (· ++ ·) acc).toList = acc.toList ++ (List.replicate m x.toList).flatten
  | 0, acc => by simp
  | m + 1, acc => by
    rw [List.replicate_succ, List.foldl_cons, foldl_cps x m, List.replicate_succ, List.flatten_cons]
    simp
theorem o_mul (h : XG G X n) : OpR X (binaryOp .Mult) (rP2 G Ice.pMul) := by
  intro pins s σ H x y v u Q I rx ry ⟨B, p, q, r, m, sb, ox, oy, e, g⟩
  unfold Ice.pMul at e
  split at e
  · -- ints
    split at e
    · rename_i hs
      cases e
      obtain rfl := ox.int
      obtain rfl := oy.int
      refine op_mul pins s σ H _ _ v u Q I rx ry ⟨_, _, rfl, rfl, ?_, g.at sb (.int _)⟩
      rw [Bool.or_eq_true] at hs
      exact hs.imp small_bounds small_bounds
    · cases e
  · -- a text
    rename_i a j
    split at e
    · rename_i hr
      cases e
      obtain ⟨z, rfl, rfl, hz⟩ := ox.str
      obtain rfl := oy.int
      obtain ⟨t, rfl⟩ := rx
      obtain ⟨t', rfl⟩ := ry
      obtain ⟨h1, h2, h3⟩ := okRep_spec hr
      rw [str_len] at h3
      refine P.mul_str (by rw [decide_eq_false (by omega), decide_eq_false (by omega)]; rfl) (fun k1 k2 k3 => ?_) (fun k1 k2 => ?_) ?_
      · have k4' : z.length ≤ 16777216 := by rw [sizeLine_lim] at hz; exact hz
        have k4 : (z.length : Int) ≤ 16777216 := by omega
        have k5 : (2 ^ 63 - 1) / 16777216 ≤ (2 ^ 63 - 1) / j := Int.le_ediv_of_mul_le (by omega) (by
          have : ((2 ^ 63 - 1) / 16777216 : Int) * j ≤ ((2 ^ 63 - 1) / 16777216 : Int) * 16777216 := Int.mul_le_mul_of_nonneg_left h1 (by decide)
          have k6 : ((2 ^ 63 - 1) / 16777216 : Int) * 16777216 ≤ 2 ^ 63 - 1 := by decide
          omega)
        have k7 : (16777216 : Int) ≤ (2 ^ 63 - 1) / 16777216 := by decide
        omega
      · unfold Builtin.Str.tooLong
        rw [sizeLine_eq]
        exact decide_eq_false (by omega)
      · have lz : z.length = z.cps.toList.length := (str_len z).symm
        by_cases c1 : j < 1
        · rw [if_pos c1]
          have e0 : Ice.reps z.cps.toList j.toNat = [] := by rw [show j.toNat = 0 by omega]; rfl
          rw [e0] at g
          exact ⟨by decide, .str Str.empty, H, I.tok _, ⟨_, rfl⟩, g.str sb rfl (by decide)⟩
        · rw [if_neg c1]
          by_cases c2 : (j == 1 || z.length == 0) = true
          · rw [if_pos c2]
            refine ⟨.str z, H, I, ⟨_, rfl⟩, g.str sb ?_ hz⟩
            rw [Bool.or_eq_true] at c2
            rcases c2 with c2 | c2
            · have : j = 1 := by simpa using c2
              subst this
              simp [Ice.reps]
            · have : z.cps.toList = [] := List.eq_nil_of_length_eq_zero (by rw [str_len]; simpa using c2)
              rw [this]
              have : ∀ k, Ice.reps ([] : List Nat) k = [] := fun k => by simp [Ice.reps]
              rw [this]
          · rw [if_neg c2]
            have el : (List.foldl (fun x1 x2 => x1 ++ x2) #[] (List.replicate j.toNat z.cps)).toList = Ice.reps z.cps.toList j.toNat := by
              rw [foldl_cps]
              simp [Ice.reps]
            have ez : (⟨List.foldl (fun x1 x2 => x1 ++ x2) #[] (List.replicate j.toNat z.cps)⟩ : Str).length ≤ sizeLine := by
              rw [← str_len]
              show (List.foldl (fun x1 x2 => x1 ++ x2) #[] (List.replicate j.toNat z.cps)).toList.length ≤ _
              rw [el, reps_len, str_len, sizeLine_lim, Nat.mul_comm]
              exact h3
            exact ⟨ez, .str _, H, I.tok _, ⟨_, rfl⟩, g.str sb el ez⟩
    · cases e
  · -- a tuple
    rename_i ps j
    split at e
    · rename_i hr
      cases e
      obtain ⟨a, vs, rfl, ta, la⟩ := ox.tup
      obtain rfl := oy.int
      cases rx
      obtain ⟨t, rfl⟩ := ry
      obtain ⟨h1, h2, h3⟩ := okRep_spec hr
      have ta' := sb.sqT ta
      rw [← h.K] at ta'
      obtain ⟨its, rv, ⟨⟨cls, dd, data, sl⟩, ho, hc, k, hd⟩, hz⟩ := I.tuple ta'
      simp only at hc hd
      subst hc hd
      have hl : its.length = ps.length := by rw [← rv.length, la.length]
      have c0 : (decide (j < -(2 ^ 63)) || decide (j ≥ 2 ^ 63)) = false := by
        rw [decide_eq_false (by omega), decide_eq_false (by omega)] <;> rfl
      refine wpAny_binaryOp_repeat_ref (T := "tuple") (U := "int") (by decide) ⟨_, ho, rfl⟩ (fun s' => typeIs_int s' j t) noFill_tuple_mul F.fills_int_mul F.slot_int_rmul repeat_tuple F.slot_int_index.lookup
        (call_meets F.slot_int_rmul (typeIs_int s j t) F.entry_int_rmul (F.args_int_rmul_2 _ _) (int_rmul_tuple j t a its.toArray k dd sl) ⟨ho, rfl, ⟨_, ho, rfl⟩, ?_⟩)
      by_cases c1 : (its.toArray.isEmpty || j == 1) = true
      · refine call_meets F.slot_tuple_mul ⟨_, ho, rfl⟩ F.entry_tuple_mul (F.args_tuple_mul_2 _ _) (tuple_mul_self a its.toArray k dd sl j t c0 c1) ⟨ho, .ref a, H, I, rfl, ?_⟩
        have er : Ice.reps ps j.toNat = ps := by
          rw [Bool.or_eq_true] at c1
          rcases c1 with c1 | c1
          · have : its = [] := by simpa using c1
            have : ps = [] := List.eq_nil_of_length_eq_zero (by rw [← hl, this]; rfl)
            rw [this]; simp [Ice.reps]
          · have : j = 1 := by simpa using c1
            rw [this]; simp [Ice.reps]
        rw [er] at g
        exact g.at sb (.tup ta la)
      · have c1 : (its.toArray.isEmpty || j == 1) = false := by simpa using c1
        by_cases c2 : (decide (j ≤ 0) || its.toArray.isEmpty) = true
        · refine call_meets F.slot_tuple_mul ⟨_, ho, rfl⟩ F.entry_tuple_mul (F.args_tuple_mul_2 _ _) (tuple_mul_none a its.toArray k dd sl j t c0 c1 c2) ⟨ho, ?_⟩
          have er : Ice.reps ps j.toNat = [] := by
            rw [Bool.or_eq_false_iff] at c1
            rw [c1.1, Bool.or_false] at c2
            have := of_decide_eq_true c2
            rw [show j.toNat = 0 by omega]
            rfl
          rw [er] at g
          refine ⟨.ref s.heap.objs.size, _, I.laid (t' := s.toks) (o := .tup []) (fun b ob q => Heap.get?_push_of_some _ q) (Nat.le_refl _) ?_, rfl, g.tup sb .nil (I.hok.fresh (Nat.le_refl _))⟩
          exact ⟨Nat.zero_le _, [], .nil, IsTup.new _ _⟩
        · have c2 : (decide (j ≤ 0) || its.toArray.isEmpty) = false := by simpa using c2
          have sz : its.toArray.size * j.toNat ≤ 16777216 := by rw [List.size_toArray, hl]; exact h3
          have jp : 0 < j := by
            rw [Bool.or_eq_false_iff] at c2
            have := of_decide_eq_false c2.1
            omega
          have szi : ((its.toArray.size : Nat) : Int) * j ≤ 16777216 := by
            have e1 : ((its.toArray.size * j.toNat : Nat) : Int) = ((its.toArray.size : Nat) : Int) * j := by
              rw [Int.natCast_mul, Int.toNat_of_nonneg (by omega)]
            omega
          have flen : (List.replicate j.toNat its).flatten.length ≤ sizeLine := by
            rw [PyProof.Rows.lm_len_rep_flat, Nat.mul_comm, sizeLine_lim]
            simpa using sz
          refine call_meets F.slot_tuple_mul ⟨_, ho, rfl⟩ F.entry_tuple_mul (F.args_tuple_mul_2 _ _) (tuple_mulW a its.toArray k dd sl j t c0 c1 c2 (by
            have : (16777216 : Int) ≤ (2 ^ 63 - 1) / 8 := by decide
            omega) (by
              unfold Builtin.Tuple.tupleTooMany
              rw [sizeLine_eq]
              exact decide_eq_false (by omega)) (by rw [size_rep, List.size_toArray]; exact flen)) ⟨ho, ?_⟩
          rw [size_rep]
          refine ⟨.ref s.heap.objs.size, _, I.laid (t' := s.toks) (o := .tup (List.replicate j.toNat vs).flatten) (fun b ob q => Heap.get?_push_of_some _ q) (Nat.le_refl _) ?_, rfl, g.tup sb (la.reps _) (I.hok.fresh (Nat.le_refl _))⟩
          exact ⟨by rw [PyProof.Rows.lm_len_rep_flat, rv.length]; rw [PyProof.Rows.lm_len_rep_flat] at flen; exact flen, _, rv.rep j.toNat, IsTup.new _ _⟩
    · cases e
  · -- a list
    rename_i ps j
    split at e
    · rename_i hr
      cases e
      obtain ⟨a, vs, rfl, ta, la⟩ := ox.lst sb
      obtain rfl := oy.int
      obtain ⟨h1, h2, h3⟩ := okRep_spec hr
      exact op_rep pins s σ H _ _ v u Q I rx ry ⟨a, j, vs, rfl, rfl, ta, by omega, by omega, by rw [la.length, sizeLine_lim]; exact h3, fun p hp => g.lst sb (la.reps _) hp⟩
    · cases e
  · cases e
end
end IceS
end
section
set_option Elab.async false
set_option linter.all false
set_option maxRecDepth 100000
/-! in, not in, subscripts, slices, len. -/
namespace IceS
open PySem hiding Env
open PySem.Spec PyProof.Rows L2 PySem.SeqAt
open Ice (PV)

/-! ### keys -/
theorem keq_keyP (k k' : Key) : Ice.keq (keyP k) (keyP k') = some (decide (k = k')) := by
  cases k with
  | inl i =>
    cases k' with
    | inl j =>
      show some (i == j) = _
      rw [key_ll]
    | inr y =>
      show some false = _
      rw [key_lr]
  | inr x =>
    cases k' with
    | inl j =>
      show some false = _
      rw [key_rl]
    | inr y =>
      show some (x.cps.toList == y.cps.toList) = _
      rw [key_rr]
      congr 1
      rw [← str_beq]
      by_cases h : x = y
      · rw [decide_eq_true h]; simpa using h
      · rw [decide_eq_false h]; simpa using h
section
variable {G : Cfg} {B H : Hp}
/-- a key's value -/
theorem Opn.key {x : V} {p : PV} (h : Opn G B H x p) (ik : p.isKey = true) : ∃ k, x = kV k ∧ p = keyP k := by
  cases p with
  | int i => exact ⟨.inl i, h.int, rfl⟩
  | str l => obtain ⟨z, e, e2, _⟩ := h.str; exact ⟨.inr z, e, by rw [e2]; rfl⟩
  | _ => cases ik
theorem dGet_rep (k : Key) : ∀ {es : List (Key × V)} {kvs : List (PV × PV)}, RepK G B es kvs →
    (valV es k = none ∧ Ice.dGet (keyP k) kvs = some none) ∨ ∃ v p, valV es k = some v ∧ Ice.dGet (keyP k) kvs = some (some p) ∧ Rep G B v p
  | _, _, .nil => .inl ⟨rfl, rfl⟩
  | _, _, .cons (k := k') (v := v) (p := p) a t => by
    have ih := dGet_rep k t
    unfold Ice.dGet
    rw [keq_keyP]
    by_cases h : k' = k
    · rw [decide_eq_true h]
      exact .inr ⟨_, _, valV_pos h, rfl, a⟩
    · rw [decide_eq_false h, valV_neg h]
      exact ih
theorem putK_pos {es : List (Key × V)} {k k' : Key} {v v' : V} (h : k' = k) (nd : ∀ u, (k, u) ∉ es) : putK ((k', v') :: es) k v = (k', v) :: es := by
  unfold putK
  rw [if_pos (by simp [h])]
  rw [List.map_cons, if_pos h]
  congr 1
  conv => rhs; rw [← List.map_id es]
  refine List.map_congr_left fun q hq => ?_
  obtain ⟨a, b⟩ := q
  have : a ≠ k := fun z => nd b (z ▸ hq)
  exact if_neg this
theorem putK_neg {es : List (Key × V)} {k k' : Key} {v v' : V} (h : ¬ k' = k) : putK ((k', v') :: es) k v = (k', v') :: putK es k v := by
  unfold putK
  rw [List.any_cons]
  have e : decide (k' = k) = false := decide_eq_false h
  show (if (decide (k' = k) || _) = true then _ else _) = _
  rw [e, Bool.false_or]
  split
  · rw [List.map_cons, if_neg h]
  · rfl
theorem dPut_rep {k : Key} {v : V} {p : PV} (r : Rep G B v p) : ∀ {es : List (Key × V)} {kvs : List (PV × PV)}, RepK G B es kvs → (es.map (·.1)).Nodup →
    ∃ kvs', Ice.dPut (keyP k) p kvs = some kvs' ∧ RepK G B (putK es k v) kvs'
  | _, _, .nil, _ => ⟨_, rfl, .cons r .nil⟩
  | _, _, .cons (k := k') (v := v') (p := p') (es := es) (kvs := kvs) a t, nd => by
    rw [List.map_cons, List.nodup_cons] at nd
    unfold Ice.dPut
    rw [keq_keyP]
    by_cases h : k' = k
    · rw [decide_eq_true h, putK_pos h fun u hu => nd.1 (by rw [h]; exact List.mem_map_of_mem (f := (·.1)) hu)]
      exact ⟨_, rfl, .cons r t⟩
    · rw [decide_eq_false h, putK_neg h]
      obtain ⟨kvs', e, r'⟩ := dPut_rep r t nd.2
      refine ⟨(keyP k', p') :: kvs', ?_, .cons a r'⟩
      show (Ice.dPut (keyP k) p kvs).map _ = _
      rw [e]; rfl
theorem mem_putK {es : List (Key × V)} {k : Key} {v : V} : ∀ {q : Key}, q ∈ (putK es k v).map (·.1) → q = k ∨ q ∈ es.map (·.1) := by
  intro q h
  unfold putK at h
  split at h
  · obtain ⟨⟨a, b⟩, h1, h2⟩ := List.mem_map.mp h
    obtain ⟨⟨c, d⟩, h3, h4⟩ := List.mem_map.mp h1
    have h2 : a = q := h2
    right
    have : c = a := by
      split at h4
      · cases h4; rfl
      · cases h4; rfl
    rw [← h2, ← this]
    exact List.mem_map_of_mem (f := (·.1)) h3
  · rw [List.map_append] at h
    rcases List.mem_append.mp h with h | h
    · exact .inr h
    · exact .inl (List.mem_singleton.mp h)
theorem nodup_putK {k : Key} {v : V} : ∀ {es : List (Key × V)}, (es.map (·.1)).Nodup → ((putK es k v).map (·.1)).Nodup
  | [], _ => by simp [putK]
  | (k', v') :: es, nd => by
    rw [List.map_cons, List.nodup_cons] at nd
    by_cases h : k' = k
    · rw [putK_pos h fun u hu => nd.1 (by rw [h]; exact List.mem_map_of_mem (f := (·.1)) hu), List.map_cons, List.nodup_cons]
      exact nd
    · rw [putK_neg h, List.map_cons, List.nodup_cons]
      refine ⟨fun z => ?_, nodup_putK nd.2⟩
      rcases mem_putK z with z | z
      · exact h z
      · exact nd.1 z
end
section
variable {X : Cx} {G : Cfg} {n : Nat} {pins : List (Addr × Obj)} {σ : L2.St} {H : Hp} {s : Shared}
theorem kv_keys {es : List (Key × V)} : ∀ {vs : List (Key × Value)}, KV es vs → vs.map (·.1) = es.map (·.1) := by
  induction es with
  | nil => intro vs h; cases h; rfl
  | cons a es ih =>
    intro vs h
    cases h with
    | cons b t => rw [List.map_cons, List.map_cons, ih t, b.1]
theorem dk_nodup (I : Inv X pins σ H s) {a : Addr} {es : List (Key × V)} (e : H a = some (.dK es)) : (es.map (·.1)).Nodup := by
  obtain ⟨_, _, vs, r, o, l, ep, _, _, _, _, nd⟩ := dk_of I.hok e
  rw [← kv_keys r]
  exact nd.2
theorem dk_len (I : Inv X pins σ H s) {a : Addr} {es : List (Key × V)} (e : H a = some (.dK es)) : es.length ≤ sizeLine := (dk_of I.hok e).1

/-! ### in, not in -/
/-- the items' answers, by value -/
noncomputable def eIn (its : List Value) (ps : List PV) (q : PV) : Value → Bool := by
  classical exact fun u => decide (∃ (i : Nat) (p : PV), its[i]? = some u ∧ ps[i]? = some p ∧ Ice.peq p q = some true)
theorem eIn_iff {its : List Value} {ps : List PV} {q : PV} {u : Value} : eIn its ps q u = true ↔ ∃ (i : Nat) (p : PV), its[i]? = some u ∧ ps[i]? = some p ∧ Ice.peq p q = some true := by
  unfold eIn
  exact @decide_eq_true_iff _ (_)
theorem inL_all {q : PV} : ∀ {ps : List PV} {b : Bool}, Ice.inL q ps = some b → (∀ p ∈ ps, ∃ c, Ice.peq p q = some c) ∧ (b = true ↔ ∃ p ∈ ps, Ice.peq p q = some true)
  | [], b, h => by cases h; simp
  | p :: ps, b, h => by
    unfold Ice.inL at h
    split at h
    · rename_i c d h1 h2
      cases h
      obtain ⟨i1, i2⟩ := inL_all h2
      refine ⟨fun x hx => ?_, ?_⟩
      · rcases List.mem_cons.mp hx with e | hx
        · subst e; exact ⟨c, h1⟩
        · exact i1 x hx
      · rw [Bool.or_eq_true, i2]
        constructor
        · rintro (e | ⟨x, hx, e⟩)
          · subst e; exact ⟨p, List.mem_cons_self, h1⟩
          · exact ⟨x, List.mem_cons_of_mem _ hx, e⟩
        · rintro ⟨x, hx, e⟩
          rcases List.mem_cons.mp hx with z | hx
          · subst z; rw [h1] at e; cases e; exact .inl rfl
          · exact .inr ⟨x, hx, e⟩
    · cases h
theorem in_items (I : Inv X pins σ H s) (g : XG G X n) {vs : List V} {ps : List PV} {its : List Value} {y : V} {u : Value} {q : PV} {b : Bool} (rl : RepL G H vs ps) (rv : Vals vs its) (ry : Rep G H y q) (rv' : RelV y u) (h : Ice.inL q ps = some b) :
    (∀ w, w ∈ its.toArray → EqAt X.A.in1 s w u (eIn its ps q w)) ∧ its.toArray.any (eIn its ps q) = b := by
  obtain ⟨h1, h2⟩ := inL_all h
  have un := g.room.units
  have at' : ∀ (i : Nat) (w : Value), its[i]? = some w → ∃ v p, ps[i]? = some p ∧ vs[i]? = some v ∧ RelV v w ∧ Rep G H v p := fun i w hw => by
    cases hv : vs[i]? with
    | none => rw [rv.none_of hv] at hw; cases hw
    | some v =>
      obtain ⟨w', e1, e2⟩ := rv.get hv
      rw [hw] at e1; cases e1
      obtain ⟨p, e3, e4⟩ := rl.getV hv
      exact ⟨v, p, e3, rfl, e2, e4⟩
  have key : ∀ (i : Nat) (w : Value) (p : PV) (c : Bool), its[i]? = some w → ps[i]? = some p → Ice.peq p q = some c → eIn its ps q w = c := fun i w p c hw hp hc => by
    obtain ⟨v, p', e1, e2, e3, e4⟩ := at' i w hw
    rw [hp] at e1; cases e1
    cases c with
    | true => exact eIn_iff.mpr ⟨i, p, hw, hp, hc⟩
    | false =>
      refine Bool.eq_false_iff.mpr fun z => ?_
      obtain ⟨j, p2, f1, f2, f3⟩ := eIn_iff.mp z
      obtain ⟨v2, p3, k1, k2, k3, k4⟩ := at' j w f1
      rw [f2] at k1; cases k1
      have ev := e3.inj k3
      subst ev
      rw [rep_inj I g e4 k4, f3] at hc
      cases hc
  refine ⟨fun w hw => ?_, ?_⟩
  · obtain ⟨i, hi⟩ := List.mem_iff_getElem?.mp (show w ∈ its by simpa using hw)
    obtain ⟨v, p, e1, e2, e3, e4⟩ := at' i w hi
    obtain ⟨c, hc⟩ := h1 p (List.mem_of_getElem? e1)
    rw [key i w p c hi e1 hc]
    exact (eq3 I g.K 12 X.A.in1 (by show X.A.units + 1 + 12 < cLine; omega) p q c hc v y w u e4 ry e3 rv').eq
  · rw [Bool.eq_iff_iff, h2, Array.any_eq_true']
    constructor
    · rintro ⟨w, hw, e⟩
      obtain ⟨i, p, e1, e2, e3⟩ := eIn_iff.mp e
      exact ⟨p, List.mem_of_getElem? e2, e3⟩
    · rintro ⟨p, hp, e⟩
      obtain ⟨i, hi⟩ := List.mem_iff_getElem?.mp hp
      obtain ⟨v, hv, rp⟩ := rl.get hi
      obtain ⟨w, hw, _⟩ := rv.get hv
      exact ⟨w, by simpa using List.mem_of_getElem? hw, key i w p true hw hi e⟩
theorem str1 {z : Str} {c : Nat} (h : [c] = z.cps.toList) : z = ⟨#[c]⟩ := by
  cases z with | mk z =>
  have h : [c] = z.toList := h
  have : z = #[c] := Array.toList_inj.mp (by rw [← h])
  rw [this]
theorem o_in2 (g : XG G X n) {x y : V} {v u : Value} {B : Hp} {p q : PV} {b : Bool} (I : Inv X pins σ H s) (rx : RelV x v) (ry : RelV y u) (sb : Sub B H) (ox : Opn G B H x p) (oy : Opn G B H y q) (e : Ice.pIn p q = some b) :
    (∀ Q : VK, Q (.bl b) H → wpAny (model X.prog X.w) X.A (compareOp .In v u) (EP X pins σ Q) X.xe s) ∧ (∀ Q : VK, Q (.bl (!b)) H → wpAny (model X.prog X.w) X.A (compareOp .NotIn v u) (EP X pins σ Q) X.xe s) := by
  unfold Ice.pIn at e
  split at e
  · obtain ⟨a, vs, rfl, ta, la⟩ := oy.tup
    cases ry
    obtain ⟨its, rv, pl, _⟩ := I.tuple (g.K ▸ sb.sqT ta)
    obtain ⟨h1, h2⟩ := in_items I g (la.mono sb) rv (ox.rep sb) rx e
    have il : s.heap.IsTuple a its.toArray := by
      obtain ⟨o, e1, e2, m, e3⟩ := pl
      exact ⟨o, e1, e2, m, e3⟩
    exact ⟨fun Q q => in_tupleAt _ il h1 ⟨.bl b, H, I, by rw [h2]; rfl, q⟩, fun Q q => notIn_tupleAt _ il h1 ⟨.bl (!b), H, I, by rw [h2]; rfl, q⟩⟩
  · obtain ⟨a, vs, rfl, ta, la⟩ := oy.lst sb
    cases ry
    obtain ⟨its, rv, pl, _⟩ := I.list (SqL.of ta)
    obtain ⟨h1, h2⟩ := in_items I g (la.mono sb) rv (ox.rep sb) rx e
    exact ⟨fun Q q => in_listAt _ pl.isList h1 ⟨.bl b, H, I, by rw [h2]; rfl, q⟩, fun Q q => notIn_listAt _ pl.isList h1 ⟨.bl (!b), H, I, by rw [h2]; rfl, q⟩⟩
  · rename_i kvs
    split at e
    · rename_i ik
      obtain ⟨a, es, rfl, ta, la⟩ := oy.dct sb
      cases ry
      cases hd : Ice.dGet p kvs with
      | none => rw [hd] at e; cases e
      | some o =>
        rw [hd] at e
        cases e
        obtain ⟨kk, rfl, rfl⟩ := ox.key ik
        have un := g.room.units
        have go : o.isSome = (valV es kk).isSome := by
          rcases dGet_rep kk la with ⟨h1, h2⟩ | ⟨_, _, h1, h2, _⟩
          · rw [h2] at hd; cases hd; rw [h1]; rfl
          · rw [h2] at hd; cases hd; rw [h1]; rfl
        exact ⟨fun Q q => d_in (by omega) I (.k ta) rx fun s' I' => ⟨.bl o.isSome, H, I', by rw [go]; rfl, q⟩, fun Q q => d_notIn (by omega) I (.k ta) rx fun s' I' => ⟨.bl (!o.isSome), H, I', by rw [go]; rfl, q⟩⟩
    · cases e
  · split at e
    · rename_i l c
      cases e
      obtain ⟨z, rfl, rfl, _⟩ := oy.str
      obtain ⟨z2, rfl, e2, _⟩ := ox.str
      obtain rfl := str1 e2
      have hb : z.cps.toList.contains c = decide (c ∈ z.cps.toList) := by rw [List.contains_eq_mem]
      exact ⟨fun Q q => op_in_sign pins s σ H _ _ v u Q I rx ry ⟨c, z, rfl, rfl, by rw [← hb]; exact q⟩, fun Q q => op_notIn_sign pins s σ H _ _ v u Q I rx ry ⟨c, z, rfl, rfl, by rw [← hb]; exact q⟩⟩
    · cases e
  · cases e
end
end IceS
end
section
set_option Elab.async false
set_option linter.all false
set_option maxRecDepth 100000
/-! in, not in, subscripts, slices, len, tuple, list, int, str, abs. -/
namespace IceS
open PySem hiding Env
open PySem.Spec PyProof.Rows L2 PySem.SeqAt
open Ice (PV)
section
variable {X : Cx} {G : Cfg} {n : Nat}
theorem o_inn (g : XG G X n) : OpR X (compareOp .In) (rP2 G Ice.pInn) := by
  intro pins s σ H x y v u Q I rx ry ⟨B, p, q, r, m, sb, ox, oy, e, gv⟩
  unfold Ice.pInn Ice.ofB at e
  split at e
  · rename_i b hb
    cases e
    exact (o_in2 g I rx ry sb ox oy hb).1 Q (gv.at sb (.bl _))
  · cases e
theorem o_nin (g : XG G X n) : OpR X (compareOp .NotIn) (rP2 G Ice.pNin) := by
  intro pins s σ H x y v u Q I rx ry ⟨B, p, q, r, m, sb, ox, oy, e, gv⟩
  unfold Ice.pNin at e
  cases hb : Ice.pIn p q with
  | none => rw [hb] at e; cases e
  | some b =>
    rw [hb] at e
    cases e
    exact (o_in2 g I rx ry sb ox oy hb).2 Q (gv.at sb (.bl _))
/-! ### a[i] -/
theorem atIx_atI {α : Type} (xs : List α) (i : Int) : Ice.atIx xs i = atI xs i := by
  unfold Ice.atIx atI
  show (match ixN xs.length i with | some k => xs[k]? | none => none) = (ixN xs.length i).bind _
  cases ixN xs.length i <;> rfl
theorem atI_rep {B : Hp} {vs : List V} {ps : List PV} {i : Int} {p : PV} (r : RepL G B vs ps) (h : Ice.atIx ps i = some p) : ∃ v, atI vs i = some v ∧ Rep G B v p := by
  rw [atIx_atI] at h
  unfold atI at h ⊢
  rw [r.length]
  cases e : ixN ps.length i with
  | none => rw [e] at h; cases h
  | some k =>
    rw [e] at h
    obtain ⟨v, e1, e2⟩ := r.get h
    exact ⟨v, e1, e2⟩
theorem nx_ix : ∀ p q c, Ice.pIx p q ≠ .exn c := by intro p q c; unfold Ice.pIx; (repeat' split) <;> (intro h; cases h)
theorem i_ix (g : XG G X n) : IxR X (rP2 G Ice.pIx) := by
  intro value slice pins s σ H x y v u Q I rx ry ⟨B, p, q, r, m, sb, ox, oy, e, gv⟩ hs
  unfold Ice.pIx at e
  split at e
  · split at e
    · rename_i v' hv
      cases e
      obtain ⟨a, vs, rfl, ta, la⟩ := ox.tup
      obtain rfl := oy.int
      obtain ⟨w, h1, h2⟩ := atI_rep la hv
      exact ix_tup value slice pins s σ H _ _ v u Q I rx ry ⟨a, vs, _, w, rfl, rfl, g.K ▸ sb.sqT ta, h1, gv.at sb h2⟩ hs
    · cases e
  · split at e
    · rename_i v' hv
      cases e
      obtain ⟨a, vs, rfl, ta, la⟩ := ox.lst sb
      obtain rfl := oy.int
      obtain ⟨w, h1, h2⟩ := atI_rep la hv
      exact ix_list value slice pins s σ H _ _ v u Q I rx ry ⟨a, vs, _, w, rfl, rfl, SqL.of ta, h1, gv.at sb h2⟩ hs
    · cases e
  · split at e
    · rename_i c hv
      cases e
      obtain ⟨z, rfl, rfl, hz⟩ := ox.str
      obtain rfl := oy.int
      rw [atIx_atI] at hv
      exact ix_str value slice pins s σ H _ _ v u Q I rx ry ⟨z, _, c, rfl, rfl, hz, hv, gv.str sb rfl (by rw [sizeLine_eq]; exact (by decide : 1 ≤ 16777216))⟩ hs
    · cases e
  · split at e
    · rename_i kvs ik
      split at e
      · rename_i v' hv
        cases e
        obtain ⟨a, es, rfl, ta, la⟩ := ox.dct sb
        cases rx
        obtain ⟨kk, rfl, rfl⟩ := oy.key ik
        have un := g.room.units
        rcases dGet_rep kk la with ⟨h1, h2⟩ | ⟨w, p, h1, h2, rp⟩
        · rw [h2] at hv; cases hv
        · rw [h2] at hv
          cases hv
          have dg : DGet H a (kV kk) (some w) := by rw [← h1]; exact .k ta
          exact tail_any (dict_typeIs I dg) PySem.F.slot_dict_getitem.lookup (d_getItem (by omega) I dg ry fun w' s' I' rw' => ⟨w, H, I', rw', gv.at sb rp⟩) hs
      · cases e
    · cases e
  · cases e
/-! ### a[lo:hi] -/
def rCut (G : Cfg) : V → Option Int → Option Int → Hp → VK → Prop := fun x lo hi H Q => ∃ B p r n, Sub B H ∧ Opn G B H x p ∧ Ice.pCut lo hi p = .ok (r, n) ∧ Gives G B H Q r n
theorem sIx_lo (n : Nat) (lo : Option Int) : HT.sIx n 0 lo = (match lo with | some i => Ice.clampI n i | none => 0) := by
  cases lo <;> rfl
theorem sIx_hi (n : Nat) (lo : Option Int) : HT.sIx n n lo = (match lo with | some i => Ice.clampI n i | none => n) := by
  cases lo <;> rfl
theorem cutL_eq {α : Type} (xs : List α) (lo hi : Option Int) : Ice.cutL xs lo hi = (xs.drop (HT.sIx xs.length 0 lo)).take (HT.sIx xs.length xs.length hi - HT.sIx xs.length 0 lo) := by
  rw [sIx_lo, sIx_hi]
  rfl
theorem cut_rep {B : Hp} {vs : List V} {ps : List PV} (r : RepL G B vs ps) (lo hi : Option Int) : RepL G B (cutV vs lo hi) (Ice.cutL ps lo hi) := by
  rw [cutL_eq, ← r.length]
  exact (r.drop _).take _
theorem nx_cut (lo hi : Option Int) : ∀ p c, Ice.pCut lo hi p ≠ .exn c := by intro p c; unfold Ice.pCut; (repeat' split) <;> (intro h; cases h)
theorem i_cut (g : XG G X n) : L2.SlR X (rCut G) := by
  intro pins s σ H x v vl vu lo hi sl Q I rx hs pl pu ⟨B, p, r, m, sb, ox, e, gv⟩
  unfold Ice.pCut at e
  split at e
  · cases e
    obtain ⟨a, vs, rfl, ta, la⟩ := ox.tup
    refine sl_tupA pins s σ H _ v vl vu lo hi sl Q I rx hs pl pu ⟨a, vs, rfl, g.K ▸ sb.sqT ta, fun hw => ?_, fun _ p hp => gv.tup sb (cut_rep la lo hi) hp⟩
    rw [la.length] at hw
    rw [cutL_eq, hw.1, hw.2, List.drop_zero, Nat.sub_zero, List.take_length] at gv
    exact gv.at sb (.tup ta la)
  · cases e
    obtain ⟨a, vs, rfl, ta, la⟩ := ox.lst sb
    exact sl_list pins s σ H _ v vl vu lo hi sl Q I rx hs pl pu ⟨a, vs, rfl, SqL.of ta, fun p hp => gv.lst sb (cut_rep la lo hi) hp⟩
  · cases e
    obtain ⟨z, rfl, rfl, hz⟩ := ox.str
    refine sl_str pins s σ H _ v vl vu lo hi sl Q I rx hs pl pu ⟨z, rfl, hz, gv.str sb ?_ ?_⟩
    · rw [cutL_eq, str_len]; rfl
    · rw [← str_len]
      show ((List.take _ (List.drop _ z.cps.toList)).toArray.toList).length ≤ _
      simp only [List.length_take, List.length_drop]
      rw [← str_len] at hz
      omega
  · cases e
/-! ### len -/
theorem nx_len : ∀ p c, Ice.pLen p ≠ .exn c := by intro p c; unfold Ice.pLen; (repeat' split) <;> (intro h; cases h)
theorem c_len (g : XG G X n) : CallR X (.builtin "len") (rC1 G Ice.pLen) := by
  intro pins s σ H xs us Q I r ⟨x, hx, B, p, q, m, sb, ox, e, gv⟩
  subst hx
  obtain ⟨u, rfl, rx⟩ := vals1 r
  unfold Ice.pLen at e
  split at e
  · cases e
    obtain ⟨a, vs, rfl, ta, la⟩ := ox.tup
    exact call_len pins s σ H _ _ Q I r ⟨_, vs.length, rfl, .inr ⟨vs, g.K ▸ sb.sqT ta, rfl⟩, by rw [la.length]; exact gv.at sb (.int _)⟩
  · cases e
    obtain ⟨a, vs, rfl, ta, la⟩ := ox.lst sb
    exact call_len pins s σ H _ _ Q I r ⟨_, vs.length, rfl, .inl ⟨vs, SqL.of ta, rfl⟩, by rw [la.length]; exact gv.at sb (.int _)⟩
  · cases e
    obtain ⟨z, rfl, rfl, hz⟩ := ox.str
    exact call_len pins s σ H _ _ Q I r ⟨_, z.length, rfl, ⟨hz, rfl⟩, by rw [← str_len]; exact gv.at sb (.int _)⟩
  · cases e
    obtain ⟨a, es, rfl, ta, la⟩ := ox.dct sb
    cases rx
    exact d_len I (.inl ta) fun t s' I' => ⟨.int es.length, H, I', ⟨t, rfl⟩, by rw [la.length]; exact gv.at sb (.int _)⟩
  · cases e
/-! ### tuple, list, int, str, abs -/
theorem str_items (z : Str) : z.cps.toList.map (fun c => PV.str [c]) = z.cps.toList.map fun c => PV.str [c] := rfl
theorem nx_tuple : ∀ p c, Ice.pTuple p ≠ .exn c := by intro p c; unfold Ice.pTuple; (repeat' split) <;> (intro h; cases h)
theorem nx_list : ∀ p c, Ice.pList p ≠ .exn c := by intro p c; unfold Ice.pList; (repeat' split) <;> (intro h; cases h)
theorem nx_int : ∀ p c, Ice.pInt p ≠ .exn c := by intro p c; unfold Ice.pInt; (repeat' split) <;> (intro h; cases h)
theorem nx_str : ∀ p c, Ice.pStr p ≠ .exn c := by intro p c; unfold Ice.pStr; (repeat' split) <;> (intro h; cases h)
theorem nx_abs : ∀ p c, Ice.pAbs p ≠ .exn c := by intro p c; unfold Ice.pAbs; (repeat' split) <;> (intro h; cases h)
theorem c_int (g : XG G X n) : CallR X (.type "int") (rC1 G Ice.pInt) := by
  intro pins s σ H xs us Q I r ⟨x, hx, B, p, q, m, sb, ox, e, gv⟩
  subst hx
  unfold Ice.pInt at e
  split at e
  · cases e
    obtain rfl := ox.int
    exact call_int1 pins s σ H _ us Q I r (.inl ⟨_, rfl, gv.at sb (.int _)⟩)
  · cases e
    obtain rfl := ox.bl
    exact call_int1 pins s σ H _ us Q I r (.inr ⟨_, rfl, gv.at sb (.int _)⟩)
  · cases e
theorem c_abs (g : XG G X n) : CallR X (.builtin "abs") (rC1 G Ice.pAbs) := by
  intro pins s σ H xs us Q I r ⟨x, hx, B, p, q, m, sb, ox, e, gv⟩
  subst hx
  unfold Ice.pAbs at e
  split at e
  · cases e
    obtain rfl := ox.int
    exact call_abs pins s σ H _ us Q I r ⟨_, rfl, gv.at sb (.int _)⟩
  · cases e
/-- as items: a list or a tuple -/
theorem Opn.seq {B H : Hp} {x : V} {p : PV} {ps : List PV} (s : Sub B H) (h : Opn G B H x p) (e : Ice.seqOf p = some ps) : ∃ a vs, x = .ref a ∧ (SqL G.K H a vs ∨ SqT G.K H a vs) ∧ RepL G B vs ps := by
  unfold Ice.seqOf at e
  split at e
  · cases e
    obtain ⟨a, vs, rfl, ta, la⟩ := h.tup
    exact ⟨a, vs, rfl, .inr (s.sqT ta), la⟩
  · cases e
    obtain ⟨a, vs, rfl, ta, la⟩ := h.lst s
    exact ⟨a, vs, rfl, .inl (SqL.of ta), la⟩
  · cases e
end
end IceS
end
section
set_option Elab.async false
set_option linter.all false
set_option maxRecDepth 100000
/-! What a piece of code does: the judgements. -/
namespace IceS
open PySem hiding Env
open PySem.Spec PyProof.Rows L2
open Ice (PV Slot Env FE Ev Op Opd gS sS)

def wpR {α : Type} (W : Nat → Prop) (r : Ice.R α) (P : α → Prop) : Prop := match r with
  | .ok a => P a
  | .exn c => W c
  | .stuck => False
theorem wpR.bind {α β : Type} {W : Nat → Prop} {r : Ice.R α} {f : α → Ice.R β} {P : β → Prop} (h : wpR W (r.bind f) P) : wpR W r fun a => wpR W (f a) P := by
  cases r with
  | ok a => exact h
  | exn c => exact h
  | stuck => exact h
theorem wpR.mono {α : Type} {W W' : Nat → Prop} {r : Ice.R α} {P P' : α → Prop} (h : wpR W r P) (hw : ∀ c, W c → W' c) (hp : ∀ a, r = .ok a → P a → P' a) : wpR W' r P' := by
  cases r with
  | ok a => exact hp a rfl h
  | exn c => exact hw c h
  | stuck => exact h
theorem wpR.ok {α : Type} {W : Nat → Prop} {r : Ice.R α} {a : α} {P : α → Prop} (h : wpR W r P) (e : r = .ok a) : P a := by subst e; exact h
theorem wpR.calm {α : Type} {W : Nat → Prop} {r : Ice.R α} {P : α → Prop} (h : wpR W r.calm P) : wpR (fun _ => False) r P := by
  cases r with
  | ok a => exact h
  | exn c => exact h
  | stuck => exact h

/-! ### slots -/
def kd : Slot → Nat
  | .un => 0 | .val _ => 0 | .own _ => 1 | .ow2 _ => 1 | .lok _ => 2 | .par _ => 3 | .xt _ => 0 | .lk2 _ => 4
theorem gS_sS : ∀ {ρ : Env} {i j : Nat} {x : Slot}, gS (sS ρ i x) j = if i = j ∧ i < ρ.length then x else gS ρ j
  | [], i, j, x => by simp [Ice.gS, Ice.sS]
  | s :: r, 0, 0, x => by simp [Ice.gS, Ice.sS]
  | s :: r, 0, j + 1, x => by simp [Ice.gS, Ice.sS]
  | s :: r, i + 1, 0, x => by simp [Ice.gS, Ice.sS]
  | s :: r, i + 1, j + 1, x => by
    simp only [Ice.sS, Ice.gS_succ, gS_sS, List.length_cons, Nat.add_lt_add_iff_right, Nat.add_right_cancel_iff]
theorem sS_len : ∀ {ρ : Env} {i : Nat} {x : Slot}, (sS ρ i x).length = ρ.length
  | [], _, _ => rfl
  | s :: r, 0, _ => rfl
  | s :: r, i + 1, x => by simp [Ice.sS, sS_len]
theorem gS_lt : ∀ {ρ : Env} {i : Nat}, gS ρ i ≠ .un → i < ρ.length
  | [], i, h => absurd rfl h
  | s :: r, 0, h => by simp
  | s :: r, i + 1, h => by simpa using gS_lt (ρ := r) (i := i) h
theorem gS_same {ρ : Env} {i : Nat} {x : Slot} (h : i < ρ.length) : gS (sS ρ i x) i = x := by rw [gS_sS, if_pos ⟨rfl, h⟩]
theorem gS_ne {ρ : Env} {i j : Nat} {x : Slot} (h : i ≠ j) : gS (sS ρ i x) j = gS ρ j := by rw [gS_sS, if_neg (fun q => h q.1)]
theorem gσ_set {σ : L2.St} {i j : Nat} {v : V} : gσ (σ.set i (some v)) j = if i = j ∧ i < σ.length then some v else gσ σ j := by
  unfold gσ
  by_cases h : i = j
  · subst h
    by_cases hl : i < σ.length
    · rw [if_pos ⟨rfl, hl⟩, List.getElem?_set_self hl]; rfl
    · rw [if_neg (fun q => hl q.2), List.set_eq_of_length_le (by omega)]
  · rw [if_neg (fun q => h q.1), List.getElem?_set_ne h]
theorem gσ_same {σ : L2.St} {i : Nat} {v : V} (h : i < σ.length) : gσ (σ.set i (some v)) i = some v := by rw [gσ_set, if_pos ⟨rfl, h⟩]
theorem gσ_ne {σ : L2.St} {i j : Nat} {v : V} (h : i ≠ j) : gσ (σ.set i (some v)) j = gσ σ j := by rw [gσ_set, if_neg (fun q => h q.1)]
theorem gσ_some {σ : L2.St} {i : Nat} {v : V} (h : gσ σ i = some v) : σ[i]? = some (some v) := by
  unfold gσ at h
  cases e : σ[i]? with
  | none => rw [e] at h; cases h
  | some o => rw [e] at h; cases o <;> simp_all
/-- what may be written -/
def Wr (ρ : Env) (L : Nat → List Addr) (a : Addr) : Prop := ∃ i, a ∈ L i ∧ kd (gS ρ i) ≠ 2 ∧ kd (gS ρ i) ≠ 4

section
variable {G : Cfg} {B H : Hp} {σ : L2.St} {ρ : Env} {L : Nat → List Addr}
theorem SlR.kd0 {x : Option V} {s : Slot} {l : List Addr} (h : SlR G B H x s l) (e : kd s = 0) : l = [] := by
  cases h <;> first | rfl | (exact absurd e (by decide)) | exact absurd e (by simp [kd])
theorem SlR.par' {x : Option V} {s : Slot} {l : List Addr} (h : SlR G B H x s l) (e : kd s = 3) : ∃ a p, x = some (.ref a) ∧ s = .par p ∧ l = [a] ∧ B a = none ∧ ObjR G B H a p := by
  cases h with
  | par h1 h2 => exact ⟨_, _, rfl, rfl, rfl, h1, h2⟩
  | _ => exact absurd e (by simp [kd])

/-- behind a piece of code -/
structure Aft (G : Cfg) (B H : Hp) (ρ : Env) (L : Nat → List Addr) (σ : L2.St) (B' H' : Hp) (ρ' : Env) (L' : Nat → List Addr) (σ' : L2.St) : Prop where
  st : StR G B' σ' H' ρ' L'
  ext : Ext (Wr ρ L) (Mem L) B H B' H'
  own : ∀ i a, a ∈ L' i → (a ∈ L i ∧ kd (gS ρ' i) = kd (gS ρ i)) ∨ (H a = none ∧ kd (gS ρ' i) ≠ 3)
  par : ∀ i, kd (gS ρ i) = 3 → kd (gS ρ' i) = 3 ∧ gσ σ' i = gσ σ i
theorem Aft.refl (S : StR G B σ H ρ L) : Aft G B H ρ L σ B H ρ L σ := ⟨S, Ext.refl, fun i a h => .inl ⟨h, rfl⟩, fun i h => ⟨h, rfl⟩⟩
theorem Aft.wr {B' H' : Hp} {ρ' : Env} {L' : Nat → List Addr} {σ' : L2.St} (A : Aft G B H ρ L σ B' H' ρ' L' σ') {a : Addr} (h : Wr ρ' L' a) : Wr ρ L a ∨ H a = none := by
  obtain ⟨i, hi, hk⟩ := h
  rcases A.own i a hi with ⟨h1, h2⟩ | ⟨h1, _⟩
  · exact .inl ⟨i, h1, h2 ▸ hk⟩
  · exact .inr h1
theorem Aft.trans {B1 H1 B2 H2 : Hp} {ρ1 ρ2 : Env} {L1 L2' : Nat → List Addr} {σ1 σ2 : L2.St} (A : Aft G B H ρ L σ B1 H1 ρ1 L1 σ1) (C : Aft G B1 H1 ρ1 L1 σ1 B2 H2 ρ2 L2' σ2) : Aft G B H ρ L σ B2 H2 ρ2 L2' σ2 := by
  refine ⟨C.st, A.ext.trans C.ext (fun a h => A.wr h) (fun a ⟨i, h⟩ => (A.own i a h).imp (fun z => ⟨i, z.1⟩) fun z => z.1), fun i a h => ?_, fun i h => ?_⟩
  · rcases C.own i a h with ⟨h1, h2⟩ | ⟨h1, h2⟩
    · rcases A.own i a h1 with ⟨h3, h4⟩ | ⟨h3, h4⟩
      · exact .inl ⟨h3, h2.trans h4⟩
      · exact .inr ⟨h3, h2 ▸ h4⟩
    · exact .inr ⟨A.ext.dm a h1, h2⟩
  · obtain ⟨h1, h2⟩ := A.par i h
    obtain ⟨h3, h4⟩ := C.par i h1
    exact ⟨h3, h4.trans h2⟩
/-- behind what touched no slot -/
theorem Aft.ext0 {B' H' : Hp} (S : StR G B σ H ρ L) (e : Ext NoM NoM B H B' H') (s : Sub B' H') : Aft G B H ρ L σ B' H' ρ L σ :=
  ⟨S.ext e s (fun _ _ h => h) (fun _ _ h => h), e.weak (fun _ h => h.elim) (fun _ h => h.elim), fun i a h => .inl ⟨h, rfl⟩, fun i h => ⟨h, rfl⟩⟩

/-- a new thing is no slot's -/
def Nb (L : Nat → List Addr) (v : V) (n : Bool) : Prop := n = true → ∀ a, v = .ref a → ∀ i, a ∉ L i
theorem nb_old {L : Nat → List Addr} {v : V} : Nb L v false := fun h => absurd h Bool.false_ne_true
theorem nb_new {B' H' : Hp} {v : V} {p : PV} {n : Bool} {σ' : L2.St} {ρ' : Env} (S : StR G B σ H ρ L) (S2 : StR G B' σ' H' ρ' L) (r : Res G B' H H' v p n) : Nb L v n := by
  intro hn a e i hi
  cases r with
  | old _ => cases hn
  | new h1 h2 h3 =>
    cases e
    obtain ⟨_, o, h4⟩ := S.own ⟨i, hi⟩
    rw [h2] at h4; cases h4
  | xt h1 h2 h3 =>
    cases e
    obtain ⟨h4, _⟩ := S2.own ⟨i, hi⟩
    rw [h1] at h4; cases h4
/-- it is shared -/
theorem StR.share {a : Addr} {o : HO} (S : StR G B σ H ρ L) (hb : B a = none) (ho : H a = some o) (hl : ∀ i, a ∉ L i) : StR G (upd B a o) σ H ρ L := by
  refine ⟨S.len, fun b x e => ?_, fun i => ?_, S.dist⟩
  · by_cases h : b = a
    · subst h; rw [upd_same] at e; cases e; exact ho
    · rw [upd_ne h] at e; exact S.sub _ _ e
  · refine (S.slot i).mono (Sub.updB hb) (fun b h => ?_) fun _ _ _ h => h
    have : b ≠ a := fun z => hl i (z ▸ h)
    rw [upd_ne this]
    exact (S.own ⟨i, h⟩).1
theorem Aft.share {B' H' : Hp} {ρ' : Env} {L' : Nat → List Addr} {σ' : L2.St} {v : V} {p : PV} {n : Bool} (A : Aft G B H ρ L σ B' H' ρ' L' σ') (r : Res G B' H H' v p n) (nb : Nb L' v n) :
    ∃ B2, Aft G B H ρ L σ B2 H' ρ' L' σ' ∧ Rep G B2 v p := by
  cases r with
  | old r => exact ⟨B', A, r⟩
  | new h1 h2 h3 =>
    rename_i a
    obtain ⟨o, ho⟩ := h3.there
    refine ⟨upd B' a o, ⟨A.st.share h1 ho (nb rfl a rfl), ⟨A.ext.bb.trans (Sub.updB h1), A.ext.hh, fun b x e q => ?_, A.ext.dm⟩, A.own, A.par⟩, h3.share h1 ho⟩
    by_cases hb : b = a
    · subst hb; exact .inl h2
    · rw [upd_ne hb] at e; exact A.ext.nw b x e q
  | xt h1 h2 h3 => exact ⟨B', A, Rep.xt h1 h3⟩
end

/-! ### the readings -/
section
variable (G : Cfg) (F : FE) (W : Nat → Prop)
def tE (d : Ev) : TE := fun σ H Q => ∃ B ρ L, StR G B σ H ρ L ∧ wpR W (d F ρ) fun (p, n, ρ1) => ∀ v B1 H1 L1, Aft G B H ρ L σ B1 H1 ρ1 L1 σ → Res G B1 H H1 v p n → Nb L1 v n → Q v H1
/-- an operand -/
def OpdR (B : Hp) (σ : L2.St) (v : V) : Opd → Prop
  | .val p => Rep G B v p
  | .ref i => gσ σ i = some v
  | .ref2 _ _ => False
def tO (o : Op) : TE := fun σ H Q => ∃ B ρ L, StR G B σ H ρ L ∧ wpR W (o F ρ) fun (x, ρ1) => ∀ v B1 H1 L1, Aft G B H ρ L σ B1 H1 ρ1 L1 σ → OpdR G B1 σ v x → Q v H1
def tT (d : Ev) : TT := fun σ H Q => ∃ B ρ L, StR G B σ H ρ L ∧ wpR W (Ice.tst d F ρ) fun (b, ρ1) => ∀ B1 H1 L1, Aft G B H ρ L σ B1 H1 ρ1 L1 σ → Q b H1
end
section
variable {G : Cfg} {B B' H H' : Hp} {σ : L2.St} {ρ ρ' : Env} {L L' : Nat → List Addr}
theorem OpdR.mono {v : V} {x : Opd} (h : OpdR G B σ v x) (s : Sub B B') : OpdR G B' σ v x := by
  cases x with
  | val p => exact Rep.mono s h
  | ref i => exact h
  | ref2 i k => exact h
theorem OpdR.opn {v : V} {x : Opd} {p : PV} (h : OpdR G B σ v x) (S : StR G B σ H ρ L) (e : Ice.deref ρ x = .ok p) : Opn G B H v p := by
  cases x with
  | val q => cases e; exact .old h
  | ref2 i k => exact h.elim
  | ref i =>
    have h : gσ σ i = some v := h
    have s := S.slot i
    rw [h] at s
    have e : (match gS ρ i with | .own p => Ice.R.ok p | .lok p => .ok p | .par p => .ok p | .val p => .ok p | .ow2 _ => .stuck | .xt _ => .stuck | .lk2 _ => .stuck | .un => .stuck) = Ice.R.ok p := e
    cases hs : gS ρ i with
    | un => rw [hs] at e; cases e
    | val q => rw [hs] at e s; cases e; generalize L i = l at s; cases s with | val r => exact .old r
    | own q => rw [hs] at e s; cases e; generalize L i = l at s; cases s with | own _ o => exact .own o
    | lok q => rw [hs] at e s; cases e; generalize L i = l at s; cases s with | lok _ o => exact .own o
    | par q => rw [hs] at e s; cases e; generalize L i = l at s; cases s with | par _ o => exact .own o
    | ow2 q => rw [hs] at e; cases e
    | xt q => rw [hs] at e; cases e
    | lk2 q => rw [hs] at e; cases e
end
end IceS
end
section
set_option Elab.async false
set_option linter.all false
set_option maxRecDepth 100000
/-! Certified code: what a text of the program is checked against, and that it then does so. -/
namespace IceS
open PySem hiding Env
open PySem.Spec PyProof.Rows L2
open Ice (PV Slot Env FE Ev Op Opd gS sS)

/-! ### a def's context -/
structure Ctx where
  N : List Str
  sc : Scope
  /-- the defs of the program, by name; its constants; its error classes -/
  gf : List (Str × Nat)
  gc : List (Str × Int)
  ge : List (Str × Nat)
  /-- names whose cells are the frame's own: all, or these -/
  all : Bool
  fn : List Str

def seq (a b : Str) : Bool := a.cps.toList == b.cps.toList
theorem seq_eq {a b : Str} (h : seq a b = true) : a = b := by
  cases a with | mk a =>
  cases b with | mk b =>
  unfold seq at h
  have h : (a.toList == b.toList) = true := h
  rw [beq_iff_eq] at h
  rw [Array.toList_inj.mp h]
def lkS {α : Type} (x : Str) : List (Str × α) → Option α
  | [] => none
  | (y, v) :: r => if seq x y then some v else lkS x r
theorem lkS_mem {α : Type} {x : Str} {v : α} : ∀ {l : List (Str × α)}, lkS x l = some v → (x, v) ∈ l
  | [], h => by cases h
  | (y, u) :: r, h => by
    unfold lkS at h
    split at h
    · rename_i e
      cases h
      rw [seq_eq e]
      exact List.mem_cons_self
    · exact List.mem_cons_of_mem _ (lkS_mem h)
theorem seq_self (x : Str) : seq x x = true := by unfold seq; exact beq_self_eq_true _
theorem lkS_lookup {α : Type} {x : Str} : ∀ {l : List (Str × α)}, lkS x l = l.lookup x
  | [] => rfl
  | (y, u) :: r => by
    unfold lkS
    rw [List.lookup_cons]
    by_cases h : seq x y = true
    · rw [if_pos h, seq_eq h]
      simp
    · rw [if_neg h, lkS_lookup]
      have : (x == y) = false := by
        cases e : x == y with
        | false => rfl
        | true =>
          rw [beq_iff_eq] at e
          subst e
          exact absurd (seq_self _) h
      rw [this]

/-- the class c of an error is wished for -/
def Wish (G : Cfg) (W : Nat → Prop) : Value → Prop := fun cls => ∃ c a, W c ∧ cls = .ref a ∧ G.exA c = some a
/-- a call's arguments within the def -/
def parS : Slot → Slot
  | .own p => .par p
  | s => s
def okL (as : List Slot) : Bool := as.all Ice.okArg
/-- what a def does, as the table says -/
def SpF (G : Cfg) (F : FE) (f : Nat) : Sp := fun vs H Q E => ∃ B as L W, as.length = vs.length ∧ okL as = true ∧ StR G B (vs.map some) H (as.map parS) L ∧ (∀ cls d H', Wish G W cls → E cls d H') ∧
  wpR W (F f as) fun (p, n, outs) => ∀ v B' H' L', Aft G B H (as.map parS) L (vs.map some) B' H' outs L' (vs.map some) → Res G B' H H' v p n → Nb L' v n → Q v H'
/-- the built-in names that the programs use -/
def bNames : List Str := ["len", "all", "any", "sum", "min", "max", "sorted", "tuple", "list", "dict", "int", "str", "bool", "abs", "set", "repr", "range", "zip", "enumerate", "isinstance"]
structure CtxOk (G : Cfg) (X : Cx) (n : Nat) (C : Ctx) (F : FE) (W : Nat → Prop) : Prop extends XG G X n where
  N : X.N = C.N
  sc : X.env.scope = C.sc
  fns : ∀ x i, (x, i) ∈ C.gf → ∃ f fd ps, X.mg x = some (.ref f) ∧ PySem.W.keepIn X.K (.ref f) = true ∧ G.fnA i = some f ∧ Binds X.K fd ps [] ∧ FnOk X.prog X.w X.K X.mg X.base (L2.CX X.prog X.w) n f fd ps (SpF G F i)
  blt : ∀ x ∈ bNames, X.mg x = none
  fn : ∀ x, (C.all || C.fn.any (seq x)) = true → X.fn x = true
  gc : ∀ x i, (x, i) ∈ C.gc → ∃ t, X.mg x = some (.int i t)
  exc : ∀ x c, (x, c) ∈ C.ge → ∃ (a : Addr) (bmB : List Value) (B newId initId : String), ExcBaseFacts B newId initId bmB ∧ PySem.W.excIn X.K a bmB newId = true ∧ X.mg x = some (.ref a) ∧ PySem.W.keepIn X.K (.ref a) = true ∧ Raises X (.ref a) ∧ G.exA c = some a
  takes : Takes X fun cls _ _ _ => Wish G W cls

/-- a name that is seen -/
def isVar (C : Ctx) (i : Nat) (x : Str) : Bool :=
  (match C.N[i]? with | some y => seq x y | none => false) && (match lkS x C.sc.names with | some .local => true | some .cell => true | some .free => true | _ => false) && !seq x "__debug__" && !seq x "__classdict__"
/-- a name of the frame itself -/
def isLoc (C : Ctx) (i : Nat) (x : Str) : Bool :=
  (match C.N[i]? with | some y => seq x y | none => false) && (match lkS x C.sc.names with | some .local => true | _ => false)
/-- a global name -/
def isGl (C : Ctx) (x : Str) : Bool := (match lkS x C.sc.names with | some .globalImplicit => true | _ => false) && !seq x "__debug__"
theorem seq_ne {x y : Str} (h : (!seq x y) = true) : (x == y) = false := by
  cases e : x == y with
  | false => rfl
  | true =>
    rw [beq_iff_eq] at e
    subst e
    rw [seq_self] at h
    cases h
section
variable {G : Cfg} {X : Cx} {n : Nat} {C : Ctx} {F : FE} {W : Nat → Prop}
theorem isVar_ok (h : CtxOk G X n C F W) {i : Nat} {x : Str} (e : isVar C i x = true) : X.N[i]? = some x ∧ Vis X.env.scope x ∧ (x == ("__debug__" : Str)) = false ∧ (x == ("__classdict__" : Str)) = false := by
  unfold isVar at e
  rw [Bool.and_eq_true, Bool.and_eq_true, Bool.and_eq_true] at e
  obtain ⟨⟨⟨e1, e2⟩, e3⟩, e4⟩ := e
  refine ⟨?_, ?_, seq_ne e3, seq_ne e4⟩
  · rw [h.N]
    split at e1
    · rename_i y hy
      rw [hy, seq_eq e1]
    · cases e1
  · unfold Vis
    rw [h.sc, ← lkS_lookup]
    split at e2
    · rename_i k; exact .inl k
    · rename_i k; exact .inr (.inl k)
    · rename_i k; exact .inr (.inr k)
    · cases e2
theorem isLoc_ok (h : CtxOk G X n C F W) {i : Nat} {x : Str} (e : isLoc C i x = true) : X.N[i]? = some x ∧ X.env.scope.names.lookup x = some .local := by
  unfold isLoc at e
  rw [Bool.and_eq_true] at e
  obtain ⟨e1, e2⟩ := e
  refine ⟨?_, ?_⟩
  · rw [h.N]
    split at e1
    · rename_i y hy
      rw [hy, seq_eq e1]
    · cases e1
  · rw [h.sc, ← lkS_lookup]
    split at e2
    · rename_i k; exact k
    · cases e2
theorem isGl_ok (h : CtxOk G X n C F W) {x : Str} (e : isGl C x = true) : Gl X x ∧ (x == ("__debug__" : Str)) = false := by
  unfold isGl at e
  rw [Bool.and_eq_true] at e
  obtain ⟨e1, e2⟩ := e
  refine ⟨?_, seq_ne e2⟩
  show X.env.scope.names.lookup x = some .globalImplicit
  rw [h.sc, ← lkS_lookup]
  split at e1
  · rename_i k; exact k
  · cases e1

/-! ### the certificates -/
theorem _root_.L2.PE.imp {e : Expr} {t t' : TE} (h : PE X e t) (k : ∀ σ H Q, t' σ H Q → t σ H Q) : PE X e t' := ⟨fun pins s σ H Q I q => h.run pins s σ H Q I (k _ _ _ q)⟩
theorem _root_.L2.PT.imp {e : Expr} {t t' : TT} (h : PT X e t) (k : ∀ σ H Q, t' σ H Q → t σ H Q) : PT X e t' := ⟨fun pins s σ H Q I q => h.run pins s σ H Q I (k _ _ _ q)⟩
theorem _root_.L2.PA.imp {e : List Expr} {t t' : TA} (h : PA X e t) (k : ∀ σ H Q, t' σ H Q → t σ H Q) : PA X e t' := ⟨fun pos pins s σ H Q I q => h.run pos pins s σ H Q I (k _ _ _ q)⟩
theorem _root_.L2.PS.imp {e : Stmt} {t t' : TS} (h : PS X e t) (k : ∀ D σ H, t' D σ H → t D σ H) : PS X e t' := ⟨fun pins s σ H D I q => h.run pins s σ H D I (k _ _ _ q)⟩
end

structure KE where
  d : Ev
  chk : Ctx → Expr → Bool
  ok : ∀ {G : Cfg} {X : Cx} {n : Nat} {C : Ctx} {F : FE} {W : Nat → Prop}, CtxOk G X n C F W → ∀ {e : Expr}, chk C e = true → PE X e (tE G F W d) ∧ PT X e (tT G F W d)
structure KO where
  d : Op
  chk : Ctx → Expr → Bool
  ok : ∀ {G : Cfg} {X : Cx} {n : Nat} {C : Ctx} {F : FE} {W : Nat → Prop}, CtxOk G X n C F W → ∀ {e : Expr}, chk C e = true → PE X e (tO G F W d)

section
variable {G : Cfg} {X : Cx} {n : Nat} {C : Ctx} {F : FE} {W : Nat → Prop}
/-- no form of its own as a test -/
def plainT : Expr → Bool
  | .UnaryOp .Not _ _ => false
  | .BoolOp _ _ _ => false
  | .IfExp _ _ _ _ => false
  | .Compare _ _ _ _ => false
  | _ => true
theorem plainT_ok {e : Expr} (h : plainT e = true) (env : PySem.Env) (whole : Sem Value) : isTrue e env whole = (do let v ← whole; standAt e.pos; holding [v] (truthy v)) := by
  cases e with
  | UnaryOp op x pos => cases op <;> first | rfl | cases h
  | BoolOp _ _ _ => cases h
  | IfExp _ _ _ _ => cases h
  | Compare _ _ _ _ => cases h
  | _ => rfl
theorem tst_of {d : Ev} {t : TE} (ht : ∀ σ H Q, tE G F W d σ H Q → t σ H Q) : ∀ σ H Q, tT G F W d σ H Q → tTest t σ H Q := by
  rintro σ H Q ⟨B, ρ, L, S, h⟩
  refine ht σ H _ ⟨B, ρ, L, S, ?_⟩
  refine (show wpR W (Ice.tst d F ρ) _ from h).bind.mono (fun _ h => h) ?_
  rintro ⟨p, m, ρ1⟩ _ h v B1 H1 L1 A r _
  have h : wpR W (match p with | .bl b => Ice.R.ok (b, ρ1) | _ => .stuck) _ := h
  cases p with
  | bl b =>
    cases r with
    | old r => cases r; exact ⟨b, rfl, h B1 H1 L1 A⟩
    | new _ _ o => cases o
  | _ => exact h.elim
theorem pt_plain {e : Expr} {d : Ev} (h : PE X e (tE G F W d)) (hp : plainT e = true) : PT X e (tT G F W d) :=
  PT.imp (t := tB (tE G F W d)) (pt_val h (plainT_ok hp X.env)) (tst_of fun _ _ _ h => h)
theorem both {e : Expr} {d : Ev} (h : PE X e (tE G F W d)) (hp : plainT e = true) : PE X e (tE G F W d) ∧ PT X e (tT G F W d) := ⟨h, pt_plain h hp⟩

/-! ### what comes out -/
theorem gives_of {B H B1 H1 : Hp} {σ : L2.St} {ρ ρ1 : Env} {L L1 : Nat → List Addr} {Q : VK} {p : PV} {m : Bool} (A : Aft G B H ρ L σ B1 H1 ρ1 L1 σ)
    (k : ∀ v B2 H2 L2, Aft G B H ρ L σ B2 H2 ρ1 L2 σ → Res G B2 H H2 v p m → Nb L2 v m → Q v H2) : Gives G B1 H1 Q p m := fun v B' H' e s r => by
  refine k v B' H' L1 (A.trans (Aft.ext0 A.st e s)) ?_ (nb_new A.st (Aft.ext0 A.st e s).st r)
  cases r with
  | old r => exact .old r
  | new h1 h2 h3 => exact .new h1 (A.ext.dm _ h2) h3
  | xt h1 h2 h3 => exact .xt h1 h2 h3
/-- a constant value -/
theorem imp_c {p : PV} {v : V} (r : ∀ B, Rep G B v p) : ∀ σ H Q, tE G F W (Ice.eC p) σ H Q → tC v σ H Q := by
  rintro σ H Q ⟨B, ρ, L, S, h⟩
  exact (show ∀ v B1 H1 L1, Aft G B H ρ L σ B1 H1 ρ L1 σ → Res G B1 H H1 v p false → Nb L1 v false → Q v H1 from h) v B H L (Aft.refl S) (.old (r B)) nb_old

/-! ### a name -/
theorem StR.freeze {B H : Hp} {σ : L2.St} {ρ : Env} {L : Nat → List Addr} {i : Nat} {p : PV} (S : StR G B σ H ρ L) (h : gS ρ i = .own p ∨ gS ρ i = .lok p) :
    ∃ v B1 L1, gσ σ i = some v ∧ Aft G B H ρ L σ B1 H (sS ρ i (.val p)) L1 σ ∧ Rep G B1 v p := by
  have s := S.slot i
  have hl : i < ρ.length := gS_lt (by rcases h with h | h <;> (rw [h]; intro z; cases z))
  have key : ∃ a, gσ σ i = some (.ref a) ∧ L i = [a] ∧ B a = none ∧ ObjR G B H a p := by
    generalize gσ σ i = x at s ⊢
    generalize L i = l at s ⊢
    rcases h with h | h
    · rw [h] at s; cases s with | own h1 h2 => exact ⟨_, rfl, rfl, h1, h2⟩
    · rw [h] at s; cases s with | lok h1 h2 => exact ⟨_, rfl, rfl, h1, h2⟩
  obtain ⟨a, e1, e2, hb, ho⟩ := key
  obtain ⟨o, ho'⟩ := ho.there
  have rp := ho.share hb ho'
  refine ⟨.ref a, upd B a o, fun j => if j = i then [] else L j, e1, ⟨⟨?_, ?_, fun j => ?_, fun j k b h1 h2 => ?_⟩, ⟨Sub.updB hb, fun b x e _ => e, fun b x e q => ?_, fun _ e => e⟩, fun j b h1 => ?_, fun j h1 => ?_⟩, rp⟩
  · rw [sS_len]; exact S.len
  · intro b x e
    by_cases hb' : b = a
    · subst hb'; rw [upd_same] at e; cases e; exact ho'
    · rw [upd_ne hb'] at e; exact S.sub _ _ e
  · by_cases hj : j = i
    · subst hj
      rw [gS_same hl, e1]
      show SlR _ _ _ _ _ (if j = j then [] else L j)
      rw [if_pos rfl]
      exact .val rp
    · rw [gS_ne (fun z => hj z.symm)]
      show SlR _ _ _ _ _ (if j = i then [] else L j)
      rw [if_neg hj]
      refine (S.slot j).mono (Sub.updB hb) (fun b hb' => ?_) fun _ _ _ e => e
      have : b ≠ a := fun z => hj (S.dist j i a (z ▸ hb') (by rw [e2]; exact List.mem_cons_self))
      rw [upd_ne this]
      exact (S.own ⟨j, hb'⟩).1
  · have h1 : b ∈ (if j = i then [] else L j) := h1
    have h2 : b ∈ (if k = i then [] else L k) := h2
    split at h1
    · cases h1
    · split at h2
      · cases h2
      · exact S.dist j k b h1 h2
  · by_cases hb' : b = a
    · subst hb'
      exact .inr ⟨i, by rw [e2]; exact List.mem_cons_self⟩
    · rw [upd_ne hb'] at e; rw [e] at q; cases q
  · have h1 : b ∈ (if j = i then [] else L j) := h1
    split at h1
    · cases h1
    · rename_i hj
      exact .inl ⟨h1, by rw [gS_ne (fun z => hj z.symm)]⟩
  · by_cases hj : i = j
    · subst hj
      rcases h with h | h <;> (rw [h] at h1; exact absurd h1 (by simp [kd]))
    · rw [gS_ne hj]; exact ⟨h1, rfl⟩

theorem deref_nx {ρ : Env} {x : Opd} {c : Nat} : Ice.deref ρ x ≠ .exn c := by
  cases x with
  | val p => intro h; cases h
  | ref i =>
    intro h
    have h : (match gS ρ i with | .own p => Ice.R.ok p | .lok p => .ok p | .par p => .ok p | .val p => .ok p | .ow2 _ => .stuck | .xt _ => .stuck | .lk2 _ => .stuck | .un => .stuck) = Ice.R.exn c := h
    split at h <;> cases h
  | ref2 i k =>
    intro h
    have h : (match gS ρ i with | .ow2 xs => (match xs[k]? with | some ys => Ice.R.ok (PV.lst ys) | none => .stuck) | _ => .stuck) = Ice.R.exn c := h
    split at h
    · split at h <;> cases h
    · cases h
theorem wpR.got {α : Type} {W : Nat → Prop} {r : Ice.R α} {P : α → Prop} (h : wpR W r P) (nx : ∀ c, r ≠ .exn c) : ∃ a, r = .ok a ∧ P a := by
  cases r with
  | ok a => exact ⟨a, rfl, h⟩
  | exn c => exact absurd rfl (nx c)
  | stuck => exact h.elim
abbrev Nx1 (f : PV → Ice.Out) : Prop := ∀ p c, f p ≠ .exn c
abbrev Nx2 (f : PV → PV → Ice.Out) : Prop := ∀ p q c, f p q ≠ .exn c
abbrev Nx3 (f : PV → PV → PV → Ice.Out) : Prop := ∀ p q r c, f p q r ≠ .exn c
def rP3 (G : Cfg) (f : PV → PV → PV → Ice.Out) : V → V → V → Hp → VK → Prop := fun x y z H Q => ∃ B p q o r n, Sub B H ∧ Opn G B H x p ∧ Opn G B H y q ∧ Opn G B H z o ∧ f p q o = .ok (r, n) ∧ Gives G B H Q r n
theorem imp1 {f : PV → Ice.Out} (nx : Nx1 f) {a : Op} : ∀ σ H Q, tE G F W (Ice.e1 f a) σ H Q → tO G F W a σ H fun x H1 => rP1 G f x H1 Q := by
  rintro σ H Q ⟨B, ρ, L, S, h⟩
  refine ⟨B, ρ, L, S, (show wpR W ((a F ρ).bind _) _ from h).bind.mono (fun _ h => h) ?_⟩
  rintro ⟨x, ρ1⟩ _ h v B1 H1 L1 A1 r1
  obtain ⟨p, e1, h⟩ := (show wpR W ((Ice.deref ρ1 x).bind _) _ from h).bind.got fun _ => deref_nx
  obtain ⟨⟨r, m⟩, e2, h⟩ := (show wpR W ((f p).bind _) _ from h).bind.got (nx p)
  exact ⟨B1, p, r, m, A1.st.sub, r1.opn A1.st e1, e2, gives_of A1 h⟩
theorem imp2 {f : PV → PV → Ice.Out} (nx : Nx2 f) {a b : Op} : ∀ σ H Q, tE G F W (Ice.e2 f a b) σ H Q → tO G F W a σ H fun x H1 => tO G F W b σ H1 fun y H2 => rP2 G f x y H2 Q := by
  rintro σ H Q ⟨B, ρ, L, S, h⟩
  refine ⟨B, ρ, L, S, (show wpR W ((a F ρ).bind _) _ from h).bind.mono (fun _ h => h) ?_⟩
  rintro ⟨x, ρ1⟩ _ h v B1 H1 L1 A1 r1
  refine ⟨B1, ρ1, L1, A1.st, (show wpR W ((b F ρ1).bind _) _ from h).bind.mono (fun _ h => h) ?_⟩
  rintro ⟨y, ρ2⟩ _ h u B2 H2 L2 A2 r2
  obtain ⟨p, e1, h⟩ := (show wpR W ((Ice.deref ρ2 x).bind _) _ from h).bind.got fun _ => deref_nx
  obtain ⟨q, e2, h⟩ := (show wpR W ((Ice.deref ρ2 y).bind _) _ from h).bind.got fun _ => deref_nx
  obtain ⟨⟨r, m⟩, e3, h⟩ := (show wpR W ((f p q).bind _) _ from h).bind.got (nx p q)
  exact ⟨B2, p, q, r, m, A2.st.sub, (r1.mono A2.ext.bb).opn A2.st e1, r2.opn A2.st e2, e3, gives_of (A1.trans A2) h⟩
theorem imp3 {f : PV → PV → PV → Ice.Out} (nx : Nx3 f) {a b c : Op} : ∀ σ H Q, tE G F W (Ice.e3 f a b c) σ H Q → tO G F W a σ H fun x H1 => tO G F W b σ H1 fun y H2 => tO G F W c σ H2 fun z H3 => rP3 G f x y z H3 Q := by
  rintro σ H Q ⟨B, ρ, L, S, h⟩
  refine ⟨B, ρ, L, S, (show wpR W ((a F ρ).bind _) _ from h).bind.mono (fun _ h => h) ?_⟩
  rintro ⟨x, ρ1⟩ _ h v B1 H1 L1 A1 r1
  refine ⟨B1, ρ1, L1, A1.st, (show wpR W ((b F ρ1).bind _) _ from h).bind.mono (fun _ h => h) ?_⟩
  rintro ⟨y, ρ2⟩ _ h u B2 H2 L2 A2 r2
  refine ⟨B2, ρ2, L2, A2.st, (show wpR W ((c F ρ2).bind _) _ from h).bind.mono (fun _ h => h) ?_⟩
  rintro ⟨z, ρ3⟩ _ h w B3 H3 L3 A3 r3
  obtain ⟨p, e1, h⟩ := (show wpR W ((Ice.deref ρ3 x).bind _) _ from h).bind.got fun _ => deref_nx
  obtain ⟨q, e2, h⟩ := (show wpR W ((Ice.deref ρ3 y).bind _) _ from h).bind.got fun _ => deref_nx
  obtain ⟨o, e3, h⟩ := (show wpR W ((Ice.deref ρ3 z).bind _) _ from h).bind.got fun _ => deref_nx
  obtain ⟨⟨r, m⟩, e4, h⟩ := (show wpR W ((f p q o).bind _) _ from h).bind.got (nx p q o)
  exact ⟨B3, p, q, o, r, m, A3.st.sub, (r1.mono (A2.ext.bb.trans A3.ext.bb)).opn A3.st e1, (r2.mono A3.ext.bb).opn A3.st e2, r3.opn A3.st e3, e4, gives_of (A1.trans (A2.trans A3)) h⟩

/-! ### names, constants -/
theorem imp_v {i : Nat} : ∀ σ H Q, tE G F W (Ice.eV i) σ H Q → tVar i σ H Q := by
  rintro σ H Q ⟨B, ρ, L, S, h⟩
  have h : wpR W (match gS ρ i with | .val p => Ice.R.ok (p, false, ρ) | .own p => .ok (p, false, sS ρ i (.val p)) | .lok p => .ok (p, false, sS ρ i (.val p)) | .xt ps => .ok (.tup ps, false, ρ) | _ => .stuck) _ := h
  have fr : ∀ p, (gS ρ i = .own p ∨ gS ρ i = .lok p) → wpR W (.ok (p, false, sS ρ i (.val p))) (fun (x : PV × Bool × Env) => ∀ v B1 H1 L1, Aft G B H ρ L σ B1 H1 x.2.2 L1 σ → Res G B1 H H1 v x.1 x.2.1 → Nb L1 v x.2.1 → Q v H1) → tVar i σ H Q := fun p hp h => by
    obtain ⟨v, B1, L1, e, A, r⟩ := S.freeze hp
    exact ⟨v, gσ_some e, h v B1 H L1 A (.old r) nb_old⟩
  cases hs : gS ρ i with
  | val p =>
    rw [hs] at h
    have s := S.slot i
    rw [hs] at s
    generalize hx : gσ σ i = x at s
    generalize L i = l at s
    cases s with
    | val r => exact ⟨_, gσ_some hx, h _ B H L (Aft.refl S) (.old r) nb_old⟩
  | own p => rw [hs] at h; exact fr p (.inl hs) h
  | lok p => rw [hs] at h; exact fr p (.inr hs) h
  | un => rw [hs] at h; exact h.elim
  | par p => rw [hs] at h; exact h.elim
  | ow2 p => rw [hs] at h; exact h.elim
  | lk2 p => rw [hs] at h; exact h.elim
  | xt ps =>
    rw [hs] at h
    have s := S.slot i
    rw [hs] at s
    generalize hx : gσ σ i = x at s
    generalize L i = l at s
    cases s with
    | xt h1 h2 h3 => exact ⟨_, gσ_some hx, h _ B H L (Aft.refl S) (.old (Rep.xt h1 h3)) nb_old⟩
theorem imp_ov {i : Nat} : ∀ σ H Q, tO G F W (Ice.oV i) σ H Q → tVar i σ H Q := by
  rintro σ H Q ⟨B, ρ, L, S, h⟩
  have h : wpR W (match gS ρ i with | .val p => Ice.R.ok (Opd.val p, ρ) | .own _ => .ok (.ref i, ρ) | .lok _ => .ok (.ref i, ρ) | .par _ => .ok (.ref i, ρ) | .xt ps => .ok (.val (.tup ps), ρ) | _ => .stuck) _ := h
  have s := S.slot i
  cases hs : gS ρ i with
  | un => rw [hs] at h; exact h.elim
  | ow2 p => rw [hs] at h; exact h.elim
  | lk2 p => rw [hs] at h; exact h.elim
  | val p =>
    rw [hs] at h s
    generalize hx : gσ σ i = x at s
    generalize L i = l at s
    cases s with
    | val r => exact ⟨_, gσ_some hx, h _ B H L (Aft.refl S) r⟩
  | own p =>
    rw [hs] at h s
    generalize hx : gσ σ i = x at s
    generalize L i = l at s
    cases s with
    | own _ _ => exact ⟨_, gσ_some hx, h _ B H L (Aft.refl S) hx⟩
  | lok p =>
    rw [hs] at h s
    generalize hx : gσ σ i = x at s
    generalize L i = l at s
    cases s with
    | lok _ _ => exact ⟨_, gσ_some hx, h _ B H L (Aft.refl S) hx⟩
  | par p =>
    rw [hs] at h s
    generalize hx : gσ σ i = x at s
    generalize L i = l at s
    cases s with
    | par _ _ => exact ⟨_, gσ_some hx, h _ B H L (Aft.refl S) hx⟩
  | xt ps =>
    rw [hs] at h s
    generalize hx : gσ σ i = x at s
    generalize L i = l at s
    cases s with
    | xt h1 h2 h3 => exact ⟨_, gσ_some hx, h _ B H L (Aft.refl S) (Rep.xt h1 h3)⟩
theorem imp_oe {d : Ev} : ∀ σ H Q, tO G F W (Ice.oE d) σ H Q → tE G F W d σ H Q := by
  rintro σ H Q ⟨B, ρ, L, S, h⟩
  refine ⟨B, ρ, L, S, (show wpR W ((d F ρ).bind _) _ from h).bind.mono (fun _ h => h) ?_⟩
  rintro ⟨p, m, ρ1⟩ _ h v B1 H1 L1 A r nb
  obtain ⟨B2, A2, r2⟩ := A.share r nb
  exact h v B2 H1 L1 A2 r2
end

section
def asName : Expr → Option Str
  | .Name x _ => some x
  | _ => none
theorem asName_ok {e : Expr} {x : Str} (h : asName e = some x) : ∃ pos, e = .Name x pos := by
  cases e with
  | Name y pos => cases h; exact ⟨_, rfl⟩
  | _ => cases h
def nameIs (p : Str → Bool) (e : Expr) : Bool := match asName e with
  | some x => p x
  | none => false
theorem nameIs_ok {p : Str → Bool} {e : Expr} (h : nameIs p e = true) : ∃ x pos, e = .Name x pos ∧ p x = true := by
  unfold nameIs at h
  split at h
  · rename_i x hx
    obtain ⟨pos, rfl⟩ := asName_ok hx
    exact ⟨x, pos, rfl, h⟩
  · cases h
end
def kV (i : Nat) : KE where
  d := Ice.eV i
  chk C e := nameIs (isVar C i) e
  ok {G X n C F W} h e hc := by
    obtain ⟨x, pos, rfl, hx⟩ := nameIs_ok hc
    obtain ⟨h1, h2, h3, h4⟩ := isVar_ok h hx
    exact both ((pe_var h1 h2 h3 h4).imp imp_v) rfl
def jV (i : Nat) : KO where
  d := Ice.oV i
  chk C e := nameIs (isVar C i) e
  ok {G X n C F W} h e hc := by
    obtain ⟨x, pos, rfl, hx⟩ := nameIs_ok hc
    obtain ⟨h1, h2, h3, h4⟩ := isVar_ok h hx
    exact (pe_var h1 h2 h3 h4).imp imp_ov
def jE (k : KE) : KO where
  d := Ice.oE k.d
  chk := k.chk
  ok {G X n C F W} h e hc := (k.ok h hc).1.imp imp_oe
def kInt (i : Int) : KE where
  d := Ice.eC (.int i)
  chk C e := match e with | .Constant (.int j) _ _ => i == j | _ => false
  ok {G X n C F W} h e hc := by
    split at hc
    · rw [beq_iff_eq] at hc
      subst hc
      exact both (pe_int.imp (imp_c fun _ => .int _)) rfl
    · cases hc
def kBl (b : Bool) : KE where
  d := Ice.eC (.bl b)
  chk C e := match e with | .Constant (.bool j) _ _ => b == j | _ => false
  ok {G X n C F W} h e hc := by
    split at hc
    · rw [beq_iff_eq] at hc
      subst hc
      exact both (pe_bl.imp (imp_c fun _ => .bl _)) rfl
    · cases hc
def kNon : KE where
  d := Ice.eC .non
  chk C e := match e with | .Constant .none _ _ => true | _ => false
  ok {G X n C F W} h e hc := by
    split at hc
    · exact both (pe_non.imp (imp_c fun _ => .non)) rfl
    · cases hc
def kStr (l : List Nat) : KE where
  d := Ice.eC (.str l)
  chk C e := match e with | .Constant (.str x) _ _ => (x.cps.toList == l) && Nat.ble l.length 1000 | _ => false
  ok {G X n C F W} h e hc := by
    split at hc
    · rename_i x _ _
      rw [Bool.and_eq_true, beq_iff_eq] at hc
      obtain ⟨h1, h2⟩ := hc
      have h2 : l.length ≤ 1000 := Nat.le_of_ble_eq_true h2
      subst h1
      refine both (pe_str.imp (imp_c fun _ => .str x ?_)) rfl
      rw [str_len] at h2
      exact Nat.le_trans h2 (by rw [sizeLine_eq]; decide)
    · cases hc
end IceS
end
section
set_option Elab.async false
set_option linter.all false
set_option maxRecDepth 100000
/-! Certified code: displays, operators, truth. -/
namespace IceS
open PySem hiding Env
open PySem.Spec PyProof.Rows L2
open Ice (PV Slot Env FE Ev Op Opd gS sS)

/-! ### no star -/
def notStar : Expr → Bool
  | .Starred _ _ => false
  | _ => true
theorem star_cons {e : Expr} (h : notStar e = true) (es : List Expr) (env : PySem.Env) : starEach (e :: es) env = (false, eval e env) :: starEach es env := by
  cases e with
  | Starred _ _ => cases h
  | _ => rfl
theorem star_any (pos : Pos) (env : PySem.Env) : ∀ (es : List Expr), es.all notStar = true → (backTo pos (starEach es env)).any (·.1) = false
  | [], _ => rfl
  | e :: es, h => by
    rw [List.all_cons, Bool.and_eq_true] at h
    rw [star_cons h.1]
    show (false || (backTo pos (starEach es env)).any (·.1)) = false
    rw [star_any pos env es h.2]; rfl

section
variable (G : Cfg) (F : FE) (W : Nat → Prop)
def tEs (ds : List Ev) : TA := fun σ H Q => ∃ B ρ L, StR G B σ H ρ L ∧ wpR W (Ice.evs ds F ρ) fun (ps, ρ1) => ∀ vs B1 H1 L1, Aft G B H ρ L σ B1 H1 ρ1 L1 σ → RepL G B1 vs ps → Q vs H1
end
def chkL : List KE → Ctx → List Expr → Bool
  | [], _, [] => true
  | k :: ks, C, e :: es => k.chk C e && notStar e && chkL ks C es
  | _, _, _ => false
section
variable {G : Cfg} {X : Cx} {n : Nat} {C : Ctx} {F : FE} {W : Nat → Prop}
theorem chkL_star : ∀ {ks : List KE} {es : List Expr}, chkL ks C es = true → es.all notStar = true
  | [], [], _ => rfl
  | k :: ks, e :: es, h => by
    unfold chkL at h
    rw [Bool.and_eq_true, Bool.and_eq_true] at h
    rw [List.all_cons, h.1.2, chkL_star h.2]; rfl
theorem chkL_len : ∀ {ks : List KE} {es : List Expr}, chkL ks C es = true → ks.length = es.length
  | [], [], _ => rfl
  | k :: ks, e :: es, h => by
    unfold chkL at h
    rw [Bool.and_eq_true] at h
    rw [List.length_cons, List.length_cons, chkL_len h.2]
theorem pa_list (h : CtxOk G X n C F W) : ∀ {ks : List KE} {es : List Expr}, chkL ks C es = true → PA X es (tEs G F W (ks.map (·.d)))
  | [], [], _ => pa_nil.imp (by
    rintro σ H Q ⟨B, ρ, L, S, q⟩
    exact (show ∀ vs B1 H1 L1, Aft G B H ρ L σ B1 H1 ρ L1 σ → RepL G B1 vs [] → Q vs H1 from q) [] B H L (Aft.refl S) .nil)
  | k :: ks, e :: es, hc => by
    unfold chkL at hc
    rw [Bool.and_eq_true, Bool.and_eq_true] at hc
    refine (pa_cons (k.ok h hc.1.1).1 (pa_list h hc.2) (star_cons hc.1.2 _ _)).imp ?_
    rintro σ H Q ⟨B, ρ, L, S, q⟩
    refine ⟨B, ρ, L, S, (show wpR W ((k.d F ρ).bind _) _ from q).bind.mono (fun _ h => h) ?_⟩
    rintro ⟨p, m, ρ1⟩ _ q v B1 H1 L1 A r nb
    obtain ⟨B2, A2, r2⟩ := A.share r nb
    refine ⟨B2, ρ1, L1, A2.st, (show wpR W ((Ice.evs (ks.map (·.d)) F ρ1).bind _) _ from q).bind.mono (fun _ h => h) ?_⟩
    rintro ⟨ps, ρ2⟩ _ q vs B3 H3 L3 A3 rl
    exact q (v :: vs) B3 H3 L3 (A2.trans A3) (.cons (r2.mono A3.ext.bb) rl)
theorem evs_len {F : FE} : ∀ {ds : List Ev} {ρ ρ1 : Env} {ps : List PV}, Ice.evs ds F ρ = .ok (ps, ρ1) → ps.length = ds.length
  | [], ρ, ρ1, ps, h => by cases h; rfl
  | d :: ds, ρ, ρ1, ps, h => by
    have h : (d F ρ).bind _ = _ := h
    cases e : d F ρ with
    | ok x =>
      rw [e] at h
      have h : (Ice.evs ds F x.2.2).bind _ = _ := h
      cases e2 : Ice.evs ds F x.2.2 with
      | ok y =>
        rw [e2] at h
        obtain ⟨qs, ρ2⟩ := y
        cases h
        rw [List.length_cons, List.length_cons, evs_len e2]
      | exn c => rw [e2] at h; cases h
      | stuck => rw [e2] at h; cases h
    | exn c => rw [e] at h; cases h
    | stuck => rw [e] at h; cases h
end
theorem small_line {m : Nat} (h : m ≤ 1000) : m ≤ sizeLine := by rw [sizeLine_eq]; omega

/-- (a, b, ..) -/
def kTup (ks : List KE) : KE where
  d := Ice.eT (ks.map (·.d))
  chk C e := match e with | .Tuple es _ _ => chkL ks C es && Nat.ble ks.length 1000 | _ => false
  ok {G X n C F W} h e hc := by
    split at hc
    · rename_i es _ _
      rw [Bool.and_eq_true] at hc
      obtain ⟨h1, h2⟩ := hc
      have h2 : ks.length ≤ 1000 := Nat.le_of_ble_eq_true h2
      refine both ((pe_tup (pa_list h h1)).imp ?_) rfl
      rintro σ H Q ⟨B, ρ, L, S, q⟩
      refine ⟨B, ρ, L, S, (show wpR W ((Ice.evs (ks.map (·.d)) F ρ).bind _) _ from q).bind.mono (fun _ h => h) ?_⟩
      rintro ⟨ps, ρ1⟩ e q vs B1 H1 L1 A rl
      have g := gives_of (p := .tup ps) (m := false) A q
      refine ⟨?_, fun a ha => g.tup A.st.sub rl ha⟩
      rw [rl.length, evs_len e, List.length_map]
      exact small_line h2
    · cases hc
/-- [a, b, ..] -/
def kLst (ks : List KE) : KE where
  d := Ice.eL (ks.map (·.d))
  chk C e := match e with | .List es _ => chkL ks C es && Nat.ble ks.length 1000 | _ => false
  ok {G X n C F W} h e hc := by
    split at hc
    · rename_i es _
      rw [Bool.and_eq_true] at hc
      obtain ⟨h1, h2⟩ := hc
      have h2 : ks.length ≤ 1000 := Nat.le_of_ble_eq_true h2
      refine both ((pe_lst (pa_list h h1)).imp ?_) rfl
      rintro σ H Q ⟨B, ρ, L, S, q⟩
      refine ⟨B, ρ, L, S, (show wpR W ((Ice.evs (ks.map (·.d)) F ρ).bind _) _ from q).bind.mono (fun _ h => h) ?_⟩
      rintro ⟨ps, ρ1⟩ e q vs B1 H1 L1 A rl
      have g := gives_of (p := .lst ps) (m := true) A q
      refine ⟨?_, fun a ha => g.lst A.st.sub rl ha⟩
      rw [rl.length, evs_len e, List.length_map]
      exact small_line h2
    · cases hc
/-- {} -/
def kDct0 : KE where
  d := Ice.eD []
  chk C e := match e with | .Dict [] [] _ => true | _ => false
  ok {G X n C F W} h e hc := by
    split at hc
    · refine both (pe_dnewK.imp ?_) rfl
      rintro σ H Q ⟨B, ρ, L, S, q⟩
      have g := gives_of (p := .dct []) (m := true) (Aft.refl S) (show ∀ v B2 H2 L2, Aft G B H ρ L σ B2 H2 ρ L2 σ → Res G B2 H H2 v (.dct []) true → Nb L2 v true → Q v H2 from q)
      exact fun a ha => g.dK S.sub .nil ha
    · cases hc

/-! ### operators -/
def opIs : Operator → Operator → Bool
  | .Add, .Add => true | .Sub, .Sub => true | .Mult, .Mult => true | .FloorDiv, .FloorDiv => true | .Mod, .Mod => true | .Pow, .Pow => true
  | _, _ => false
theorem opIs_ok {a b : Operator} (h : opIs a b = true) : a = b := by
  cases a <;> cases b <;> first | rfl | cases h
def kBin (o : Operator) (f : PV → PV → Ice.Out) (nx : Nx2 f) (rule : ∀ {X : Cx} {G : Cfg} {n : Nat}, XG G X n → OpR X (binaryOp o) (rP2 G f)) (a b : KO) : KE where
  d := Ice.e2 f a.d b.d
  chk C e := match e with | .BinOp x o' y _ => opIs o o' && a.chk C x && b.chk C y | _ => false
  ok {G X n C F W} h e hc := by
    split at hc
    · rw [Bool.and_eq_true, Bool.and_eq_true] at hc
      obtain ⟨⟨h1, h2⟩, h3⟩ := hc
      rw [← opIs_ok h1]
      exact both ((pe_op (rule h.toXG) (a.ok h h2) (b.ok h h3)).imp (imp2 nx)) rfl
    · cases hc
theorem nx_of {f : PV → PV → Ice.Out} (h : ∀ p q, (∃ r, f p q = .ok r) ∨ f p q = .stuck) : Nx2 f := fun p q c e => by
  rcases h p q with ⟨r, h⟩ | h <;> (rw [h] at e; cases e)
theorem nx_ofB (o : Option Bool) (c : Nat) : Ice.ofB o ≠ .exn c := by
  cases o <;> (intro h; cases h)
theorem nx_add : Nx2 Ice.pAdd := by intro p q c; unfold Ice.pAdd; (repeat' split) <;> (intro h; cases h)
theorem nx_sub : Nx2 Ice.pSub := by intro p q c; unfold Ice.pSub; (repeat' split) <;> (intro h; cases h)
theorem nx_mul : Nx2 Ice.pMul := by intro p q c; unfold Ice.pMul; (repeat' split) <;> (intro h; cases h)
theorem nx_fdiv : Nx2 Ice.pFdiv := by intro p q c; unfold Ice.pFdiv; (repeat' split) <;> (intro h; cases h)
theorem nx_mod : Nx2 Ice.pMod := by intro p q c; unfold Ice.pMod; (repeat' split) <;> (intro h; cases h)
theorem nx_pow : Nx2 Ice.pPow := by intro p q c; unfold Ice.pPow; (repeat' split) <;> (intro h; cases h)
theorem nx_neg : Nx1 Ice.pNeg := by intro p c; unfold Ice.pNeg; (repeat' split) <;> (intro h; cases h)
theorem nx_eq : Nx2 Ice.pEq := fun p q c => nx_ofB _ c
theorem nx_ne : Nx2 Ice.pNe := fun p q c => nx_ofB _ c
theorem nx_lt : Nx2 Ice.pLt := fun p q c => nx_ofB _ c
theorem nx_le : Nx2 Ice.pLe := fun p q c => nx_ofB _ c
theorem nx_gt : Nx2 Ice.pGt := fun p q c => nx_ofB _ c
theorem nx_ge : Nx2 Ice.pGe := fun p q c => nx_ofB _ c
theorem nx_inn : Nx2 Ice.pInn := fun p q c => nx_ofB _ c
theorem nx_nin : Nx2 Ice.pNin := fun p q c => nx_ofB _ c
def kAdd : KO → KO → KE := kBin .Add Ice.pAdd nx_add o_add
def kSub : KO → KO → KE := kBin .Sub Ice.pSub nx_sub fun _ => o_sub
def kMul : KO → KO → KE := kBin .Mult Ice.pMul nx_mul o_mul
def kFdiv : KO → KO → KE := kBin .FloorDiv Ice.pFdiv nx_fdiv fun _ => o_fdiv
def kMod : KO → KO → KE := kBin .Mod Ice.pMod nx_mod fun _ => o_mod
def kPow : KO → KO → KE := kBin .Pow Ice.pPow nx_pow fun _ => o_pow
def kNeg (a : KO) : KE where
  d := Ice.e1 Ice.pNeg a.d
  chk C e := match e with | .UnaryOp .USub x _ => a.chk C x | _ => false
  ok {G X n C F W} h e hc := by
    split at hc
    · exact both ((pe_un o_neg (a.ok h hc)).imp (imp1 nx_neg)) rfl
    · cases hc

/-! ### comparisons -/
def cmpIs : CmpOp → CmpOp → Bool
  | .Eq, .Eq => true | .NotEq, .NotEq => true | .Lt, .Lt => true | .LtE, .LtE => true | .Gt, .Gt => true | .GtE, .GtE => true | .In, .In => true | .NotIn, .NotIn => true
  | .Is, .Is => true | .IsNot, .IsNot => true
  | _, _ => false
theorem cmpIs_ok {a b : CmpOp} (h : cmpIs a b = true) : a = b := by
  cases a <;> cases b <;> first | rfl | cases h
theorem not_tt {b : Bool} (h : (!b) = true) : b = false := by cases b <;> first | rfl | cases h
def kCmp (o : CmpOp) (f : PV → PV → Ice.Out) (nx : Nx2 f) (rule : ∀ {X : Cx} {G : Cfg} {n : Nat}, XG G X n → OpR X (compareOp o) (rP2 G f)) (a b : KO) : KE where
  d := Ice.e2 f a.d b.d
  chk C e := match e with | .Compare x [o'] [y] _ => cmpIs o o' && a.chk C x && b.chk C y && !(behindInMarks o y) | _ => false
  ok {G X n C F W} h e hc := by
    split at hc
    · rw [Bool.and_eq_true, Bool.and_eq_true, Bool.and_eq_true] at hc
      obtain ⟨⟨⟨h1, h2⟩, h3⟩, h4⟩ := hc
      rw [← cmpIs_ok h1]
      exact ⟨(pe_cmpR (rule h.toXG) (a.ok h h2) (b.ok h h3) (not_tt h4)).imp (imp2 nx), (pt_cmpR (rule h.toXG) (a.ok h h2) (b.ok h h3) (not_tt h4)).imp (tst_of (imp2 nx))⟩
    · cases hc
def kEq : KO → KO → KE := kCmp .Eq Ice.pEq nx_eq o_eq
def kNe : KO → KO → KE := kCmp .NotEq Ice.pNe nx_ne o_ne
def kLt : KO → KO → KE := kCmp .Lt Ice.pLt nx_lt o_lt
def kLe : KO → KO → KE := kCmp .LtE Ice.pLe nx_le o_le
def kGt : KO → KO → KE := kCmp .Gt Ice.pGt nx_gt o_gt
def kGe : KO → KO → KE := kCmp .GtE Ice.pGe nx_ge o_ge
/-- a chain's operator -/
structure CO where
  o : CmpOp
  f : PV → PV → Ice.Out
  nx : Nx2 f
  rule : ∀ {X : Cx} {G : Cfg} {n : Nat}, XG G X n → OpR X (compareOp o) (rP2 G f)
def cLt : CO := ⟨.Lt, Ice.pLt, nx_lt, o_lt⟩
def cLe : CO := ⟨.LtE, Ice.pLe, nx_le, o_le⟩
def cGt : CO := ⟨.Gt, Ice.pGt, nx_gt, o_gt⟩
def cGe : CO := ⟨.GtE, Ice.pGe, nx_ge, o_ge⟩
def cEq : CO := ⟨.Eq, Ice.pEq, nx_eq, o_eq⟩
section
variable {G : Cfg} {X : Cx} {n : Nat} {C : Ctx} {F : FE} {W : Nat → Prop}
theorem Gives.bl {B H : Hp} {Q : VK} {b m : Bool} (s : Sub B H) (k : ∀ v, v = V.bl b → ∀ B' H', Ext NoM NoM B H B' H' → Sub B' H' → Q v H') : Gives G B H Q (.bl b) m := fun v B' H' e s' r => by
  cases r with
  | old r => cases r; exact k _ rfl B' H' e s'
  | new _ _ o => cases o
theorem imp_ch {f g : PV → PV → Ice.Out} (nx : Nx2 f) (ny : Nx2 g) {a b c : Op} : ∀ σ H Q, tE G F W (Ice.eCh f g a b c) σ H Q → tChain (rP2 G f) (rP2 G g) (tO G F W a) (tO G F W b) (tO G F W c) σ H Q := by
  rintro σ H Q ⟨B, ρ, L, S, h⟩
  refine ⟨B, ρ, L, S, (show wpR W ((a F ρ).bind _) _ from h).bind.mono (fun _ h => h) ?_⟩
  rintro ⟨x, ρ1⟩ _ h v B1 H1 L1 A1 r1
  refine ⟨B1, ρ1, L1, A1.st, (show wpR W ((b F ρ1).bind _) _ from h).bind.mono (fun _ h => h) ?_⟩
  rintro ⟨y, ρ2⟩ _ h u B2 H2 L2 A2 r2
  obtain ⟨p, e1, h⟩ := (show wpR W ((Ice.deref ρ2 x).bind _) _ from h).bind.got fun _ => deref_nx
  obtain ⟨q, e2, h⟩ := (show wpR W ((Ice.deref ρ2 y).bind _) _ from h).bind.got fun _ => deref_nx
  obtain ⟨⟨r, m⟩, e3, h⟩ := (show wpR W ((f p q).bind _) _ from h).bind.got (nx p q)
  refine ⟨B2, p, q, r, m, A2.st.sub, (r1.mono A2.ext.bb).opn A2.st e1, r2.opn A2.st e2, e3, ?_⟩
  have A12 := A1.trans A2
  cases r with
  | bl k =>
    refine Gives.bl A2.st.sub fun w hw B3 H3 e s => ⟨k, hw, ?_⟩
    have A3 := A12.trans (Aft.ext0 A2.st e s)
    cases k with
    | false =>
      subst hw
      exact (show ∀ v B1 H1 L1, Aft G B H ρ L σ B1 H1 ρ2 L1 σ → Res G B1 H H1 v (.bl false) false → Nb L1 v false → Q v H1 from h) _ B3 H3 L2 A3 (.old (.bl _)) nb_old
    | true =>
      show tO G F W c σ H3 _
      have A3s := (Aft.ext0 A2.st e s).st
      refine ⟨B3, ρ2, L2, A3s, (show wpR W ((c F ρ2).bind _) _ from h).bind.mono (fun _ h => h) ?_⟩
      rintro ⟨z, ρ3⟩ _ h t B4 H4 L4 A4 r4
      obtain ⟨q', e5, h⟩ := (show wpR W ((Ice.deref ρ3 y).bind _) _ from h).bind.got fun _ => deref_nx
      obtain ⟨o, e6, h⟩ := (show wpR W ((Ice.deref ρ3 z).bind _) _ from h).bind.got fun _ => deref_nx
      obtain ⟨⟨r', m'⟩, e7, h⟩ := (show wpR W ((g q' o).bind _) _ from h).bind.got (ny q' o)
      exact ⟨B4, q', o, r', m', A4.st.sub, (r2.mono (e.bb.trans A4.ext.bb)).opn A4.st e5, r4.opn A4.st e6, e7, gives_of (A3.trans A4) h⟩
  | _ => exact h.elim
end
def kCh (f g : CO) (a b c : KO) : KE where
  d := Ice.eCh f.f g.f a.d b.d c.d
  chk C e := match e with | .Compare x [o, o'] [y, z] _ => cmpIs f.o o && cmpIs g.o o' && a.chk C x && b.chk C y && c.chk C z && !(lastMarks [f.o, g.o] [y, z]) | _ => false
  ok {G X n C F W} h e hc := by
    split at hc
    · simp only [Bool.and_eq_true] at hc
      obtain ⟨⟨⟨⟨⟨h1, h1'⟩, h2⟩, h3⟩, h4⟩, h5⟩ := hc
      rw [← cmpIs_ok h1, ← cmpIs_ok h1']
      exact ⟨(pe_chain (f.rule h.toXG) (g.rule h.toXG) (a.ok h h2) (b.ok h h3) (c.ok h h4) (not_tt h5)).imp (imp_ch f.nx g.nx),
        (pt_chain (f.rule h.toXG) (g.rule h.toXG) (a.ok h h2) (b.ok h h3) (c.ok h h4) (not_tt h5)).imp (tst_of (imp_ch f.nx g.nx))⟩
    · cases hc

/-! ### and, or, not, if -/
section
variable {G : Cfg} {X : Cx} {n : Nat} {C : Ctx} {F : FE} {W : Nat → Prop}
theorem tst_bl {d : Ev} {ρ : Env} {P : Bool × Env → Prop} (h : wpR W (Ice.tst d F ρ) P) : wpR W (d F ρ) fun (p, _, ρ1) => ∃ b, p = .bl b ∧ P (b, ρ1) := by
  refine (show wpR W ((d F ρ).bind _) _ from h).bind.mono (fun _ h => h) ?_
  rintro ⟨p, m, ρ1⟩ _ h
  cases p with
  | bl b => exact ⟨b, rfl, h⟩
  | _ => exact h.elim
theorem Res.bl {B H0 H : Hp} {v : V} {b m : Bool} (r : Res G B H0 H v (.bl b) m) : v = .bl b := by
  cases r with
  | old r => cases r; rfl
  | new _ _ o => cases o
theorem imp_and {a b : Ev} : ∀ σ H Q, tE G F W (Ice.eAnd a b) σ H Q → tAndV (tE G F W a) (tE G F W b) σ H Q := by
  rintro σ H Q ⟨B, ρ, L, S, h⟩
  refine ⟨B, ρ, L, S, (tst_bl (show wpR W ((Ice.tst a F ρ).bind _) _ from h).bind).mono (fun _ h => h) ?_⟩
  rintro ⟨p, m, ρ1⟩ _ ⟨c, e, h⟩ v B1 H1 L1 A r _
  subst e
  obtain rfl := r.bl
  refine ⟨c, rfl, ?_⟩
  cases c with
  | true =>
    refine ⟨B1, ρ1, L1, A.st, (show wpR W (b F ρ1) _ from h).mono (fun _ h => h) ?_⟩
    rintro ⟨p, m, ρ2⟩ _ h v B2 H2 L2 A2 r nb
    refine h v B2 H2 L2 (A.trans A2) ?_ nb
    cases r with
    | old r => exact .old r
    | new h1 h2 h3 => exact .new h1 (A.ext.dm _ h2) h3
    | xt h1 h2 h3 => exact .xt h1 h2 h3
  | false => exact (show ∀ v B2 H2 L2, Aft G B H ρ L σ B2 H2 ρ1 L2 σ → Res G B2 H H2 v (.bl false) false → Nb L2 v false → Q v H2 from h) _ B1 H1 L1 A (.old (.bl _)) nb_old
theorem imp_or {a b : Ev} : ∀ σ H Q, tE G F W (Ice.eOr a b) σ H Q → tOrV (tE G F W a) (tE G F W b) σ H Q := by
  rintro σ H Q ⟨B, ρ, L, S, h⟩
  refine ⟨B, ρ, L, S, (tst_bl (show wpR W ((Ice.tst a F ρ).bind _) _ from h).bind).mono (fun _ h => h) ?_⟩
  rintro ⟨p, m, ρ1⟩ _ ⟨c, e, h⟩ v B1 H1 L1 A r _
  subst e
  obtain rfl := r.bl
  refine ⟨c, rfl, ?_⟩
  cases c with
  | false =>
    refine ⟨B1, ρ1, L1, A.st, (show wpR W (b F ρ1) _ from h).mono (fun _ h => h) ?_⟩
    rintro ⟨p, m, ρ2⟩ _ h v B2 H2 L2 A2 r nb
    refine h v B2 H2 L2 (A.trans A2) ?_ nb
    cases r with
    | old r => exact .old r
    | new h1 h2 h3 => exact .new h1 (A.ext.dm _ h2) h3
    | xt h1 h2 h3 => exact .xt h1 h2 h3
  | true => exact (show ∀ v B2 H2 L2, Aft G B H ρ L σ B2 H2 ρ1 L2 σ → Res G B2 H H2 v (.bl true) false → Nb L2 v false → Q v H2 from h) _ B1 H1 L1 A (.old (.bl _)) nb_old
theorem imp_not {a : Ev} : ∀ σ H Q, tE G F W (Ice.eNot a) σ H Q → tNotV (tE G F W a) σ H Q := by
  rintro σ H Q ⟨B, ρ, L, S, h⟩
  refine ⟨B, ρ, L, S, (tst_bl (show wpR W ((Ice.tst a F ρ).bind _) _ from h).bind).mono (fun _ h => h) ?_⟩
  rintro ⟨p, m, ρ1⟩ _ ⟨c, e, h⟩ v B1 H1 L1 A r _
  subst e
  obtain rfl := r.bl
  exact ⟨c, rfl, (show ∀ v B2 H2 L2, Aft G B H ρ L σ B2 H2 ρ1 L2 σ → Res G B2 H H2 v (.bl (!c)) false → Nb L2 v false → Q v H2 from h) _ B1 H1 L1 A (.old (.bl _)) nb_old⟩
theorem imp_if {c a b : Ev} : ∀ σ H Q, tE G F W (Ice.eIf c a b) σ H Q → tIf (tT G F W c) (tE G F W a) (tE G F W b) σ H Q := by
  rintro σ H Q ⟨B, ρ, L, S, h⟩
  refine ⟨B, ρ, L, S, (show wpR W ((Ice.tst c F ρ).bind _) _ from h).bind.mono (fun _ h => h) ?_⟩
  rintro ⟨k, ρ1⟩ _ h B1 H1 L1 A
  have go : ∀ d : Ev, wpR W (d F ρ1) (fun (x : PV × Bool × Env) => ∀ v B2 H2 L2, Aft G B H ρ L σ B2 H2 x.2.2 L2 σ → Res G B2 H H2 v x.1 x.2.1 → Nb L2 v x.2.1 → Q v H2) → tE G F W d σ H1 Q := fun d h => by
    refine ⟨B1, ρ1, L1, A.st, h.mono (fun _ h => h) ?_⟩
    rintro ⟨p, m, ρ2⟩ _ h v B2 H2 L2 A2 r nb
    refine h v B2 H2 L2 (A.trans A2) ?_ nb
    cases r with
    | old r => exact .old r
    | new h1 h2 h3 => exact .new h1 (A.ext.dm _ h2) h3
    | xt h1 h2 h3 => exact .xt h1 h2 h3
  cases k with
  | true => exact go a h
  | false => exact go b h
/-- .. as tests -/
theorem impT_and {a b : Ev} : ∀ σ H Q, tT G F W (Ice.eAnd a b) σ H Q → tAnd (tT G F W a) (tT G F W b) σ H Q := by
  rintro σ H Q ⟨B, ρ, L, S, h⟩
  have h := tst_bl h
  refine ⟨B, ρ, L, S, (show wpR W ((Ice.tst a F ρ).bind _) _ from h).bind.mono (fun _ h => h) ?_⟩
  rintro ⟨c, ρ1⟩ _ h B1 H1 L1 A
  cases c with
  | false =>
    obtain ⟨b', e, h⟩ := (show ∃ b', PV.bl false = PV.bl b' ∧ _ from h)
    cases e
    exact h B1 H1 L1 A
  | true =>
    refine ⟨B1, ρ1, L1, A.st, ?_⟩
    have h := (show wpR W (b F ρ1) _ from h)
    show wpR W ((b F ρ1).bind _) _
    cases e : b F ρ1 with
    | ok x =>
      rw [e] at h
      obtain ⟨k, e2, h⟩ := (show ∃ k, x.1 = PV.bl k ∧ _ from h)
      obtain ⟨p, m, ρ2⟩ := x
      have e2 : p = .bl k := e2
      subst e2
      exact fun B2 H2 L2 A2 => h B2 H2 L2 (A.trans A2)
    | exn c => rw [e] at h; exact h
    | stuck => rw [e] at h; exact h.elim
theorem impT_or {a b : Ev} : ∀ σ H Q, tT G F W (Ice.eOr a b) σ H Q → tOr (tT G F W a) (tT G F W b) σ H Q := by
  rintro σ H Q ⟨B, ρ, L, S, h⟩
  have h := tst_bl h
  refine ⟨B, ρ, L, S, (show wpR W ((Ice.tst a F ρ).bind _) _ from h).bind.mono (fun _ h => h) ?_⟩
  rintro ⟨c, ρ1⟩ _ h B1 H1 L1 A
  cases c with
  | true =>
    obtain ⟨b', e, h⟩ := (show ∃ b', PV.bl true = PV.bl b' ∧ _ from h)
    cases e
    exact h B1 H1 L1 A
  | false =>
    refine ⟨B1, ρ1, L1, A.st, ?_⟩
    have h := (show wpR W (b F ρ1) _ from h)
    show wpR W ((b F ρ1).bind _) _
    cases e : b F ρ1 with
    | ok x =>
      rw [e] at h
      obtain ⟨k, e2, h⟩ := (show ∃ k, x.1 = PV.bl k ∧ _ from h)
      obtain ⟨p, m, ρ2⟩ := x
      have e2 : p = .bl k := e2
      subst e2
      exact fun B2 H2 L2 A2 => h B2 H2 L2 (A.trans A2)
    | exn c => rw [e] at h; exact h
    | stuck => rw [e] at h; exact h.elim
theorem impT_not {a : Ev} : ∀ σ H Q, tT G F W (Ice.eNot a) σ H Q → tNot (tT G F W a) σ H Q := by
  rintro σ H Q ⟨B, ρ, L, S, h⟩
  have h := tst_bl h
  refine ⟨B, ρ, L, S, (show wpR W ((Ice.tst a F ρ).bind _) _ from h).bind.mono (fun _ h => h) ?_⟩
  rintro ⟨c, ρ1⟩ _ h B1 H1 L1 A
  obtain ⟨b', e, h⟩ := (show ∃ b', PV.bl (!c) = PV.bl b' ∧ _ from h)
  cases e
  exact h B1 H1 L1 A
theorem impT_if {c a b : Ev} : ∀ σ H Q, tT G F W (Ice.eIf c a b) σ H Q → (fun σ H Q => tT G F W c σ H fun k H1 => if k = true then tT G F W a σ H1 Q else tT G F W b σ H1 Q : TT) σ H Q := by
  rintro σ H Q ⟨B, ρ, L, S, h⟩
  have h := tst_bl h
  refine ⟨B, ρ, L, S, (show wpR W ((Ice.tst c F ρ).bind _) _ from h).bind.mono (fun _ h => h) ?_⟩
  rintro ⟨k, ρ1⟩ _ h B1 H1 L1 A
  have go : ∀ d : Ev, wpR W (d F ρ1) (fun (x : PV × Bool × Env) => ∃ b', x.1 = PV.bl b' ∧ ∀ B2 H2 L2, Aft G B H ρ L σ B2 H2 x.2.2 L2 σ → Q b' H2) → tT G F W d σ H1 Q := fun d h => by
    refine ⟨B1, ρ1, L1, A.st, ?_⟩
    show wpR W ((d F ρ1).bind _) _
    cases e : d F ρ1 with
    | ok x =>
      rw [e] at h
      obtain ⟨k, e2, h⟩ := (show ∃ k, x.1 = PV.bl k ∧ _ from h)
      obtain ⟨p, m, ρ2⟩ := x
      have e2 : p = .bl k := e2
      subst e2
      exact fun B2 H2 L2 A2 => h B2 H2 L2 (A.trans A2)
    | exn c => rw [e] at h; exact h
    | stuck => rw [e] at h; exact h.elim
  cases k with
  | true => exact go a h
  | false => exact go b h
theorem pt_if {c a b : Expr} {pos : Pos} {tc ta tb : TT} (hc : PT X c tc) (ha : PT X a ta) (hb : PT X b tb) : PT X (.IfExp c a b pos) (fun σ H Q => tc σ H fun k H1 => if k = true then ta σ H1 Q else tb σ H1 Q) := by
  refine ⟨fun pins s σ H Q I h => ?_⟩
  unfold PySem.isTrue
  refine wpAny_bind (thn (hc.run pins s σ H _ I h) fun k s1 ⟨H1, I1, q⟩ => ?_)
  cases k with
  | true => exact ha.run pins s1 σ H1 Q I1 q
  | false => exact hb.run pins s1 σ H1 Q I1 q
end
/-- a and b and .. -/
def andD : List KE → Ev
  | [] => Ice.eC (.bl true)
  | [a] => a.d
  | a :: b :: r => Ice.eAnd a.d (andD (b :: r))
def orD : List KE → Ev
  | [] => Ice.eC (.bl true)
  | [a] => a.d
  | a :: b :: r => Ice.eOr a.d (orD (b :: r))
def chkB : List KE → Ctx → List Expr → Bool
  | [k], C, [e] => k.chk C e
  | k :: k2 :: ks, C, e :: e2 :: es => k.chk C e && chkB (k2 :: ks) C (e2 :: es)
  | _, _, _ => false
section
variable {G : Cfg} {X : Cx} {n : Nat} {C : Ctx} {F : FE} {W : Nat → Prop}
theorem and_ok (h : CtxOk G X n C F W) (pos : Pos) : ∀ (ks : List KE) (es : List Expr), chkB ks C es = true → PE X (.BoolOp .And es pos) (tE G F W (andD ks)) ∧ PW X (.BoolOp .And es pos) (tT G F W (andD ks))
  | [k], [e], hc => ⟨pe_one (k.ok h hc).1, pw_and1 (k.ok h hc).2⟩
  | k :: k2 :: ks, e :: e2 :: es, hc => by
    have hc : (k.chk C e && chkB (k2 :: ks) C (e2 :: es)) = true := hc
    rw [Bool.and_eq_true] at hc
    obtain ⟨h1, h2⟩ := k.ok h hc.1
    obtain ⟨h3, h4⟩ := and_ok h pos (k2 :: ks) (e2 :: es) hc.2
    exact ⟨(pe_and h1 h3).imp imp_and, ⟨fun wh pins s σ H Q I q => (pw_and h2 h4).run wh pins s σ H Q I (impT_and σ H Q q)⟩⟩
theorem or_ok (h : CtxOk G X n C F W) (pos : Pos) : ∀ (ks : List KE) (es : List Expr), chkB ks C es = true → PE X (.BoolOp .Or es pos) (tE G F W (orD ks)) ∧ PW X (.BoolOp .Or es pos) (tT G F W (orD ks))
  | [k], [e], hc => ⟨pe_one (k.ok h hc).1, pw_or1 (k.ok h hc).2⟩
  | k :: k2 :: ks, e :: e2 :: es, hc => by
    have hc : (k.chk C e && chkB (k2 :: ks) C (e2 :: es)) = true := hc
    rw [Bool.and_eq_true] at hc
    obtain ⟨h1, h2⟩ := k.ok h hc.1
    obtain ⟨h3, h4⟩ := or_ok h pos (k2 :: ks) (e2 :: es) hc.2
    exact ⟨(pe_or h1 h3).imp imp_or, ⟨fun wh pins s σ H Q I q => (pw_or h2 h4).run wh pins s σ H Q I (impT_or σ H Q q)⟩⟩
end
def kAnd (ks : List KE) : KE where
  d := andD ks
  chk C e := match e with | .BoolOp .And es _ => chkB ks C es | _ => false
  ok {G X n C F W} h e hc := by
    split at hc
    · exact ⟨(and_ok h _ _ _ hc).1, (and_ok h _ _ _ hc).2.pt⟩
    · cases hc
def kOr (ks : List KE) : KE where
  d := orD ks
  chk C e := match e with | .BoolOp .Or es _ => chkB ks C es | _ => false
  ok {G X n C F W} h e hc := by
    split at hc
    · exact ⟨(or_ok h _ _ _ hc).1, (or_ok h _ _ _ hc).2.pt⟩
    · cases hc
def kNot (k : KE) : KE where
  d := Ice.eNot k.d
  chk C e := match e with | .UnaryOp .Not x _ => k.chk C x | _ => false
  ok {G X n C F W} h e hc := by
    split at hc
    · exact ⟨(pe_not (k.ok h hc).1).imp imp_not, (pt_not (k.ok h hc).2).imp impT_not⟩
    · cases hc
def kIf (c a b : KE) : KE where
  d := Ice.eIf c.d a.d b.d
  chk C e := match e with | .IfExp x y z _ => c.chk C x && a.chk C y && b.chk C z | _ => false
  ok {G X n C F W} h e hc := by
    split at hc
    · rw [Bool.and_eq_true, Bool.and_eq_true] at hc
      obtain ⟨⟨h1, h2⟩, h3⟩ := hc
      exact ⟨(pe_ifExp (c.ok h h1).2 (a.ok h h2).1 (b.ok h h3).1).imp imp_if, (pt_if (c.ok h h1).2 (a.ok h h2).2 (b.ok h h3).2).imp impT_if⟩
    · cases hc
end IceS
end
section
set_option Elab.async false
set_option linter.all false
set_option maxRecDepth 100000
/-! Certified code: calls, subscripts. -/
namespace IceS
open PySem hiding Env
open PySem.Spec PyProof.Rows L2
open Ice (PV Slot Env FE Ev Op Opd gS sS)

/-! ### a def's call -/
inductive OpdsR (G : Cfg) (B : Hp) (σ : L2.St) : List V → List Opd → Prop
  | nil : OpdsR G B σ [] []
  | cons {v : V} {x : Opd} {vs : List V} {xs : List Opd} : OpdR G B σ v x → OpdsR G B σ vs xs → OpdsR G B σ (v :: vs) (x :: xs)
theorem OpdsR.mono {G : Cfg} {B B' : Hp} {σ : L2.St} (s : Sub B B') : ∀ {vs : List V} {xs : List Opd}, OpdsR G B σ vs xs → OpdsR G B' σ vs xs
  | _, _, .nil => .nil
  | _, _, .cons a b => .cons (a.mono s) (b.mono s)
theorem OpdsR.length {G : Cfg} {B : Hp} {σ : L2.St} : ∀ {vs : List V} {xs : List Opd}, OpdsR G B σ vs xs → vs.length = xs.length
  | _, _, .nil => rfl
  | _, _, .cons a b => by rw [List.length_cons, List.length_cons, b.length]
theorem OpdsR.get {G : Cfg} {B : Hp} {σ : L2.St} : ∀ {vs : List V} {xs : List Opd} {k : Nat} {x : Opd}, OpdsR G B σ vs xs → xs[k]? = some x → ∃ v, vs[k]? = some v ∧ OpdR G B σ v x
  | _, _, _, _, .nil, h => by simp at h
  | _, _, 0, _, .cons a b, h => by simp at h; subst h; exact ⟨_, rfl, a⟩
  | _, _, k + 1, _, .cons a b, h => by
    obtain ⟨v, h1, h2⟩ := OpdsR.get (k := k) b (by simpa using h)
    exact ⟨v, by simpa using h1, h2⟩
section
variable (G : Cfg) (F : FE) (W : Nat → Prop)
def tOs (os : List Op) : TA := fun σ H Q => ∃ B ρ L, StR G B σ H ρ L ∧ wpR W (Ice.ops os F ρ) fun (xs, ρ1) => ∀ vs B1 H1 L1, Aft G B H ρ L σ B1 H1 ρ1 L1 σ → OpdsR G B1 σ vs xs → Q vs H1
end
def chkO : List KO → Ctx → List Expr → Bool
  | [], _, [] => true
  | k :: ks, C, e :: es => k.chk C e && notStar e && chkO ks C es
  | _, _, _ => false
section
variable {G : Cfg} {X : Cx} {n : Nat} {C : Ctx} {F : FE} {W : Nat → Prop}
theorem chkO_star : ∀ {ks : List KO} {es : List Expr}, chkO ks C es = true → es.all notStar = true
  | [], [], _ => rfl
  | k :: ks, e :: es, h => by
    unfold chkO at h
    rw [Bool.and_eq_true, Bool.and_eq_true] at h
    rw [List.all_cons, h.1.2, chkO_star h.2]; rfl
theorem pa_ops (h : CtxOk G X n C F W) : ∀ {ks : List KO} {es : List Expr}, chkO ks C es = true → PA X es (tOs G F W (ks.map (·.d)))
  | [], [], _ => pa_nil.imp (by
    rintro σ H Q ⟨B, ρ, L, S, q⟩
    exact (show ∀ vs B1 H1 L1, Aft G B H ρ L σ B1 H1 ρ L1 σ → OpdsR G B1 σ vs [] → Q vs H1 from q) [] B H L (Aft.refl S) .nil)
  | k :: ks, e :: es, hc => by
    unfold chkO at hc
    rw [Bool.and_eq_true, Bool.and_eq_true] at hc
    refine (pa_cons (k.ok h hc.1.1) (pa_ops h hc.2) (star_cons hc.1.2 _ _)).imp ?_
    rintro σ H Q ⟨B, ρ, L, S, q⟩
    refine ⟨B, ρ, L, S, (show wpR W ((k.d F ρ).bind _) _ from q).bind.mono (fun _ h => h) ?_⟩
    rintro ⟨x, ρ1⟩ _ q v B1 H1 L1 A r
    refine ⟨B1, ρ1, L1, A.st, (show wpR W ((Ice.ops (ks.map (·.d)) F ρ1).bind _) _ from q).bind.mono (fun _ h => h) ?_⟩
    rintro ⟨xs, ρ2⟩ _ q vs B3 H3 L3 A3 rl
    exact q (v :: vs) B3 H3 L3 (A.trans A3) (.cons (r.mono A3.ext.bb) rl)
/-- the places of names handed on -/
theorem mem_refs {i : Nat} : ∀ {xs : List Opd}, i ∈ Ice.refsOf xs ↔ ∃ k : Nat, xs[k]? = some (Opd.ref i)
  | [] => by simp [Ice.refsOf]
  | x :: xs => by
    have ih := mem_refs (i := i) (xs := xs)
    have up : (∃ k : Nat, xs[k]? = some (Opd.ref i)) ↔ ∃ k : Nat, (x :: xs)[k + 1]? = some (Opd.ref i) := by simp
    cases x with
    | val p =>
      show i ∈ Ice.refsOf xs ↔ _
      rw [ih, up]
      constructor
      · rintro ⟨k, h⟩; exact ⟨k + 1, h⟩
      · rintro ⟨k, h⟩
        cases k with
        | zero => simp at h
        | succ k => exact ⟨k, h⟩
    | ref2 a b =>
      show i ∈ Ice.refsOf xs ↔ _
      rw [ih, up]
      constructor
      · rintro ⟨k, h⟩; exact ⟨k + 1, h⟩
      · rintro ⟨k, h⟩
        cases k with
        | zero => simp at h
        | succ k => exact ⟨k, h⟩
    | ref j =>
      show i ∈ j :: Ice.refsOf xs ↔ _
      rw [List.mem_cons, ih, up]
      constructor
      · rintro (e | ⟨k, h⟩)
        · subst e; exact ⟨0, rfl⟩
        · exact ⟨k + 1, h⟩
      · rintro ⟨k, h⟩
        cases k with
        | zero => simp at h; exact .inl h.symm
        | succ k => exact .inr ⟨k, h⟩
theorem nodup_refs : ∀ {xs : List Opd}, Ice.nodupN (Ice.refsOf xs) = true → ∀ {j k i : Nat}, xs[j]? = some (.ref i) → xs[k]? = some (.ref i) → j = k
  | [], _, j, k, i, h, _ => by simp at h
  | x :: xs, h, j, k, i, hj, hk => by
    have tl : Ice.nodupN (Ice.refsOf xs) = true ∧ ∀ m, x = .ref m → m ∉ Ice.refsOf xs := by
      cases x with
      | val p => exact ⟨h, fun m e => by cases e⟩
      | ref2 a b => exact ⟨h, fun m e => by cases e⟩
      | ref m =>
        have h : (!(Ice.refsOf xs).contains m && Ice.nodupN (Ice.refsOf xs)) = true := h
        rw [Bool.and_eq_true] at h
        refine ⟨h.2, fun m' e z => ?_⟩
        cases e
        have := not_tt h.1
        rw [List.contains_eq_mem, decide_eq_true z] at this
        cases this
    cases j with
    | zero =>
      cases k with
      | zero => rfl
      | succ k =>
        simp at hj
        exact absurd (mem_refs.mpr ⟨k, by simpa using hk⟩) (tl.2 i hj)
    | succ j =>
      cases k with
      | zero =>
        simp at hk
        exact absurd (mem_refs.mpr ⟨j, by simpa using hj⟩) (tl.2 i hk)
      | succ k => exact congrArg (· + 1) (nodup_refs (i := i) tl.1 (by simpa using hj) (by simpa using hk))
theorem args_spec {ρ : Env} : ∀ {xs : List Opd} {ss : List Slot}, Ice.args ρ xs = .ok ss → ss.length = xs.length ∧ ∀ k x, xs[k]? = some x → Ice.argS ρ x = .ok (gS ss k)
  | [], ss, h => by cases h; exact ⟨rfl, fun k x e => by simp at e⟩
  | x :: xs, ss, h => by
    have h : (Ice.argS ρ x).bind _ = _ := h
    cases e : Ice.argS ρ x with
    | ok s =>
      rw [e] at h
      have h : (Ice.args ρ xs).bind _ = _ := h
      cases e2 : Ice.args ρ xs with
      | ok ts =>
        rw [e2] at h
        cases h
        obtain ⟨h1, h2⟩ := args_spec e2
        refine ⟨by rw [List.length_cons, List.length_cons, h1], fun k y hy => ?_⟩
        cases k with
        | zero => simp at hy; subst hy; exact e
        | succ k => exact h2 k y (by simpa using hy)
      | exn c => rw [e2] at h; cases h
      | stuck => rw [e2] at h; cases h
    | exn c => rw [e] at h; cases h
    | stuck => rw [e] at h; cases h
theorem back_spec : ∀ {xs : List Opd} {outs : List Slot} {ρ ρ' : Env}, Ice.nodupN (Ice.refsOf xs) = true → Ice.back xs outs ρ = .ok ρ' →
    ρ'.length = ρ.length ∧ (∀ i, i ∉ Ice.refsOf xs → gS ρ' i = gS ρ i) ∧ ∀ k i, xs[k]? = some (.ref i) → ∃ p, gS outs k = .par p ∧ ((∃ q, gS ρ i = .own q ∧ gS ρ' i = .own p) ∨ ∃ q, gS ρ i = .par q ∧ gS ρ' i = .par p)
  | [], outs, ρ, ρ', _, h => by cases h; exact ⟨rfl, fun i _ => rfl, fun k i e => by simp at e⟩
  | .val v :: xs, [], ρ, ρ', _, h => by cases h
  | .val v :: xs, s :: outs, ρ, ρ', nd, h => by
    obtain ⟨h0, h1, h2⟩ := back_spec (xs := xs) (outs := outs) nd h
    refine ⟨h0, h1, fun k i e => ?_⟩
    cases k with
    | zero => simp at e
    | succ k => exact h2 k i (by simpa using e)
  | .ref2 a b :: xs, outs, ρ, ρ', _, h => by cases outs <;> cases h
  | .ref i :: xs, [], ρ, ρ', _, h => by cases h
  | .ref i :: xs, s :: outs, ρ, ρ', nd, h => by
    have nd : (!(Ice.refsOf xs).contains i && Ice.nodupN (Ice.refsOf xs)) = true := nd
    rw [Bool.and_eq_true] at nd
    have ni : i ∉ Ice.refsOf xs := fun z => by
      have := not_tt nd.1
      rw [List.contains_eq_mem, decide_eq_true z] at this
      cases this
    cases s with
    | par p =>
      have h : (match gS ρ i with | .own _ => Ice.back xs outs (sS ρ i (.own p)) | .par _ => Ice.back xs outs (sS ρ i (.par p)) | _ => .stuck) = Ice.R.ok ρ' := h
      have go : ∀ s, Ice.back xs outs (sS ρ i s) = .ok ρ' → i < ρ.length → ρ'.length = ρ.length ∧ (∀ j, j ∉ Ice.refsOf (.ref i :: xs) → gS ρ' j = gS ρ j) ∧ gS ρ' i = s ∧
          ∀ k j, xs[k]? = some (.ref j) → ∃ p, gS outs k = .par p ∧ ((∃ q, gS ρ j = .own q ∧ gS ρ' j = .own p) ∨ ∃ q, gS ρ j = .par q ∧ gS ρ' j = .par p) := fun s hb hl => by
        obtain ⟨h0, h1, h2⟩ := back_spec nd.2 hb
        refine ⟨by rw [h0, sS_len], fun j hj => ?_, by rw [h1 i ni, gS_same hl], fun k j e => ?_⟩
        · have hj : j ∉ i :: Ice.refsOf xs := hj
          rw [List.mem_cons, not_or] at hj
          rw [h1 j hj.2, gS_ne (fun z => hj.1 z.symm)]
        · obtain ⟨p, e1, e2⟩ := h2 k j e
          have hji : i ≠ j := fun z => ni (mem_refs.mpr ⟨k, z ▸ e⟩)
          rw [gS_ne hji] at e2
          exact ⟨p, e1, e2⟩
      cases hs : gS ρ i with
      | own q =>
        rw [hs] at h
        obtain ⟨h0, h1, h2, h3⟩ := go _ h (gS_lt (by rw [hs]; intro z; cases z))
        refine ⟨h0, h1, fun k j e => ?_⟩
        cases k with
        | zero => simp at e; subst e; exact ⟨p, rfl, .inl ⟨q, hs, h2⟩⟩
        | succ k => exact h3 k j (by simpa using e)
      | par q =>
        rw [hs] at h
        obtain ⟨h0, h1, h2, h3⟩ := go _ h (gS_lt (by rw [hs]; intro z; cases z))
        refine ⟨h0, h1, fun k j e => ?_⟩
        cases k with
        | zero => simp at e; subst e; exact ⟨p, rfl, .inr ⟨q, hs, h2⟩⟩
        | succ k => exact h3 k j (by simpa using e)
      | _ => rw [hs] at h; cases h
    | _ => cases h
theorem gσ_map {vs : List V} {k : Nat} : gσ (vs.map some) k = vs[k]? := by
  unfold gσ
  rw [List.getElem?_map]
  cases vs[k]? <;> rfl
theorem gS_map {ss : List Slot} {k : Nat} : gS (ss.map parS) k = parS (gS ss k) := by
  induction ss generalizing k with
  | nil => rfl
  | cons s ss ih =>
    cases k with
    | zero => rfl
    | succ k => exact ih
def argL (L : Nat → List Addr) (xs : List Opd) (k : Nat) : List Addr := match xs[k]? with
  | some (.ref i) => L i
  | _ => []
theorem argL_mem {L : Nat → List Addr} {xs : List Opd} {k : Nat} {a : Addr} (h : a ∈ argL L xs k) : ∃ i, xs[k]? = some (.ref i) ∧ a ∈ L i := by
  unfold argL at h
  split at h
  · rename_i i e; exact ⟨i, e, h⟩
  · cases h
theorem okL_of {ss : List Slot} (h : ∀ k, k < ss.length → Ice.okArg (gS ss k) = true) : okL ss = true := by
  induction ss with
  | nil => rfl
  | cons s ss ih =>
    show (Ice.okArg s && okL ss) = true
    rw [show Ice.okArg s = true from h 0 (by simp), ih fun k hk => h (k + 1) (by simpa using hk)]
    rfl
theorem argS_cases {B H : Hp} {σ : L2.St} {ρ : Env} {L : Nat → List Addr} {v : V} {x : Opd} {s : Slot} (S : StR G B σ H ρ L) (r : OpdR G B σ v x) (h : Ice.argS ρ x = .ok s) :
    (∃ p, x = .val p ∧ s = .val p ∧ Rep G B v p) ∨ ∃ i p a, x = .ref i ∧ s = .own p ∧ (gS ρ i = .own p ∨ gS ρ i = .par p) ∧ v = .ref a ∧ gσ σ i = some (.ref a) ∧ L i = [a] ∧ B a = none ∧ ObjR G B H a p := by
  cases x with
  | val p => cases h; exact .inl ⟨p, rfl, rfl, r⟩
  | ref2 a b => cases h
  | ref i =>
    have h : (match gS ρ i with | .own p => Ice.R.ok (Slot.own p) | .par p => .ok (.own p) | _ => .stuck) = .ok s := h
    have r : gσ σ i = some v := r
    have sl := S.slot i
    cases hs : gS ρ i with
    | own p =>
      rw [hs] at h sl
      cases h
      rw [r] at sl
      generalize hL : L i = l at sl
      cases sl with
      | own h1 h2 => exact .inr ⟨i, p, _, rfl, rfl, .inl hs, rfl, r, hL, h1, h2⟩
    | par p =>
      rw [hs] at h sl
      cases h
      rw [r] at sl
      generalize hL : L i = l at sl
      cases sl with
      | par h1 h2 => exact .inr ⟨i, p, _, rfl, rfl, .inr hs, rfl, r, hL, h1, h2⟩
    | _ => rw [hs] at h; cases h
theorem call_in {B H : Hp} {σ : L2.St} {ρ : Env} {L : Nat → List Addr} {vs : List V} {xs : List Opd} {ss : List Slot} (S : StR G B σ H ρ L) (r : OpdsR G B σ vs xs) (nd : Ice.nodupN (Ice.refsOf xs) = true) (ha : Ice.args ρ xs = .ok ss) :
    okL ss = true ∧ StR G B (vs.map some) H (ss.map parS) (argL L xs) := by
  obtain ⟨hl, hs⟩ := args_spec ha
  have at' : ∀ k, k < xs.length → ∃ x v, xs[k]? = some x ∧ vs[k]? = some v ∧ ((∃ p, x = .val p ∧ gS ss k = .val p ∧ Rep G B v p) ∨ ∃ i p a, x = .ref i ∧ gS ss k = .own p ∧ (gS ρ i = .own p ∨ gS ρ i = .par p) ∧ v = .ref a ∧ gσ σ i = some (.ref a) ∧ L i = [a] ∧ B a = none ∧ ObjR G B H a p) := fun k hk => by
    have hx : xs[k]? = some xs[k] := List.getElem?_eq_getElem hk
    obtain ⟨v, h1, h2⟩ := r.get hx
    exact ⟨_, v, hx, h1, argS_cases S h2 (hs k _ hx)⟩
  refine ⟨okL_of fun k hk => ?_, ⟨by rw [List.length_map, List.length_map, r.length, hl], S.sub, fun k => ?_, fun j k a h1 h2 => ?_⟩⟩
  · obtain ⟨x, v, _, _, ⟨p, _, e, _⟩ | ⟨i, p, a, _, e, _⟩⟩ := at' k (by omega)
    · rw [e]; rfl
    · rw [e]; rfl
  · rw [gσ_map, gS_map]
    by_cases hk : k < xs.length
    · obtain ⟨x, v, e1, e2, ⟨p, e3, e4, e5⟩ | ⟨i, p, a, e3, e4, e5, e6, e7, e8, e9, e10⟩⟩ := at' k hk
      · subst e3
        rw [e2, e4]
        unfold argL
        rw [e1]
        exact .val e5
      · subst e3 e6
        rw [e2, e4]
        unfold argL
        rw [e1]
        show SlR G B H (some (V.ref a)) (.par p) (L i)
        rw [e8]
        exact .par e9 e10
    · have e1 : xs[k]? = none := List.getElem?_eq_none (by omega)
      have e3 : gS ss k = .un := Classical.byContradiction fun z => absurd (gS_lt z) (by omega)
      unfold argL
      rw [e3, e1]
      exact .un
  · obtain ⟨i, e1, e2⟩ := argL_mem h1
    obtain ⟨i', e3, e4⟩ := argL_mem h2
    have := S.dist i i' a e2 e4
    subst this
    exact nodup_refs nd e1 e3
theorem call_out {B H B' H' : Hp} {σ : L2.St} {ρ ρ' : Env} {L L' : Nat → List Addr} {vs : List V} {xs : List Opd} {ss outs : List Slot} (S : StR G B σ H ρ L) (r : OpdsR G B σ vs xs) (nd : Ice.nodupN (Ice.refsOf xs) = true) (ha : Ice.args ρ xs = .ok ss)
    (A : Aft G B H (ss.map parS) (argL L xs) (vs.map some) B' H' outs L' (vs.map some)) (hb : Ice.back xs outs ρ = .ok ρ') : Aft G B H ρ L σ B' H' ρ' L σ := by
  obtain ⟨hl, hs⟩ := args_spec ha
  obtain ⟨b0, b1, b2⟩ := back_spec nd hb
  have wr : ∀ a, Wr (ss.map parS) (argL L xs) a → Wr ρ L a := fun a ⟨k, h1, h2⟩ => by
    obtain ⟨i, e1, e2⟩ := argL_mem h1
    refine ⟨i, e2, ?_⟩
    obtain ⟨p, _, ⟨q, h, _⟩ | ⟨q, h, _⟩⟩ := b2 k i e1 <;> (rw [h]; simp [kd])
  have mem : ∀ a, Mem (argL L xs) a → Mem L a := fun a ⟨k, h1⟩ => by
    obtain ⟨i, e1, e2⟩ := argL_mem h1
    exact ⟨i, e2⟩
  have kds : ∀ i, kd (gS ρ' i) = kd (gS ρ i) := fun i => by
    by_cases hi : i ∈ Ice.refsOf xs
    · obtain ⟨k, e⟩ := mem_refs.mp hi
      obtain ⟨p, _, ⟨q, h1, h2⟩ | ⟨q, h1, h2⟩⟩ := b2 k i e <;> (rw [h1, h2]; rfl)
    · rw [b1 i hi]
  refine ⟨⟨by rw [b0]; exact S.len, A.st.sub, fun i => ?_, S.dist⟩, A.ext.weak wr mem, fun i a h => .inl ⟨h, kds i⟩, fun i h => ⟨(kds i).trans h, rfl⟩⟩
  by_cases hi : i ∈ Ice.refsOf xs
  · obtain ⟨k, e⟩ := mem_refs.mp hi
    obtain ⟨v, h1, h2⟩ := r.get e
    have k3 : kd (gS (ss.map parS) k) = 3 := by
      rw [gS_map]
      rcases argS_cases S h2 (hs k _ e) with ⟨p, z, _⟩ | ⟨i', p, a, z, h, _⟩
      · cases z
      · rw [h]; rfl
    obtain ⟨p, ho, alt⟩ := b2 k i e
    obtain ⟨_, hg⟩ := A.par k k3
    have sl := A.st.slot k
    rw [ho, gσ_map, h1] at sl
    have hσ : gσ σ i = some v := h2
    rw [hσ]
    rcases argS_cases S h2 (hs k _ e) with ⟨p', z, _⟩ | ⟨i', p', a, z, _, _, hv, _, hL, _, _⟩
    · cases z
    · cases z
      subst hv
      generalize L' k = l' at sl
      cases sl with
      | par n1 n2 =>
        rw [hL]
        rcases alt with ⟨q, _, h⟩ | ⟨q, _, h⟩
        · rw [h]; exact .own n1 n2
        · rw [h]; exact .par n1 n2
  · rw [b1 i hi]
    have nm : ∀ a ∈ L i, ¬ Mem (argL L xs) a := fun a ha' ⟨k, h⟩ => by
      obtain ⟨j, e1, e2⟩ := argL_mem h
      have := S.dist i j a ha' e2
      subst this
      exact hi (mem_refs.mpr ⟨k, e1⟩)
    refine (S.slot i).mono A.ext.bb (fun a ha' => ?_) fun a ha' o ho => A.ext.hh a o ho fun ⟨k, h, _⟩ => nm a ha' ⟨k, h⟩
    obtain ⟨h1, o, h2⟩ := S.own ⟨i, ha'⟩
    cases q : B' a with
    | none => rfl
    | some x =>
      rcases A.ext.nw a x q h1 with z | z
      · rw [h2] at z; cases z
      · exact absurd z (nm a ha')
theorem args_nx {ρ : Env} {c : Nat} : ∀ {xs : List Opd}, Ice.args ρ xs ≠ .exn c
  | [], h => by cases h
  | x :: xs, h => by
    have h : (Ice.argS ρ x).bind _ = _ := h
    have nx : Ice.argS ρ x ≠ .exn c := by
      cases x with
      | val p => intro z; cases z
      | ref2 _ _ => intro z; cases z
      | ref i =>
        intro z
        have z : (match gS ρ i with | .own p => Ice.R.ok (Slot.own p) | .par p => .ok (.own p) | _ => .stuck) = .exn c := z
        split at z <;> cases z
    cases e : Ice.argS ρ x with
    | ok s =>
      rw [e] at h
      have h : (Ice.args ρ xs).bind _ = _ := h
      cases e2 : Ice.args ρ xs with
      | ok ts => rw [e2] at h; cases h
      | exn c' => rw [e2] at h; cases h; exact args_nx e2
      | stuck => rw [e2] at h; cases h
    | exn c' => rw [e] at h; cases h; exact nx e
    | stuck => rw [e] at h; cases h
theorem back_nx {c : Nat} : ∀ {xs : List Opd} {outs : List Slot} {ρ : Env}, Ice.back xs outs ρ ≠ .exn c
  | [], outs, ρ, h => by cases outs <;> cases h
  | .val v :: xs, [], ρ, h => by cases h
  | .val v :: xs, s :: outs, ρ, h => back_nx (xs := xs) (outs := outs) h
  | .ref2 a b :: xs, outs, ρ, h => by cases outs <;> cases h
  | .ref i :: xs, [], ρ, h => by cases h
  | .ref i :: xs, s :: outs, ρ, h => by
    cases s with
    | par p =>
      have h : (match gS ρ i with | .own _ => Ice.back xs outs (sS ρ i (.own p)) | .par _ => Ice.back xs outs (sS ρ i (.par p)) | _ => .stuck) = Ice.R.exn c := h
      split at h
      · exact back_nx h
      · exact back_nx h
      · cases h
    | _ => cases h
abbrev EW (G : Cfg) (W : Nat → Prop) : XK := fun cls _ _ => Wish G W cls
theorem imp_call {f : Nat} {os : List Op} : ∀ σ H Q, tE G F W (Ice.eF f os) σ H Q → tOs G F W os σ H fun vs H1 => SpF G F f (vs ++ []) H1 Q (EW G W) := by
  rintro σ H Q ⟨B, ρ, L, S, h⟩
  refine ⟨B, ρ, L, S, (show wpR W ((Ice.ops os F ρ).bind _) _ from h).bind.mono (fun _ h => h) ?_⟩
  rintro ⟨xs, ρ1⟩ _ h vs B1 H1 L1 A1 r
  rw [List.append_nil]
  have h : wpR W (if Ice.nodupN (Ice.refsOf xs) = true then (Ice.args ρ1 xs).bind fun ss => (F f ss).bind fun (v, n, outs) => (Ice.back xs outs ρ1).bind fun ρ' => .ok (v, n, ρ') else .stuck) _ := h
  split at h
  · rename_i nd
    obtain ⟨ss, ha, h⟩ := h.bind.got fun _ => args_nx
    obtain ⟨ok, S2⟩ := call_in A1.st r nd ha
    refine ⟨B1, ss, _, W, ?_, ok, S2, fun _ _ _ z => z, h.bind.mono (fun _ h => h) ?_⟩
    · rw [(args_spec ha).1, r.length]
    · rintro ⟨p, m, outs⟩ _ h v B2 H2 L2 A2 res nb
      obtain ⟨ρ', hb, h⟩ := (show wpR W ((Ice.back xs outs ρ1).bind _) _ from h).bind.got fun _ => back_nx
      have A3 := call_out A1.st r nd ha A2 hb
      refine h v B2 H2 L1 (A1.trans A3) ?_ (nb_new A1.st A3.st res)
      cases res with
      | old r => exact .old r
      | new h1 h2 h3 => exact .new h1 (A1.ext.dm _ h2) h3
      | xt h1 h2 h3 => exact .xt h1 h2 h3
  · exact h.elim
end
/-- f(a, ..) -/
def kF (f : Nat) (as : List KO) : KE where
  d := Ice.eF f (as.map (·.d))
  chk C e := match e with | .Call (.Name x _) (a :: es) [] _ => isGl C x && (match lkS x C.gf with | some g => f == g | none => false) && chkO as C (a :: es) | _ => false
  ok {G X n C F W} h e hc := by
    split at hc
    · rename_i x p a es pos
      rw [Bool.and_eq_true, Bool.and_eq_true] at hc
      obtain ⟨⟨h1, h2⟩, h3⟩ := hc
      split at h2
      · rename_i g hg
        rw [beq_iff_eq] at h2
        subst h2
        obtain ⟨gl, db⟩ := isGl_ok h h1
        obtain ⟨fa, fd, ps, e1, e2, e3, e4, e5⟩ := h.fns x f (lkS_mem hg)
        have st := chkO_star h3
        rw [List.all_cons, Bool.and_eq_true] at st
        exact both ((pe_call (E := EW G W) (dvs := []) e5 h.room gl e1 e2 e4 .nil (passes_call h.takes fun _ _ _ _ z => z) (pa_ops h h3) db (star_cons st.1 _ _) (star_any _ _ _ st.2)).imp imp_call) rfl
      · cases h2
    · cases hc

/-! ### a built-in function, a built-in type -/
section
variable {G : Cfg} {X : Cx} {n : Nat} {C : Ctx} {F : FE} {W : Nat → Prop}
theorem tO_mono {o : Op} {σ : L2.St} {H : Hp} {Q Q' : VK} (h : tO G F W o σ H Q) (k : ∀ v H, Q v H → Q' v H) : tO G F W o σ H Q' := by
  obtain ⟨B, ρ, L, S, h⟩ := h
  refine ⟨B, ρ, L, S, h.mono (fun _ h => h) ?_⟩
  rintro ⟨x, ρ1⟩ _ h v B1 H1 L1 A r
  exact k _ _ (h v B1 H1 L1 A r)
theorem imp_c1 {f : PV → Ice.Out} (nx : Nx1 f) {a : Op} : ∀ σ H Q, tE G F W (Ice.e1 f a) σ H Q → tCB (rC1 G f) (tCons (tO G F W a) tNil) σ H Q := fun σ H Q h => tO_mono (imp1 nx σ H Q h) fun v H1 q => ⟨v, rfl, q⟩
theorem imp_c2 {f : PV → PV → Ice.Out} (nx : Nx2 f) {a b : Op} : ∀ σ H Q, tE G F W (Ice.e2 f a b) σ H Q → tCB (rC2 G f) (tCons (tO G F W a) (tCons (tO G F W b) tNil)) σ H Q := fun σ H Q h =>
  tO_mono (imp2 nx σ H Q h) fun v H1 q => tO_mono q fun w H2 q => ⟨v, w, rfl, q⟩
end
structure B1 where
  x : Str
  id : String
  f : PV → Ice.Out
  nx : Nx1 f
  boot : bootBuiltins x = some (.builtin id)
  rule : ∀ {X : Cx} {G : Cfg} {n : Nat}, XG G X n → CallR X (.builtin id) (rC1 G f)
  mem : x ∈ bNames
  nn : x ≠ "__name__"
structure T1 where
  x : Str
  T : String
  f : PV → Ice.Out
  nx : Nx1 f
  boot : bootBuiltins x = some (.type T)
  rule : ∀ {X : Cx} {G : Cfg} {n : Nat}, XG G X n → CallR X (.type T) (rC1 G f)
  mem : x ∈ bNames
  nn : x ≠ "__name__"
def kB1 (b : B1) (a : KO) : KE where
  d := Ice.e1 b.f a.d
  chk C e := match e with | .Call (.Name x _) [y] [] _ => seq x b.x && isGl C x && a.chk C y && notStar y | _ => false
  ok {G X n C F W} h e hc := by
    split at hc
    · rename_i x p y pos
      simp only [Bool.and_eq_true] at hc
      obtain ⟨⟨⟨h1, h2⟩, h3⟩, h4⟩ := hc
      obtain ⟨gl, db⟩ := isGl_ok h h2
      have e1 := seq_eq h1
      subst e1
      exact both ((pe_callB (b.rule h.toXG) gl (h.blt _ b.mem) b.boot (pa_cons (a.ok h h3) pa_nil (star_cons h4 _ _)) b.nn db (star_cons h4 _ _) rfl).imp (imp_c1 b.nx)) rfl
    · cases hc
def kT1 (b : T1) (a : KO) : KE where
  d := Ice.e1 b.f a.d
  chk C e := match e with | .Call (.Name x _) [y] [] _ => seq x b.x && isGl C x && a.chk C y && notStar y | _ => false
  ok {G X n C F W} h e hc := by
    split at hc
    · rename_i x p y pos
      simp only [Bool.and_eq_true] at hc
      obtain ⟨⟨⟨h1, h2⟩, h3⟩, h4⟩ := hc
      obtain ⟨gl, db⟩ := isGl_ok h h2
      have e1 := seq_eq h1
      subst e1
      exact both ((pe_callTy (b.rule h.toXG) gl (h.blt _ b.mem) b.boot (pa_cons (a.ok h h3) pa_nil (star_cons h4 _ _)) b.nn db (star_cons h4 _ _) rfl).imp (imp_c1 b.nx)) rfl
    · cases hc
theorem bmem {x : Str} (h : bNames.any (seq x) = true) : x ∈ bNames := by
  obtain ⟨y, h1, h2⟩ := List.any_eq_true.mp h
  rw [seq_eq h2]; exact h1
def bLen : B1 := ⟨"len", "len", Ice.pLen, nx_len, rfl, c_len, bmem (by decide), by decide⟩
def bAbs : B1 := ⟨"abs", "abs", Ice.pAbs, nx_abs, rfl, c_abs, bmem (by decide), by decide⟩
def tInt : T1 := ⟨"int", "int", Ice.pInt, nx_int, rfl, c_int, bmem (by decide), by decide⟩

/-! ### subscripts -/
def notSl : Expr → Bool
  | .Slice _ _ _ _ => false
  | _ => true
theorem plainIx_of {e : Expr} (h : notSl e = true) : PlainIx e := by
  intro o i
  cases e with
  | Slice _ _ _ _ => cases h
  | _ => rfl
def kIx (a b : KO) : KE where
  d := Ice.e2 Ice.pIx a.d b.d
  chk C e := match e with | .Subscript x y _ => a.chk C x && b.chk C y && notSl y | _ => false
  ok {G X n C F W} h e hc := by
    split at hc
    · simp only [Bool.and_eq_true] at hc
      obtain ⟨⟨h1, h2⟩, h3⟩ := hc
      exact both ((pe_ix (i_ix h.toXG) (a.ok h h1) (b.ok h h2) (plainIx_of h3)).imp (imp2 nx_ix)) rfl
    · cases hc
section
variable {G : Cfg} {X : Cx} {n : Nat} {C : Ctx} {F : FE} {W : Nat → Prop}
def tPo (G : Cfg) (F : FE) (W : Nat → Prop) (o : Option Op) : TO := fun σ H Q => ∃ B ρ L, StR G B σ H ρ L ∧ wpR W (Ice.opI o F ρ) fun (i, ρ1) => ∀ B1 H1 L1, Aft G B H ρ L σ B1 H1 ρ1 L1 σ → Q i H1
theorem _root_.L2.PO.imp {e : Option Expr} {t t' : TO} (h : PO X e t) (k : ∀ σ H Q, t' σ H Q → t σ H Q) : PO X e t' := ⟨fun pins s σ H Q I q => h.run pins s σ H Q I (k _ _ _ q)⟩
theorem po_no : PO X none (tPo G F W none) := po_none.imp (by
  rintro σ H Q ⟨B, ρ, L, S, q⟩
  exact (show ∀ B1 H1 L1, Aft G B H ρ L σ B1 H1 ρ L1 σ → Q none H1 from q) B H L (Aft.refl S))
theorem po_so {e : Expr} {o : Op} (h : PE X e (tO G F W o)) : PO X (some e) (tPo G F W (some o)) := (po_some h).imp (by
  rintro σ H Q ⟨B, ρ, L, S, q⟩
  refine ⟨B, ρ, L, S, (show wpR W ((o F ρ).bind _) _ from q).bind.mono (fun _ h => h) ?_⟩
  rintro ⟨x, ρ1⟩ _ q v B1 H1 L1 A r
  obtain ⟨p, e1, q⟩ := (show wpR W ((Ice.deref ρ1 x).bind _) _ from q).bind.got fun _ => deref_nx
  have op := r.opn A.st e1
  cases p with
  | int i => exact ⟨i, op.int, (show ∀ B1 H1 L1, Aft G B H ρ L σ B1 H1 ρ1 L1 σ → Q (some i) H1 from q) B1 H1 L1 A⟩
  | _ => exact q.elim)
theorem imp_cut {a : Op} {lo hi : Option Op} : ∀ σ H Q, tE G F W (Ice.eCut a lo hi) σ H Q → tSl (rCut G) (tO G F W a) (tPo G F W lo) (tPo G F W hi) σ H Q := by
  rintro σ H Q ⟨B, ρ, L, S, h⟩
  refine ⟨B, ρ, L, S, (show wpR W ((a F ρ).bind _) _ from h).bind.mono (fun _ h => h) ?_⟩
  rintro ⟨x, ρ1⟩ _ h v B1 H1 L1 A1 r1
  refine ⟨B1, ρ1, L1, A1.st, (show wpR W ((Ice.opI lo F ρ1).bind _) _ from h).bind.mono (fun _ h => h) ?_⟩
  rintro ⟨i, ρ2⟩ _ h B2 H2 L2 A2
  refine ⟨B2, ρ2, L2, A2.st, (show wpR W ((Ice.opI hi F ρ2).bind _) _ from h).bind.mono (fun _ h => h) ?_⟩
  rintro ⟨j, ρ3⟩ _ h B3 H3 L3 A3
  obtain ⟨p, e1, h⟩ := (show wpR W ((Ice.deref ρ3 x).bind _) _ from h).bind.got fun _ => deref_nx
  obtain ⟨⟨r, m⟩, e3, h⟩ := (show wpR W ((Ice.pCut i j p).bind _) _ from h).bind.got (nx_cut i j p)
  exact ⟨B3, p, r, m, A3.st.sub, (r1.mono (A2.ext.bb.trans A3.ext.bb)).opn A3.st e1, e3, gives_of (A1.trans (A2.trans A3)) h⟩
end
def chkP : Option KO → Ctx → Option Expr → Bool
  | none, _, none => true
  | some k, C, some e => k.chk C e
  | _, _, _ => false
theorem po_ok {G : Cfg} {X : Cx} {n : Nat} {C : Ctx} {F : FE} {W : Nat → Prop} (h : CtxOk G X n C F W) : ∀ {k : Option KO} {e : Option Expr}, chkP k C e = true → PO X e (tPo G F W (k.map (·.d)))
  | none, none, _ => po_no
  | some k, some e, hc => po_so (k.ok h hc)
def kCut (a : KO) (lo hi : Option KO) : KE where
  d := Ice.eCut a.d (lo.map (·.d)) (hi.map (·.d))
  chk C e := match e with | .Subscript x (.Slice y z none _) _ => a.chk C x && chkP lo C y && chkP hi C z | _ => false
  ok {G X n C F W} h e hc := by
    split at hc
    · simp only [Bool.and_eq_true] at hc
      obtain ⟨⟨h1, h2⟩, h3⟩ := hc
      exact both ((pe_slice (i_cut h.toXG) (a.ok h h1) (po_ok h h2) (po_ok h h3)).imp imp_cut) rfl
    · cases hc
end IceS
end
section
set_option Elab.async false
set_option linter.all false
set_option maxRecDepth 100000
/-! Certified code: statements. -/
namespace IceS
open PySem hiding Env
open PySem.Spec PyProof.Rows L2
open Ice (PV Slot Env FE Ev Op Opd Sx Tg gS sS)

/-! ### a slot is written -/
section
variable {G : Cfg} {B H B1 H1 : Hp} {σ σ1 : L2.St} {ρ ρ1 : Env} {L L1 : Nat → List Addr}
def putL (L : Nat → List Addr) (i : Nat) (l : List Addr) : Nat → List Addr := fun j => if j = i then l else L j
theorem putL_same {i : Nat} {l : List Addr} : putL L i l i = l := if_pos rfl
theorem putL_ne {i j : Nat} {l : List Addr} (h : j ≠ i) : putL L i l j = L j := if_neg h
theorem StR.put {i : Nat} {s : Slot} {l : List Addr} {σ' : L2.St} (S : StR G B σ H ρ L) (hi : i < ρ.length) (hσ : σ'.length = σ.length) (hne : ∀ j, j ≠ i → gσ σ' j = gσ σ j) (hs : SlR G B H (gσ σ' i) s l) (hd : ∀ a ∈ l, ∀ j, j ≠ i → a ∉ L j) : StR G B σ' H (sS ρ i s) (putL L i l) := by
  refine ⟨by rw [hσ, sS_len]; exact S.len, S.sub, fun j => ?_, fun j k a h1 h2 => ?_⟩
  · by_cases hj : j = i
    · subst hj
      rw [gS_same hi, putL_same]
      exact hs
    · rw [hne j hj, gS_ne (fun z => hj z.symm), putL_ne hj]
      exact S.slot j
  · by_cases hj : j = i
    · by_cases hk : k = i
      · rw [hj, hk]
      · subst hj
        rw [putL_same] at h1
        rw [putL_ne hk] at h2
        exact absurd h2 (hd a h1 k hk)
    · rw [putL_ne hj] at h1
      by_cases hk : k = i
      · subst hk
        rw [putL_same] at h2
        exact absurd h1 (hd a h2 j hj)
      · rw [putL_ne hk] at h2
        exact S.dist j k a h1 h2
theorem Aft.put {i : Nat} {s : Slot} {l : List Addr} {σ' : L2.St} (A : Aft G B H ρ L σ B1 H1 ρ1 L1 σ1) (hi : i < ρ1.length) (hσ : σ'.length = σ1.length) (hne : ∀ j, j ≠ i → gσ σ' j = gσ σ1 j) (hs : SlR G B1 H1 (gσ σ' i) s l)
    (hd : ∀ a ∈ l, ∀ j, j ≠ i → a ∉ L1 j) (k3 : kd (gS ρ1 i) ≠ 3) (s3 : kd s ≠ 3) (hl : ∀ a ∈ l, H a = none ∨ (a ∈ L i ∧ kd s = kd (gS ρ i))) : Aft G B H ρ L σ B1 H1 (sS ρ1 i s) (putL L1 i l) σ' := by
  refine ⟨A.st.put hi hσ hne hs hd, A.ext, fun j a h => ?_, fun j h => ?_⟩
  · by_cases hj : j = i
    · subst hj
      rw [putL_same] at h
      rw [gS_same hi]
      exact (hl a h).symm.imp id fun z => ⟨z, s3⟩
    · rw [putL_ne hj] at h
      rw [gS_ne (fun z => hj z.symm)]
      exact A.own j a h
  · obtain ⟨h1, h2⟩ := A.par j h
    have hj : j ≠ i := fun z => k3 (z ▸ h1)
    rw [gS_ne (fun z => hj z.symm), hne j hj]
    exact ⟨h1, h2⟩
theorem asg_nx {i : Nat} {p : PV} {m : Bool} {c : Nat} : Ice.asg i p m ρ ≠ .exn c := by
  intro h
  have h : (match gS ρ i with | .lk2 _ => .stuck | .lok _ => .stuck | .par _ => .stuck | .un => .ok (sS ρ i (if m then Ice.frS p else .val p)) | .val _ => .ok (sS ρ i (if m then Ice.frS p else .val p)) | .own _ => .ok (sS ρ i (if m then Ice.frS p else .val p)) | .ow2 _ => .ok (sS ρ i (if m then Ice.frS p else .val p)) | .xt _ => .ok (sS ρ i (if m then Ice.frS p else .val p))) = Ice.R.exn c := h
  split at h <;> cases h
theorem asg_ok {i : Nat} {p : PV} {m : Bool} {ρ' : Env} (h : Ice.asg i p m ρ = .ok ρ') : kd (gS ρ i) ≠ 3 ∧ ρ' = sS ρ i (if m then Ice.frS p else .val p) := by
  have h : (match gS ρ i with | .lk2 _ => .stuck | .lok _ => .stuck | .par _ => .stuck | .un => .ok (sS ρ i (if m then Ice.frS p else .val p)) | .val _ => .ok (sS ρ i (if m then Ice.frS p else .val p)) | .own _ => .ok (sS ρ i (if m then Ice.frS p else .val p)) | .ow2 _ => .ok (sS ρ i (if m then Ice.frS p else .val p)) | .xt _ => .ok (sS ρ i (if m then Ice.frS p else .val p))) = Ice.R.ok ρ' := h
  split at h
  · cases h
  · cases h
  · cases h
  all_goals
    rename_i e
    cases h
    rw [e]
    exact ⟨by simp [kd], rfl⟩
theorem sS_out {i : Nat} {s : Slot} (h : ¬ i < ρ.length) : sS ρ i s = ρ := by
  induction ρ generalizing i with
  | nil => rfl
  | cons x r ih =>
    cases i with
    | zero => exact absurd (Nat.zero_lt_succ _) h
    | succ i =>
      show x :: sS r i s = x :: r
      rw [ih fun z => h (Nat.succ_lt_succ z)]
theorem Aft.asg {i : Nat} {v : V} {p : PV} {m : Bool} {ρ2 : Env} (A : Aft G B H ρ L σ B1 H1 ρ1 L1 σ1) (r : Res G B1 H H1 v p m) (nb : Nb L1 v m) (h : Ice.asg i p m ρ1 = .ok ρ2) : ∃ L2, Aft G B H ρ L σ B1 H1 ρ2 L2 (σ1.set i (some v)) := by
  obtain ⟨k3, rfl⟩ := asg_ok h
  by_cases hi : i < ρ1.length
  · have hi' : i < σ1.length := by rw [A.st.len]; exact hi
    cases r with
    | old r => exact ⟨_, A.put (l := []) hi (by simp) (fun j hj => gσ_ne (fun z => hj z.symm)) (by rw [gσ_same hi']; exact .val r) (fun a h => by cases h) k3 (by simp [kd]) (fun a h => by cases h)⟩
    | new h1 h2 h3 =>
      rename_i a
      have fp : Ice.frS p = .own p := by cases h3 <;> rfl
      rw [if_pos rfl, fp]
      refine ⟨_, A.put (l := [a]) hi (by simp) (fun j hj => gσ_ne (fun z => hj z.symm)) (by rw [gσ_same hi']; exact .own h1 h3) (fun b hb j _ => ?_) k3 (by simp [kd]) (fun b hb => ?_)⟩
      · rw [List.mem_singleton.mp hb]; exact nb rfl a rfl j
      · rw [List.mem_singleton.mp hb]; exact .inl h2
    | xt h1 h2 h3 => exact ⟨_, A.put (l := []) hi (by simp) (fun j hj => gσ_ne (fun z => hj z.symm)) (by rw [gσ_same hi']; exact .xt h1 h2 h3) (fun a h => by cases h) k3 (by simp [kd, Ice.frS]) (fun a h => by cases h)⟩
  · have hi' : ¬ i < σ1.length := by rw [A.st.len]; exact hi
    rw [sS_out hi, List.set_eq_of_length_le (by omega)]
    exact ⟨L1, A⟩
end

/-! ### what is wanted behind a statement -/
inductive ResS (G : Cfg) (B' H0 : Hp) (ρ0 : Env) (L0 : Nat → List Addr) (H' : Hp) (L' : Nat → List Addr) : V → PV → Bool → Prop
  | old {v : V} {p : PV} : Rep G B' v p → ResS G B' H0 ρ0 L0 H' L' v p false
  | new {a : Addr} {p : PV} : B' a = none → (H0 a = none ∨ ∃ i, a ∈ L0 i ∧ kd (gS ρ0 i) = 1) → (∀ i, a ∉ L' i) → ObjR G B' H' a p → ResS G B' H0 ρ0 L0 H' L' (.ref a) p true
  | xt {a : Addr} {vs : List V} {ps : List PV} {o : Obj} : B' a = some (.frz o (.tup vs)) → o.dict = none → RepL G B' vs ps → ResS G B' H0 ρ0 L0 H' L' (.ref a) (.tup ps) true
def Fin (D : Ends) (G : Cfg) (B H : Hp) (ρ : Env) (L : Nat → List Addr) (σ : L2.St) (x : Ice.Flow × Env) : Prop := ∀ σ' B' H' L', Aft G B H ρ L σ B' H' x.2 L' σ' → match x.1 with
  | .nx => D.nx σ' H'
  | .rt p m => ∀ v, ResS G B' H ρ L H' L' v p m → D.rt v H'
def tS (G : Cfg) (F : FE) (W : Nat → Prop) (d : Sx) : TS := fun D σ H => ∃ B ρ L, StR G B σ H ρ L ∧ wpR W (d F ρ) (Fin D G B H ρ L σ)
section
variable {G : Cfg} {B H B1 H1 : Hp} {σ σ1 : L2.St} {ρ ρ1 : Env} {L L1 : Nat → List Addr} {D : Ends}
theorem ResS.back {B' H' : Hp} {L' : Nat → List Addr} {v : V} {p : PV} {m : Bool} (A : Aft G B H ρ L σ B1 H1 ρ1 L1 σ1) (r : ResS G B' H1 ρ1 L1 H' L' v p m) : ResS G B' H ρ L H' L' v p m := by
  cases r with
  | old r => exact .old r
  | new h1 h2 h3 h4 =>
    refine .new h1 ?_ h3 h4
    rcases h2 with h2 | ⟨i, h2, h5⟩
    · exact .inl (A.ext.dm _ h2)
    · rcases A.own i _ h2 with ⟨h6, h7⟩ | ⟨h6, _⟩
      · exact .inr ⟨i, h6, h7 ▸ h5⟩
      · exact .inl h6
  | xt h1 h2 h3 => exact .xt h1 h2 h3
theorem Fin.step {x : Ice.Flow × Env} (A : Aft G B H ρ L σ B1 H1 ρ1 L1 σ1) (h : Fin D G B H ρ L σ x) : Fin D G B1 H1 ρ1 L1 σ1 x := by
  intro σ' B' H' L' A'
  have q := h σ' B' H' L' (A.trans A')
  cases hx : x.1 with
  | nx => rw [hx] at q; exact q
  | rt p m => rw [hx] at q; exact fun v r => q v (r.back A)
theorem Fin.nx {ρ' : Env} {σ' : L2.St} {B' H' : Hp} {L' : Nat → List Addr} (h : Fin D G B H ρ L σ (.nx, ρ')) (A : Aft G B H ρ L σ B' H' ρ' L' σ') : D.nx σ' H' := h σ' B' H' L' A
end

structure KS where
  d : Sx
  chk : Ctx → Stmt → Bool
  ok : ∀ {G : Cfg} {X : Cx} {n : Nat} {C : Ctx} {F : FE} {W : Nat → Prop}, CtxOk G X n C F W → ∀ {st : Stmt}, chk C st = true → PS X st (tS G F W d)
def blkD (ks : List KS) : Sx := Ice.blk (ks.map (·.d))
def chkS : List KS → Ctx → List Stmt → Bool
  | [], _, [] => true
  | k :: ks, C, s :: ss => k.chk C s && chkS ks C ss
  | _, _, _ => false
section
variable {G : Cfg} {X : Cx} {n : Nat} {C : Ctx} {F : FE} {W : Nat → Prop}
theorem _root_.L2.PSs.imp {e : List Stmt} {t t' : TS} (h : PSs X e t) (k : ∀ D σ H, t' D σ H → t D σ H) : PSs X e t' := ⟨fun pins s σ H D I q => h.run pins s σ H D I (k _ _ _ q)⟩
theorem imp_seq {a b : Sx} : ∀ D σ H, tS G F W (Ice.sSeq a b) D σ H → tSeq (tS G F W a) (tS G F W b) D σ H := by
  rintro D σ H ⟨B, ρ, L, S, h⟩
  refine ⟨B, ρ, L, S, (show wpR W ((a F ρ).bind _) _ from h).bind.mono (fun _ h => h) ?_⟩
  rintro ⟨f, ρ1⟩ _ h
  cases f with
  | nx =>
    intro σ' B' H' L' A
    exact ⟨B', ρ1, L', A.st, (show wpR W (b F ρ1) _ from h).mono (fun _ h => h) fun x _ q => q.step A⟩
  | rt p m => exact h
theorem pss_ok (h : CtxOk G X n C F W) : ∀ {ks : List KS} {ss : List Stmt}, chkS ks C ss = true → PSs X ss (tS G F W (blkD ks))
  | [], [], _ => pss_nil.imp (by
    rintro D σ H ⟨B, ρ, L, S, q⟩
    exact (show Fin D G B H ρ L σ (.nx, ρ) from q).nx (Aft.refl S))
  | [k], [s], hc => by
    have hc : (k.chk C s && true) = true := hc
    rw [Bool.and_true] at hc
    exact pss_one (k.ok h hc)
  | k :: k2 :: ks, s :: s2 :: ss, hc => by
    have hc : (k.chk C s && chkS (k2 :: ks) C (s2 :: ss)) = true := hc
    rw [Bool.and_eq_true] at hc
    exact (pss_cons (k.ok h hc.1) (pss_ok h hc.2)).imp imp_seq
  | [k], s :: s2 :: ss, hc => by
    have hc : (k.chk C s && false) = true := hc
    rw [Bool.and_false] at hc; cases hc
  | k :: k2 :: ks, [s], hc => by
    have hc : (k.chk C s && false) = true := hc
    rw [Bool.and_false] at hc; cases hc
  | [], _ :: _, hc => by cases hc
  | _ :: _, [], hc => by cases hc

/-! ### name = e -/
/-- no comprehension -/
def noSwap : Expr → Bool
  | .ListComp _ _ _ _ => false
  | .SetComp _ _ _ _ => false
  | .DictComp _ _ _ _ _ => false
  | _ => true
theorem noSwap_ok {e : Expr} (h : noSwap e = true) (t : Option Expr) (l : Nat) (env : PySem.Env) : swapsWith e t l env = pure false := by
  cases e with
  | ListComp _ _ _ _ => cases h
  | SetComp _ _ _ _ => cases h
  | DictComp _ _ _ _ _ => cases h
  | _ => rfl
end
section
variable {G : Cfg} {X : Cx} {n : Nat} {C : Ctx} {F : FE} {W : Nat → Prop}
theorem imp_asg {i : Nat} {d : Ev} : ∀ D σ H, tS G F W (Ice.sAsg i d) D σ H → tAsg (tE G F W d) (gName i) D σ H := by
  rintro D σ H ⟨B, ρ, L, S, h⟩
  refine ⟨B, ρ, L, S, (show wpR W ((d F ρ).bind _) _ from h).bind.mono (fun _ h => h) ?_⟩
  rintro ⟨p, m, ρ1⟩ _ h v B1 H1 L1 A r nb
  obtain ⟨ρ2, e, h⟩ := (show wpR W ((Ice.asg i p m ρ1).bind _) _ from h).bind.got fun _ => asg_nx
  obtain ⟨L2, A2⟩ := A.asg r nb e
  exact (show Fin D G B H ρ L σ (.nx, ρ2) from h).nx A2
theorem imp_ex {d : Ev} : ∀ D σ H, tS G F W (Ice.sEx d) D σ H → tDrop (tE G F W d) D σ H := by
  rintro D σ H ⟨B, ρ, L, S, h⟩
  refine ⟨B, ρ, L, S, (show wpR W ((d F ρ).bind _) _ from h).bind.mono (fun _ h => h) ?_⟩
  rintro ⟨p, m, ρ1⟩ _ h v B1 H1 L1 A r nb
  exact (show Fin D G B H ρ L σ (.nx, ρ1) from h).nx A
theorem imp_ret {d : Ev} : ∀ D σ H, tS G F W (Ice.sRet d) D σ H → tRet (tE G F W d) D σ H := by
  rintro D σ H ⟨B, ρ, L, S, h⟩
  refine ⟨B, ρ, L, S, (show wpR W ((d F ρ).bind _) _ from h).bind.mono (fun _ h => h) ?_⟩
  rintro ⟨p, m, ρ1⟩ _ h v B1 H1 L1 A r nb
  refine (show Fin D G B H ρ L σ (.rt p m, ρ1) from h) σ B1 H1 L1 A v ?_
  cases r with
  | old r => exact .old r
  | new h1 h2 h3 => exact .new h1 (.inl h2) (nb rfl _ rfl) h3
  | xt h1 h2 h3 => exact .xt h1 h2 h3
/-- the lists at as are shared -/
def shareB (B H : Hp) (as : List Addr) : Hp := fun x => if x ∈ as then H x else B x
theorem subs_share {B H : Hp} (sb : Sub B H) {as : List Addr} {xss : List (List PV)} (r : SubsR G B H as xss) : (Sub B (shareB B H as) ∧ Sub (shareB B H as) H) ∧ RepL G (shareB B H as) (as.map .ref) (xss.map .lst) := by
  have s1 : Sub B (shareB B H as) := fun b o e => by
    unfold shareB
    split
    · exact sb _ _ e
    · exact e
  have s2 : Sub (shareB B H as) H := fun b o e => by
    unfold shareB at e
    split at e
    · exact e
    · exact sb _ _ e
  refine ⟨⟨s1, s2⟩, ?_⟩
  have go : ∀ {bs : List Addr} {yss : List (List PV)}, SubsR G B H bs yss → (∀ b ∈ bs, b ∈ as) → RepL G (shareB B H as) (bs.map .ref) (yss.map .lst) := by
    intro bs yss q
    induction q with
    | nil => intro _; exact .nil
    | cons h1 h2 rl t ih =>
      intro hm
      refine .cons (.lst ?_ (rl.mono s1)) (ih fun b hb => hm b (List.mem_cons_of_mem _ hb))
      unfold shareB
      rw [if_pos (hm _ List.mem_cons_self)]
      exact h2
  exact go r fun _ h => h
theorem imp_retV {i : Nat} : ∀ D σ H, tS G F W (Ice.sRetV i) D σ H → tRet (tVar i) D σ H := by
  rintro D σ H ⟨B, ρ, L, S, h⟩
  have h : wpR W (match gS ρ i with | .val p => Ice.R.ok (Ice.Flow.rt p false, ρ) | .own p => .ok (.rt p true, sS ρ i .un) | .ow2 xs => .ok (.rt (.lst (xs.map .lst)) true, sS ρ i .un) | .xt ps => .ok (.rt (.tup ps) true, ρ) | _ => .stuck) _ := h
  have s := S.slot i
  cases hs : gS ρ i with
  | val p =>
    rw [hs] at h s
    generalize hx : gσ σ i = x at s
    generalize L i = l at s
    cases s with
    | val r => exact ⟨_, gσ_some hx, (show Fin D G B H ρ L σ (.rt p false, ρ) from h) σ B H L (Aft.refl S) _ (.old r)⟩
  | xt ps =>
    rw [hs] at h s
    generalize hx : gσ σ i = x at s
    generalize L i = l at s
    cases s with
    | xt h1 h2 h3 => exact ⟨_, gσ_some hx, (show Fin D G B H ρ L σ (.rt (.tup ps) true, ρ) from h) σ B H L (Aft.refl S) _ (.xt h1 h2 h3)⟩
  | own p =>
    rw [hs] at h s
    generalize hx : gσ σ i = x at s
    generalize hL : L i = l at s
    have hi : i < ρ.length := gS_lt (by rw [hs]; intro z; cases z)
    cases s with
    | own h1 h2 =>
      rename_i a
      refine ⟨_, gσ_some hx, (show Fin D G B H ρ L σ (.rt p true, sS ρ i .un) from h) σ B H (putL L i []) ((Aft.refl S).put hi rfl (fun _ _ => rfl) .un (fun a h => by cases h) (by rw [hs]; simp [kd]) (by simp [kd]) (fun a h => by cases h)) _ (.new h1 (.inr ⟨i, by rw [hL]; exact List.mem_cons_self, by rw [hs]; rfl⟩) (fun j hj => ?_) h2)⟩
      by_cases hji : j = i
      · subst hji; rw [putL_same] at hj; cases hj
      · rw [putL_ne hji] at hj
        exact hji (S.dist j i a hj (by rw [hL]; exact List.mem_cons_self))
  | ow2 xss =>
    rw [hs] at h s
    generalize hx : gσ σ i = x at s
    generalize hL : L i = l at s
    have hi : i < ρ.length := gS_lt (by rw [hs]; intro z; cases z)
    cases s with
    | ow2 h1 h2 h3 nd =>
      rename_i a as
      obtain ⟨s1, s2⟩ := subs_share S.sub h3
      have aas : a ∉ as := (List.nodup_cons.mp nd).1
      have mem : ∀ b, b ∈ a :: as → b ∈ L i := fun b hb => by rw [hL]; exact hb
      have other : ∀ j b, j ≠ i → b ∈ L j → shareB B H as b = none := fun j b hj hb => by
        unfold shareB
        rw [if_neg (fun z => hj (S.dist j i b hb (mem b (List.mem_cons_of_mem _ z))))]
        exact (S.own ⟨j, hb⟩).1
      refine ⟨_, gσ_some hx, (show Fin D G B H ρ L σ (.rt (.lst (xss.map .lst)) true, sS ρ i .un) from h) σ (shareB B H as) H (putL L i []) ⟨⟨by rw [sS_len]; exact S.len, s1.2, fun j => ?_, fun j k b q1 q2 => ?_⟩, ⟨s1.1, fun b o e _ => e, fun b o e q => ?_, fun _ e => e⟩, fun j b q => ?_, fun j q => ?_⟩ _ (.new ?_ (.inr ⟨i, mem a List.mem_cons_self, by rw [hs]; rfl⟩) (fun j hj => ?_) (.lst h2 s2))⟩
      · by_cases hj : j = i
        · subst hj
          rw [gS_same hi, putL_same]
          exact .un
        · rw [gS_ne (fun z => hj z.symm), putL_ne hj]
          exact (S.slot j).mono s1.1 (fun b hb => other j b hj hb) fun _ _ _ e => e
      · by_cases hj : j = i
        · subst hj; rw [putL_same] at q1; cases q1
        · by_cases hk : k = i
          · subst hk; rw [putL_same] at q2; cases q2
          · rw [putL_ne hj] at q1
            rw [putL_ne hk] at q2
            exact S.dist j k b q1 q2
      · unfold shareB at e
        split at e
        · rename_i hb; exact .inr ⟨i, mem b (List.mem_cons_of_mem _ hb)⟩
        · rw [q] at e; cases e
      · by_cases hj : j = i
        · subst hj; rw [putL_same] at q; cases q
        · rw [putL_ne hj] at q
          rw [gS_ne (fun z => hj z.symm)]
          exact .inl ⟨q, rfl⟩
      · have hj : j ≠ i := fun z => by subst z; rw [hs] at q; exact absurd q (by simp [kd])
        rw [gS_ne (fun z => hj z.symm)]
        exact ⟨q, rfl⟩
      · unfold shareB
        rw [if_neg aas]; exact h1
      · by_cases hji : j = i
        · subst hji; rw [putL_same] at hj; cases hj
        · rw [putL_ne hji] at hj
          exact hji (S.dist j i a hj (mem a List.mem_cons_self))
  | un => rw [hs] at h; exact h.elim
  | lk2 p => rw [hs] at h; exact h.elim
  | lok p => rw [hs] at h; exact h.elim
  | par p => rw [hs] at h; exact h.elim
theorem imp_ifS {c : Ev} {a b : Sx} : ∀ D σ H, tS G F W (Ice.sIf c a b) D σ H → tIfS (tT G F W c) (tS G F W a) (tS G F W b) D σ H := by
  rintro D σ H ⟨B, ρ, L, S, h⟩
  refine ⟨B, ρ, L, S, (show wpR W ((Ice.tst c F ρ).bind _) _ from h).bind.mono (fun _ h => h) ?_⟩
  rintro ⟨k, ρ1⟩ _ h B1 H1 L1 A
  cases k with
  | true => exact ⟨B1, ρ1, L1, A.st, (show wpR W (a F ρ1) _ from h).mono (fun _ h => h) fun x _ q => q.step A⟩
  | false => exact ⟨B1, ρ1, L1, A.st, (show wpR W (b F ρ1) _ from h).mono (fun _ h => h) fun x _ q => q.step A⟩
end
/-- a name that may be stored -/
def isSto (C : Ctx) (i : Nat) (x : Str) : Bool :=
  (match C.N[i]? with | some y => seq x y | none => false) && (match lkS x C.sc.names with | some .local => true | some .cell => C.all || C.fn.any (seq x) | _ => false)
theorem isSto_ok {G : Cfg} {X : Cx} {n : Nat} {C : Ctx} {F : FE} {W : Nat → Prop} (h : CtxOk G X n C F W) {i : Nat} {x : Str} (e : isSto C i x = true) : X.N[i]? = some x ∧ Loc X.env.scope x ∧ (X.fn x = true ∨ X.env.scope.names.lookup x = some .local) := by
  unfold isSto at e
  rw [Bool.and_eq_true] at e
  obtain ⟨e1, e2⟩ := e
  refine ⟨?_, ?_⟩
  · rw [h.N]
    split at e1
    · rename_i y hy
      rw [hy, seq_eq e1]
    · cases e1
  · unfold L2.Loc
    rw [h.sc, ← lkS_lookup]
    split at e2
    · rename_i k; exact ⟨.inl k, .inr k⟩
    · rename_i k; exact ⟨.inr k, .inl (h.fn x e2)⟩
    · cases e2
/-- x = e -/
def mAsg (i : Nat) (k : KE) : KS where
  d := Ice.sAsg i k.d
  chk C s := match s with | .Assign [.Name x _] e _ => isSto C i x && k.chk C e && noSwap e | _ => false
  ok {G X n C F W} h st hc := by
    split at hc
    · simp only [Bool.and_eq_true] at hc
      obtain ⟨⟨h1, h2⟩, h3⟩ := hc
      obtain ⟨e1, e2, e3⟩ := isSto_ok h h1
      exact (ps_set h.nd e1 e2 (k.ok h h2).1 (noSwap_ok h3 _ _ _) e3).imp imp_asg
    · cases hc
/-- e -/
def mEx (k : KE) : KS where
  d := Ice.sEx k.d
  chk C s := match s with | .Expr e _ => k.chk C e && noSwap e | _ => false
  ok {G X n C F W} h st hc := by
    split at hc
    · simp only [Bool.and_eq_true] at hc
      obtain ⟨h2, h3⟩ := hc
      exact (ps_expr (k.ok h h2).1 (noSwap_ok h3 _ _ _)).imp imp_ex
    · cases hc
/-- return e -/
def mRet (k : KE) : KS where
  d := Ice.sRet k.d
  chk C s := match s with | .Return (some e) _ => k.chk C e | _ => false
  ok {G X n C F W} h st hc := by
    split at hc
    · exact (ps_ret (k.ok h hc).1).imp imp_ret
    · cases hc
/-- return x -/
def mRetV (i : Nat) : KS where
  d := Ice.sRetV i
  chk C s := match s with | .Return (some e) _ => nameIs (isVar C i) e | _ => false
  ok {G X n C F W} h st hc := by
    split at hc
    · obtain ⟨x, pos, rfl, hx⟩ := nameIs_ok hc
      obtain ⟨h1, h2, h3, h4⟩ := isVar_ok h hx
      exact (ps_ret (pe_var h1 h2 h3 h4)).imp imp_retV
    · cases hc
/-- if c: .. else: .. -/
def mIf (c : KE) (a b : List KS) : KS where
  d := Ice.sIf c.d (blkD a) (blkD b)
  chk C s := match s with | .If e x y _ => c.chk C e && chkS a C x && chkS b C y | _ => false
  ok {G X n C F W} h st hc := by
    split at hc
    · simp only [Bool.and_eq_true] at hc
      obtain ⟨⟨h1, h2⟩, h3⟩ := hc
      exact (ps_if (c.ok h h1).2 (pss_ok h h2) (pss_ok h h3)).imp imp_ifS
    · cases hc

/-! ### loops -/
section
variable {G : Cfg} {X : Cx} {n : Nat} {C : Ctx} {F : FE} {W : Nat → Prop}
theorem CtxOk.nox (h : CtxOk G X n C F W) : CtxOk G X.nox n C F fun _ => False :=
  { K := h.K, calm := h.calm, nd := h.nd, room := h.room, fnK := h.fnK, fnI := h.fnI, N := h.N, sc := h.sc, fns := h.fns, blt := h.blt, fn := h.fn, exc := h.exc, gc := h.gc,
    takes := fun u s' x => takes0 u s' (by
      obtain ⟨a, B, sI, pins, σ, H, cls, d, e, I, nb, up, sky, na, os, ag, c, a', w, _⟩ := x
      exact w.elim) }
theorem PS.nox {st : Stmt} {t : TS} (h : PS X.nox st t) : PS X st t := ⟨fun pins s σ H D I hw =>
  wpAny_mono (h.run pins s σ H D (I.wish _) hw) (fun f s' q => q.unwish) fun _ _ z => z.elim⟩
theorem tst_nx_calm {α : Type} {r : Ice.R α} {P : α → Prop} (h : wpR W r.calm P) : wpR (fun _ => False) r P := h.calm
theorem imp_while {c : Ev} {b : Sx} : ∀ D σ H, tS G F W (Ice.sWhile c b) D σ H → tWhile (tT G F (fun _ => False) c) (tS G F (fun _ => False) b) D σ H := by
  rintro D σ H ⟨B, ρ, L, S, h⟩
  have h := (show wpR W ((Ice.whl c b F Ice.LONG ρ).calm) _ from h).calm
  refine ⟨fun m σ' H' => ∃ B' ρ' L', Aft G B H ρ L σ B' H' ρ' L' σ' ∧ wpR (fun _ => False) (Ice.whl c b F m ρ') (Fin D G B H ρ L σ), ⟨_, B, ρ, L, Aft.refl S, h⟩, ?_⟩
  rintro m σ1 H1 ⟨B1, ρ1, L1, A1, h⟩
  cases m with
  | zero => exact h.elim
  | succ m =>
    refine ⟨B1, ρ1, L1, A1.st, (show wpR _ ((Ice.tst c F ρ1).bind _) _ from h).bind.mono (fun _ h => h) ?_⟩
    rintro ⟨k, ρ2⟩ _ h B2 H2 L2 A2
    have A12 := A1.trans A2
    cases k with
    | true =>
      rw [if_pos rfl]
      refine ⟨_, fun σ' H' w => ⟨m, Nat.lt_succ_self m, w⟩, B2, ρ2, L2, A2.st, (show wpR _ ((b F ρ2).bind _) _ from h).bind.mono (fun _ h => h) ?_⟩
      rintro ⟨f, ρ3⟩ _ h
      intro σ3 B3 H3 L3 A3
      cases f with
      | nx => exact ⟨B3, ρ3, L3, A12.trans A3, h⟩
      | rt p q => exact fun v r => (show Fin D G B H ρ L σ (.rt p q, ρ3) from h) σ3 B3 H3 L3 (A12.trans A3) v (r.back A12)
    | false =>
      rw [if_neg Bool.false_ne_true]
      exact (show Fin D G B H ρ L σ (.nx, ρ2) from h).nx A12
end
/-- while c: .. -/
def mWhile (c : KE) (a : List KS) : KS where
  d := Ice.sWhile c.d (blkD a)
  chk C s := match s with | .While e x [] _ => c.chk C e && chkS a C x | _ => false
  ok {G X n C F W} h st hc := by
    split at hc
    · simp only [Bool.and_eq_true] at hc
      obtain ⟨h1, h2⟩ := hc
      exact (PS.nox (ps_while PassesOwn.never (c.ok h.nox h1).2 (pss_ok h.nox h2))).imp imp_while
    · cases hc

/-! ### what a loop walks -/
/-- a name's own object is walked -/
def LockR (l : Option Nat) (ρ0 ρ1 : Env) : Prop := match l with
  | none => ρ1 = ρ0
  | some i => ∃ p, gS ρ0 i = .own p ∧ ρ1 = sS ρ0 i (.lok p)
/-- J yields the values xs, whatever is written that may be -/
def Walk (G : Cfg) (B1 H1 : Hp) (ρ1 : Env) (L1 : Nat → List Addr) (J : L2.It) (xs : List PV) : Prop := ∀ σ B' H' ρ' L' σ', Aft G B1 H1 ρ1 L1 σ B' H' ρ' L' σ' → ∀ i,
  (∀ p, xs[i]? = some p → J.go i H' ∧ ∀ x H'', J.yld i H' x H'' → ∃ B'', Ext NoM NoM B' H' B'' H'' ∧ Sub B'' H'' ∧ Rep G B'' x p) ∧ (xs.length ≤ i → J.stop i H')
def tI (G : Cfg) (F : FE) (W : Nat → Prop) (d : Ice.It) : TI := fun σ H R => ∃ B ρ L, StR G B σ H ρ L ∧ wpR W (d F ρ) fun (xs, l, ρ1) => ∀ J B1 H1 L1 ρ0, Aft G B H ρ L σ B1 H1 ρ0 L1 σ → LockR l ρ0 ρ1 → Walk G B1 H1 ρ1 L1 J xs → R J H1
structure KI where
  d : Ice.It
  chk : Ctx → Expr → Expr → Bool
  ok : ∀ {G : Cfg} {X : Cx} {n : Nat} {C : Ctx} {F : FE} {W : Nat → Prop}, CtxOk G X n C F W → ∀ {tg e : Expr}, chk C tg e = true → PI X tg e (tI G F W d) ∧ (∀ env x, foldedSetIterable e env x = pure x)
/-- the slots but ws are as they were -/
def SameBut (ws : List Nat) (σ σ' : L2.St) : Prop := (∀ j, j ∉ ws → σ'[j]? = σ[j]?) ∧ σ'.length = σ.length
def tG (G : Cfg) (W : Nat → Prop) (ws : List Nat) (d : Tg) : TG := fun v σ H Q => ∃ B ρ L p, StR G B σ H ρ L ∧ Rep G B v p ∧ wpR W (d p ρ) fun ρ1 => ∀ σ' B' H' L', SameBut ws σ σ' → Aft G B H ρ L σ B' H' ρ1 L' σ' → Q σ' H'
structure KG where
  d : Tg
  ws : List Nat
  nx : ∀ p ρ c, d p ρ ≠ .exn c
  chk : Ctx → Expr → Bool
  ok : ∀ {G : Cfg} {X : Cx} {n : Nat} {C : Ctx} {F : FE} {W : Nat → Prop}, CtxOk G X n C F W → ∀ {e : Expr}, chk C e = true → PG X e (tG G W ws d)
section
variable {G : Cfg} {X : Cx} {n : Nat} {C : Ctx} {F : FE} {W : Nat → Prop}
theorem lock_st {B H : Hp} {σ : L2.St} {ρ0 ρ1 : Env} {L : Nat → List Addr} {l : Option Nat} (S : StR G B σ H ρ0 L) (h : LockR l ρ0 ρ1) : StR G B σ H ρ1 L := by
  cases l with
  | none => cases h; exact S
  | some i =>
    obtain ⟨p, e, rfl⟩ := h
    have hi : i < ρ0.length := gS_lt (by rw [e]; intro z; cases z)
    refine ⟨by rw [sS_len]; exact S.len, S.sub, fun j => ?_, S.dist⟩
    by_cases hj : j = i
    · subst hj
      rw [gS_same hi]
      have s := S.slot j
      rw [e] at s
      generalize gσ σ j = x at s ⊢
      generalize L j = l at s ⊢
      cases s with
      | own h1 h2 => exact .lok h1 h2
    · rw [gS_ne (fun z => hj z.symm)]
      exact S.slot j
theorem unlock_aft {B1 H1 B2 H2 : Hp} {σ1 σ2 : L2.St} {ρ0 ρ1 ρ2 : Env} {L1 L2' : Nat → List Addr} {l : Option Nat} (h : LockR l ρ0 ρ1) (A : Aft G B1 H1 ρ1 L1 σ1 B2 H2 ρ2 L2' σ2) : Aft G B1 H1 ρ0 L1 σ1 B2 H2 (Ice.unlock l ρ2) L2' σ2 := by
  cases l with
  | none => cases h; exact A
  | some i =>
    obtain ⟨p, e, rfl⟩ := h
    have hi : i < ρ0.length := gS_lt (by rw [e]; intro z; cases z)
    have wr : ∀ a, Wr (sS ρ0 i (.lok p)) L1 a → Wr ρ0 L1 a := fun a ⟨j, h1, h2⟩ => by
      refine ⟨j, h1, ?_⟩
      by_cases hj : j = i
      · subst hj; rw [gS_same hi] at h2; exact absurd rfl h2.1
      · rw [gS_ne (fun z => hj z.symm)] at h2; exact h2
    -- the slots of the unlocked state
    have un : ∀ j, (j ≠ i → gS (Ice.unlock (some i) ρ2) j = gS ρ2 j) ∧ (kd (gS ρ2 i) = 2 → ∃ q, gS ρ2 i = .lok q ∧ gS (Ice.unlock (some i) ρ2) i = .own q) ∧ (kd (gS ρ2 i) ≠ 2 → Ice.unlock (some i) ρ2 = ρ2) ∧ (Ice.unlock (some i) ρ2).length = ρ2.length := fun j => by
      have eu : Ice.unlock (some i) ρ2 = (match gS ρ2 i with | .lok q => sS ρ2 i (.own q) | _ => ρ2) := rfl
      rw [eu]
      cases hs : gS ρ2 i with
      | lok q =>
        have hi2 : i < ρ2.length := gS_lt (by rw [hs]; intro z; cases z)
        exact ⟨fun hj => gS_ne (fun z => hj z.symm), fun _ => ⟨q, rfl, gS_same hi2⟩, fun z => absurd rfl z, sS_len⟩
      | _ => exact ⟨fun _ => rfl, fun z => absurd z (by simp [kd]), fun _ => rfl, rfl⟩
    refine ⟨⟨by rw [(un i).2.2.2]; exact A.st.len, A.st.sub, fun j => ?_, A.st.dist⟩, A.ext.weak wr fun _ h => h, fun j a h => ?_, fun j h => ?_⟩
    · by_cases hj : j = i
      · subst hj
        by_cases k2 : kd (gS ρ2 j) = 2
        · obtain ⟨q, e1, e2⟩ := (un j).2.1 k2
          rw [e2]
          have s := A.st.slot j
          rw [e1] at s
          generalize gσ σ2 j = x at s ⊢
          generalize L2' j = l at s ⊢
          cases s with
          | lok h1 h2 => exact .own h1 h2
        · rw [(un j).2.2.1 k2]; exact A.st.slot j
      · rw [(un j).1 hj]; exact A.st.slot j
    · by_cases hj : j = i
      · subst hj
        rcases A.own j a h with ⟨h1, h2⟩ | ⟨h1, h2⟩
        · rw [gS_same hi] at h2
          obtain ⟨q, e1, e2⟩ := (un j).2.1 h2
          rw [e2, e]
          exact .inl ⟨h1, rfl⟩
        · refine .inr ⟨h1, ?_⟩
          by_cases k2 : kd (gS ρ2 j) = 2
          · obtain ⟨q, e1, e2⟩ := (un j).2.1 k2
            rw [e2]; simp [kd]
          · rw [(un j).2.2.1 k2]; exact h2
      · rw [(un j).1 hj]
        have := A.own j a h
        rw [gS_ne (fun z => hj z.symm)] at this
        exact this
    · by_cases hj : j = i
      · subst hj; rw [e] at h; exact absurd h (by simp [kd])
      · rw [(un j).1 hj]
        exact A.par j (by rw [gS_ne (fun z => hj z.symm)]; exact h)
theorem imp_for {it : Ice.It} {ws : List Nat} {tg : Tg} {b : Sx} : ∀ D σ H, tS G F W (Ice.sFor it tg b) D σ H → tFor (tI G F (fun _ => False) it) (tG G (fun _ => False) ws tg) (tS G F (fun _ => False) b) D σ H := by
  rintro D σ H ⟨B, ρ, L, S, h⟩
  have h := (show wpR W ((it F ρ).bind fun (xs, l, ρ1) => (Ice.forL tg b F xs ρ1).bind fun (f, ρ2) => .ok (f, Ice.unlock l ρ2)).calm _ from h).calm
  refine ⟨B, ρ, L, S, h.bind.mono (fun _ h => h) ?_⟩
  rintro ⟨xs, l, ρ1⟩ _ h J B1 H1 L1 ρ0 A0 lk wk
  have h := (show wpR (fun _ => False) ((Ice.forL tg b F xs ρ1).bind fun (f, ρ2) => .ok (f, Ice.unlock l ρ2)) _ from h).bind
  have S1 := lock_st A0.st lk
  refine ⟨fun i m σ' H' => m = xs.length - i ∧ i ≤ xs.length ∧ ∃ B' ρ' L', Aft G B1 H1 ρ1 L1 σ B' H' ρ' L' σ' ∧ wpR (fun _ => False) (Ice.forL tg b F (xs.drop i) ρ') (fun x => Fin D G B H ρ L σ (x.1, Ice.unlock l x.2)),
    ⟨_, rfl, Nat.zero_le _, B1, ρ1, L1, Aft.refl S1, h⟩, ?_⟩
  rintro i m σ' H' ⟨rfl, hi, B', ρ', L', A, h⟩
  by_cases hlt : i < xs.length
  · have hx : xs[i]? = some xs[i] := List.getElem?_eq_getElem hlt
    rw [List.drop_eq_getElem_cons hlt] at h
    obtain ⟨go, yl⟩ := (wk σ B' H' ρ' L' σ' A i).1 _ hx
    refine .inr ⟨go, _, fun σ2 H2 w => ⟨xs.length - (i + 1), by omega, w⟩, fun x H'' hy => ?_⟩
    obtain ⟨B'', e1, s1, r1⟩ := yl x H'' hy
    have A2 := A.trans (Aft.ext0 A.st e1 s1)
    refine ⟨B'', ρ', L', xs[i], A2.st, r1, (show wpR (fun _ => False) ((tg xs[i] ρ').bind _) _ from h).bind.mono (fun _ h => h) ?_⟩
    intro ρ2 _ h σ2 B2 H2 L2 _ A3
    refine ⟨B2, ρ2, L2, A3.st, (show wpR (fun _ => False) ((b F ρ2).bind _) _ from h).bind.mono (fun _ h => h) ?_⟩
    rintro ⟨f, ρ3⟩ _ h
    intro σ3 B3 H3 L3 A4
    have A5 := (A2.trans A3).trans A4
    cases f with
    | nx => exact ⟨rfl, hlt, B3, ρ3, L3, A5, h⟩
    | rt p q =>
      refine fun v r => (show Fin D G B H ρ L σ (.rt p q, Ice.unlock l ρ3) from h) σ3 B3 H3 L3 (A0.trans (unlock_aft lk A5)) v (ResS.back A0 ?_)
      have r1 := r.back (A2.trans A3)
      cases r1 with
      | old r' => exact .old r'
      | new h1 h2 h3 h4 =>
        refine .new h1 ?_ h3 h4
        rcases h2 with h2 | ⟨j, h2, h5⟩
        · exact .inl h2
        · refine .inr ⟨j, h2, ?_⟩
          cases l with
          | none => cases lk; exact h5
          | some i' =>
            obtain ⟨p', e, rfl⟩ := lk
            by_cases hj : j = i'
            · subst hj; rw [e]; rfl
            · rw [gS_ne (fun z => hj z.symm)] at h5; exact h5
      | xt h1 h2 h3 => exact .xt h1 h2 h3
  · have e : i = xs.length := by omega
    subst e
    rw [List.drop_length] at h
    exact .inl ⟨(wk σ B' H' ρ' L' σ' A _).2 (Nat.le_refl _), (show Fin D G B H ρ L σ (.nx, Ice.unlock l ρ') from h).nx (A0.trans (unlock_aft lk A))⟩
end
/-- for t in it: .. -/
def mFor (it : KI) (tg : KG) (a : List KS) : KS where
  d := Ice.sFor it.d tg.d (blkD a)
  chk C s := match s with | .For t e x [] _ => it.chk C t e && tg.chk C t && chkS a C x | _ => false
  ok {G X n C F W} h st hc := by
    split at hc
    · simp only [Bool.and_eq_true] at hc
      obtain ⟨⟨h1, h2⟩, h3⟩ := hc
      exact (PS.nox (ps_for PassesOwn.never h.calm (it.ok h.nox h1).1 (tg.ok h.nox h2) (pss_ok h.nox h3) (fun x => (it.ok h.nox h1).2 _ x))).imp imp_for
    · cases hc
end IceS
end
section
set_option Elab.async false
set_option linter.all false
set_option maxRecDepth 100000
/-! Certified code: targets, what is walked, list comprehensions. -/
namespace IceS
open PySem hiding Env
open PySem.Spec PyProof.Rows L2
open Ice (PV Slot Env FE Ev Op Opd Sx Tg gS sS)

/-! ### targets -/
section
variable {G : Cfg} {X : Cx} {n : Nat} {C : Ctx} {F : FE} {W : Nat → Prop}
theorem _root_.L2.PG.imp {e : Expr} {t t' : TG} (h : PG X e t) (k : ∀ v σ H Q, t' v σ H Q → t v σ H Q) : PG X e t' := ⟨fun pins s σ H v u Q I r q => h.run pins s σ H v u Q I r (k _ _ _ _ q)⟩
theorem _root_.L2.PGs.imp {e : List Expr} {t t' : TGs} (h : PGs X e t) (k : ∀ v σ H Q, t' v σ H Q → t v σ H Q) : PGs X e t' := ⟨fun pins s σ H v u Q I r q => h.run pins s σ H v u Q I r (k _ _ _ _ q)⟩
theorem imp_tgN {i : Nat} : ∀ v σ H Q, tG G W [i] (Ice.tgN i) v σ H Q → gName i v σ H Q := by
  rintro v σ H Q ⟨B, ρ, L, p, S, r, h⟩
  obtain ⟨ρ2, e, h⟩ := (show wpR W (Ice.asg i p false ρ) _ from h).got fun _ => asg_nx
  obtain ⟨L2, A2⟩ := (Aft.refl S).asg (.old r) nb_old e
  exact h _ B H L2 ⟨fun j hj => List.getElem?_set_ne fun z => hj (by rw [z]; exact List.mem_singleton.mpr rfl), by simp⟩ A2
def tGs (G : Cfg) (W : Nat → Prop) (ws : List Nat) (ds : List Tg) : TGs := fun vs σ H Q => ∃ B ρ L ps, StR G B σ H ρ L ∧ RepL G B vs ps ∧ wpR W (Ice.tgAll ds ps ρ) fun ρ1 => ∀ σ' B' H' L', SameBut ws σ σ' → Aft G B H ρ L σ B' H' ρ1 L' σ' → Q σ' H'
end
def mG (i : Nat) : KG where
  d := Ice.tgN i
  ws := [i]
  nx := fun p ρ c => asg_nx
  chk C e := nameIs (isSto C i) e
  ok {G X n C F W} h e hc := by
    obtain ⟨x, pos, rfl, hx⟩ := nameIs_ok hc
    obtain ⟨e1, e2, e3⟩ := isSto_ok h hx
    exact (pg_name h.nd e1 e2 e3).imp imp_tgN
def chkG : List KG → Ctx → List Expr → Bool
  | [], _, [] => true
  | k :: ks, C, e :: es => k.chk C e && notStar e && chkG ks C es
  | _, _, _ => false
def wsG (ks : List KG) : List Nat := ks.flatMap (·.ws)
section
variable {G : Cfg} {X : Cx} {n : Nat} {C : Ctx} {F : FE} {W : Nat → Prop}
theorem asgE_cons {e : Expr} (h : notStar e = true) (es : List Expr) (env : PySem.Env) : assignEach (e :: es) env = (false, assign e env) :: assignEach es env := by
  cases e with
  | Starred _ _ => cases h
  | _ => rfl
theorem chkG_all : ∀ {ks : List KG} {es : List Expr}, chkG ks C es = true → es.all notStar = true ∧ es.length = ks.length
  | [], [], _ => ⟨rfl, rfl⟩
  | k :: ks, e :: es, h => by
    unfold chkG at h
    rw [Bool.and_eq_true, Bool.and_eq_true] at h
    obtain ⟨h1, h2⟩ := chkG_all h.2
    exact ⟨by rw [List.all_cons, h.1.2, h1]; rfl, by rw [List.length_cons, List.length_cons, h2]⟩
theorem asgE_star (env : PySem.Env) : ∀ (es : List Expr), es.all notStar = true → (assignEach es env).map (·.1) = List.replicate es.length false
  | [], _ => rfl
  | e :: es, h => by
    rw [List.all_cons, Bool.and_eq_true] at h
    rw [asgE_cons h.1, List.map_cons, asgE_star env es h.2]
    rfl
theorem findIdx_none {α : Type} : ∀ (l : List (Bool × α)) (m : Nat), l.map (·.1) = List.replicate m false → l.findIdx? (·.1) = none
  | [], _, _ => rfl
  | (b, a) :: l, m, h => by
    cases m with
    | zero => cases h
    | succ m =>
      rw [List.map_cons, List.replicate_succ] at h
      injection h with h1 h2
      have h1 : b = false := h1
      subst h1
      rw [List.findIdx?_cons]
      rw [findIdx_none l m h2]
      rfl
theorem chkG_star {ks : List KG} {es : List Expr} (env : PySem.Env) (h : chkG ks C es = true) : (assignEach es env).length = ks.length ∧ (assignEach es env).findIdx? (·.1) = none := by
  obtain ⟨h1, h2⟩ := chkG_all h
  have e := asgE_star env es h1
  refine ⟨?_, findIdx_none _ _ e⟩
  have := congrArg List.length e
  rw [List.length_map, List.length_replicate, h2] at this
  exact this
theorem SameBut.mono {ws ws' : List Nat} {σ σ' : L2.St} (h : SameBut ws σ σ') (k : ∀ i ∈ ws, i ∈ ws') : SameBut ws' σ σ' := ⟨fun j hj => h.1 j fun z => hj (k j z), h.2⟩
theorem SameBut.trans {ws : List Nat} {σ σ' σ'' : L2.St} (h : SameBut ws σ σ') (k : SameBut ws σ' σ'') : SameBut ws σ σ'' := ⟨fun j hj => (k.1 j hj).trans (h.1 j hj), k.2.trans h.2⟩
theorem pgs_ok (h : CtxOk G X n C F W) : ∀ {ks : List KG} {es : List Expr}, chkG ks C es = true → PGs X es (tGs G W (wsG ks) (ks.map (·.d)))
  | [], [], _ => pgs_nil.imp (by
    rintro vs σ H Q ⟨B, ρ, L, ps, S, r, q⟩
    cases r with
    | nil => exact ⟨rfl, (show ∀ σ' B' H' L', SameBut [] σ σ' → Aft G B H ρ L σ B' H' ρ L' σ' → Q σ' H' from q) σ B H L ⟨fun _ _ => rfl, rfl⟩ (Aft.refl S)⟩
    | cons _ _ => exact q.elim)
  | k :: ks, e :: es, hc => by
    unfold chkG at hc
    rw [Bool.and_eq_true, Bool.and_eq_true] at hc
    refine (pgs_cons (k.ok h hc.1.1) (pgs_ok h hc.2) (by rw [asgE_cons hc.1.2]; rfl)).imp ?_
    rintro vs σ H Q ⟨B, ρ, L, ps, S, r, q⟩
    cases r with
    | nil => exact q.elim
    | cons r rl =>
      refine ⟨_, _, rfl, B, ρ, L, _, S, r, (show wpR W ((k.d _ ρ).bind _) _ from q).bind.mono (fun _ h => h) ?_⟩
      intro ρ1 _ q σ1 B1 H1 L1 b1 A1
      refine ⟨B1, ρ1, L1, _, A1.st, rl.mono A1.ext.bb, (show wpR W (Ice.tgAll (ks.map (·.d)) _ ρ1) _ from q).mono (fun _ h => h) ?_⟩
      intro ρ2 _ q σ2 B2 H2 L2 b2 A2
      exact q σ2 B2 H2 L2 ((b1.mono fun i hi => List.mem_append_left _ hi).trans (b2.mono fun i hi => List.mem_append_right _ hi)) (A1.trans A2)
end
def mGT (ks : List KG) : KG where
  d := Ice.tgT (ks.map (·.d))
  ws := wsG ks
  chk C e := match e with | .Tuple es _ _ => chkG ks C es | _ => false
  ok {G X n C F W} h e hc := by
    split at hc
    · rename_i es _ _
      obtain ⟨h1, h2⟩ := chkG_star X.env hc
      refine (pg_tup h.calm (pgs_ok h hc) h1 h2).imp ?_
      rintro v σ H Q ⟨B, ρ, L, p, S, r, q⟩
      have q : wpR W (match p with | .tup ps => Ice.tgAll (ks.map (·.d)) ps ρ | _ => .stuck) _ := q
      cases r with
      | @tup a vs ps t l =>
        have len : vs.length = ks.length := by
          rw [l.length]
          have go : ∀ {ds : List Tg} {ps : List PV} {ρ : Env} {P : Env → Prop}, wpR W (Ice.tgAll ds ps ρ) P → (∀ d ∈ ds, ∀ p ρ c, d p ρ ≠ .exn c) → ps.length = ds.length := by
            intro ds
            induction ds with
            | nil =>
              intro ps ρ P q _
              cases ps with
              | nil => rfl
              | cons _ _ => exact q.elim
            | cons d ds ih =>
              intro ps ρ P q nx
              cases ps with
              | nil => exact q.elim
              | cons p ps =>
                obtain ⟨ρ1, _, q⟩ := (show wpR W ((d p ρ).bind _) _ from q).bind.got (nx d List.mem_cons_self p ρ)
                rw [List.length_cons, List.length_cons, ih q fun d hd => nx d (List.mem_cons_of_mem _ hd)]
          have := go q fun d hd => by
            obtain ⟨k, _, rfl⟩ := List.mem_map.mp hd
            exact k.nx
          rw [this, List.length_map]
        exact ⟨a, vs, rfl, h.K ▸ S.sub.sqT t, len, B, ρ, L, ps, S, l, q⟩
      | _ => exact q.elim
    · cases hc
  nx := by
    intro p ρ c
    cases p with
    | tup ps =>
      intro e
      have e : Ice.tgAll (ks.map (·.d)) ps ρ = .exn c := e
      have go : ∀ {ds : List Tg} {ps : List PV} {ρ : Env}, (∀ d ∈ ds, ∀ p ρ c, d p ρ ≠ .exn c) → Ice.tgAll ds ps ρ ≠ .exn c := by
        intro ds
        induction ds with
        | nil => intro ps ρ _ e; cases ps <;> cases e
        | cons d ds ih =>
          intro ps ρ nx e
          cases ps with
          | nil => cases e
          | cons p ps =>
            have e : (d p ρ).bind _ = _ := e
            cases e1 : d p ρ with
            | ok ρ1 => rw [e1] at e; exact ih (fun d hd => nx d (List.mem_cons_of_mem _ hd)) e
            | exn c' => rw [e1] at e; cases e; exact nx d List.mem_cons_self p ρ _ e1
            | stuck => rw [e1] at e; cases e
      exact go (fun d hd => by obtain ⟨k, _, rfl⟩ := List.mem_map.mp hd; exact k.nx) e
    | _ => intro e; cases e
end IceS
end
section
set_option Elab.async false
set_option linter.all false
set_option maxRecDepth 100000
/-! Certified code: what a loop walks. -/
namespace IceS
open PySem hiding Env
open PySem.Spec PyProof.Rows L2
open Ice (PV Slot Env FE Ev Op Opd Sx Tg gS sS)

/-- a list, a tuple, a text is walked -/
def rIt (K : PySem.W.Frag) : V → Hp → (L2.It → Hp → Prop) → Prop := fun x H R =>
  (∃ a, x = .ref a ∧ (∃ xs, SqL K H a xs) ∧ R (Itl K a) H) ∨ (∃ a, x = .ref a ∧ (∃ xs, SqT K H a xs) ∧ R (Itt K a) H) ∨ ∃ z, x = .str z ∧ R (Its z) H
section
variable {X : Cx} {tg : Expr}
theorem pi_any {e : Expr} {te : TE} (he : PE X e te) : PI X tg e (fun σ H R => te σ H fun x H1 => rIt X.K x H1 R) := by
  refine ⟨fun pins s σ H R I h => ?_⟩
  refine thn (he.run pins s σ H _ I h) fun v s1 ⟨x, H1, I1, r1, q1⟩ => ?_
  rcases q1 with ⟨a, rfl, ⟨xs, hq⟩, q⟩ | ⟨a, rfl, ⟨xs, hq⟩, q⟩ | ⟨z, rfl, q⟩
  · cases r1
    obtain ⟨its, rv, p, hz⟩ := I1.list hq
    exact wpAny_pyIter_list p.isList (pi_one (tk := s1.toks) I1 _ (turn_list a _) ⟨_, Heap.get?_push_size _ rfl, rfl, rfl⟩ q)
  · cases r1
    obtain ⟨its, rv, p, hz⟩ := I1.tuple hq
    exact wpAny_pyIter_tuple (show s1.heap.IsTuple a its.toArray from p) (pi_one (tk := s1.toks) I1 _ (turn_tuple a _) ⟨_, Heap.get?_push_size _ rfl, rfl, rfl⟩ q)
  · obtain ⟨t, rfl⟩ := r1
    cases ha : z.cps.all (· < 128)
    · exact wpAny_pyIter_wide ha (pi_one (tk := s1.toks) I1 _ (turn_str _ z t "str_iterator" (.inr rfl)) ⟨_, Heap.get?_push_size _ rfl, rfl, rfl⟩ q)
    · exact wpAny_pyIter_ascii ha (pi_one (tk := s1.toks) I1 _ (turn_str _ z t "str_ascii_iterator" (.inl rfl)) ⟨_, Heap.get?_push_size _ rfl, rfl, rfl⟩ q)
theorem _root_.L2.PI.imp {e : Expr} {t t' : TI} (h : PI X tg e t) (k : ∀ σ H Q, t' σ H Q → t σ H Q) : PI X tg e t' := ⟨fun pins s σ H R I q => h.run pins s σ H R I (k _ _ _ q)⟩
end
section
variable {G : Cfg} {X : Cx} {n : Nat} {C : Ctx} {F : FE} {W : Nat → Prop} {B1 H1 : Hp} {σ : L2.St} {ρ1 : Env} {L1 : Nat → List Addr}
/-- a list that is not written -/
theorem walk_list {a : Addr} {vs : List V} {ps : List PV} (h : H1 a = some (.lst vs)) (nw : ¬ Wr ρ1 L1 a) (l : RepL G B1 vs ps) : Walk G B1 H1 ρ1 L1 (Itl G.K a) ps := by
  intro σ B' H' ρ' L' σ' A i
  have h' : H' a = some (.lst vs) := A.ext.hh a _ h nw
  refine ⟨fun p hp => ?_, fun hi => ⟨vs, SqL.of h', by rw [l.length]; exact hi⟩⟩
  obtain ⟨v, h1, h2⟩ := l.get hp
  refine ⟨⟨vs, v, SqL.of h', h1⟩, fun x H'' ⟨e, y⟩ => ?_⟩
  subst e
  have := y vs (SqL.of h')
  rw [h1] at this
  cases this
  exact ⟨B', Ext.refl, A.st.sub, h2.mono A.ext.bb⟩
theorem walk_tup {a : Addr} {vs : List V} {ps : List PV} (h : SqT G.K B1 a vs) (l : RepL G B1 vs ps) : Walk G B1 H1 ρ1 L1 (Itt G.K a) ps := by
  intro σ B' H' ρ' L' σ' A i
  have h' : SqT G.K H' a vs := A.st.sub.sqT (A.ext.bb.sqT h)
  refine ⟨fun p hp => ?_, fun hi => ⟨vs, h', by rw [l.length]; exact hi⟩⟩
  obtain ⟨v, h1, h2⟩ := l.get hp
  refine ⟨⟨vs, v, h', h1⟩, fun x H'' ⟨e, y⟩ => ?_⟩
  subst e
  have := y vs h'
  rw [h1] at this
  cases this
  exact ⟨B', Ext.refl, A.st.sub, h2.mono A.ext.bb⟩
theorem walk_str {z : Str} (S : Sub B1 H1) : Walk G B1 H1 ρ1 L1 (Its z) (z.cps.toList.map fun c => .str [c]) := by
  intro σ B' H' ρ' L' σ' A i
  have hl : (z.cps.toList.map fun c => PV.str [c]).length = z.cps.size := by rw [List.length_map, Array.length_toList]
  refine ⟨fun p hp => ?_, fun hi => by rw [hl] at hi; exact hi⟩
  have hlt : i < z.cps.size := by
    rw [← hl]
    obtain ⟨h, _⟩ := List.getElem?_eq_some_iff.mp hp
    exact h
  refine ⟨hlt, fun x H'' ⟨e, c, y, ex⟩ => ?_⟩
  subst e ex
  rw [List.getElem?_map, Array.getElem?_toList, y] at hp
  cases hp
  exact ⟨B', Ext.refl, A.st.sub, .str ⟨#[c]⟩ (by rw [sizeLine_eq]; exact (by decide : 1 ≤ 16777216))⟩
theorem walk_rng {lo : Int} {m : Nat} : Walk G B1 H1 ρ1 L1 (Itr lo m) (Ice.rangeL lo m) := by
  intro σ B' H' ρ' L' σ' A i
  have hl : (Ice.rangeL lo m).length = m := by simp [Ice.rangeL]
  refine ⟨fun p hp => ?_, fun hi => by rw [hl] at hi; exact hi⟩
  have hlt : i < m := by
    rw [← hl]
    obtain ⟨h, _⟩ := List.getElem?_eq_some_iff.mp hp
    exact h
  refine ⟨hlt, fun x H'' ⟨e, ex⟩ => ?_⟩
  subst e ex
  unfold Ice.rangeL at hp
  rw [List.getElem?_map, List.getElem?_range hlt] at hp
  cases hp
  exact ⟨B', Ext.refl, A.st.sub, .int _⟩
theorem walk_rngC {lo : Int} {m : Nat} : Walk G B1 H1 ρ1 L1 (Itc lo (-1) m) ((List.range m).map fun (k : Nat) => .int (lo - (k : Int))) := by
  intro σ B' H' ρ' L' σ' A i
  have hl : ((List.range m).map fun (k : Nat) => PV.int (lo - (k : Int))).length = m := by simp
  refine ⟨fun p hp => ?_, fun hi => by rw [hl] at hi; exact hi⟩
  have hlt : i < m := by
    rw [← hl]
    obtain ⟨h, _⟩ := List.getElem?_eq_some_iff.mp hp
    exact h
  refine ⟨hlt, fun x H'' ⟨e, ex⟩ => ?_⟩
  subst e ex
  rw [List.getElem?_map, List.getElem?_range hlt] at hp
  cases hp
  refine ⟨B', Ext.refl, A.st.sub, ?_⟩
  have : lo + (i : Int) * -1 = lo - (i : Int) := by omega
  rw [this]
  exact .int _
theorem not_wr_vis {a : Addr} {o : HO} {B H : Hp} {ρ : Env} {L : Nat → List Addr} (S : StR G B σ H ρ L) (h : B a = some o) : ¬ Wr ρ L a := fun ⟨i, hi, _⟩ => by
  obtain ⟨z, _⟩ := S.own ⟨i, hi⟩
  rw [h] at z; cases z
/-- a value that is seen is walked -/
theorem walk_val {B H : Hp} {ρ : Env} {L : Nat → List Addr} {x : V} {p : PV} {ps : List PV} {R : L2.It → Hp → Prop} (S : StR G B σ H ρ L) (r : Rep G B x p) (e : Ice.walkOf p = some ps) (k : ∀ J, Walk G B H ρ L J ps → R J H) : rIt G.K x H R := by
  unfold Ice.walkOf at e
  split at e
  · cases e
    cases r with
    | tup t l => exact .inr (.inl ⟨_, rfl, ⟨_, S.sub.sqT t⟩, k _ (walk_tup t l)⟩)
  · cases e
    cases r with
    | lst t l => exact .inl ⟨_, rfl, ⟨_, SqL.of (S.sub _ _ t)⟩, k _ (walk_list (S.sub _ _ t) (not_wr_vis S t) l)⟩
  · cases e
    cases r with
    | str z hz => exact .inr (.inr ⟨z, rfl, k _ (walk_str S.sub)⟩)
  · cases e
theorem imp_itE {d : Ev} : ∀ σ H R, tI G F W (Ice.itE d) σ H R → tE G F W d σ H fun x H1 => rIt G.K x H1 R := by
  rintro σ H R ⟨B, ρ, L, S, h⟩
  refine ⟨B, ρ, L, S, (show wpR W ((d F ρ).bind _) _ from h).bind.mono (fun _ h => h) ?_⟩
  rintro ⟨p, m, ρ1⟩ _ h v B1 H1 L1 A r nb
  obtain ⟨B2, A2, r2⟩ := A.share r nb
  have h := (show wpR W ((Ice.R.of (Ice.walkOf p)).bind _) _ from h)
  cases e : Ice.walkOf p with
  | none => rw [e] at h; exact h.elim
  | some xs =>
    rw [e] at h
    exact walk_val A2.st r2 e fun J wk => (show ∀ J B1 H1 L1 ρ0, Aft G B H ρ L σ B1 H1 ρ0 L1 σ → LockR none ρ0 ρ1 → Walk G B1 H1 ρ1 L1 J xs → R J H1 from h) J B2 H1 L1 ρ1 A2 rfl wk
theorem imp_itV {i : Nat} : ∀ σ H R, tI G F W (Ice.itV i) σ H R → tVar i σ H fun x H1 => rIt G.K x H1 R := by
  rintro σ H R ⟨B, ρ, L, S, h⟩
  have h : wpR W (match gS ρ i with
    | .val p => (Ice.R.of (Ice.walkOf p)).bind fun xs => Ice.R.ok (xs, none, ρ)
    | .own p => (Ice.R.of (Ice.walkOf p)).bind fun xs => .ok (xs, some i, sS ρ i (.lok p))
    | .lok p => (Ice.R.of (Ice.walkOf p)).bind fun xs => .ok (xs, none, ρ)
    | _ => .stuck) _ := h
  have s := S.slot i
  cases hs : gS ρ i with
  | val p =>
    rw [hs] at h s
    have h : wpR W ((Ice.R.of (Ice.walkOf p)).bind fun xs => Ice.R.ok (xs, none, ρ)) _ := h
    generalize hx : gσ σ i = x at s
    generalize L i = l at s
    cases e : Ice.walkOf p with
    | none => rw [e] at h; exact h.elim
    | some xs =>
      rw [e] at h
      cases s with
      | val r => exact ⟨_, gσ_some hx, walk_val S r e fun J wk => (show ∀ J B1 H1 L1 ρ0, Aft G B H ρ L σ B1 H1 ρ0 L1 σ → LockR none ρ0 ρ → Walk G B1 H1 ρ L1 J xs → R J H1 from h) J B H L ρ (Aft.refl S) rfl wk⟩
  | own p =>
    rw [hs] at h s
    have h : wpR W ((Ice.R.of (Ice.walkOf p)).bind fun xs => Ice.R.ok (xs, some i, sS ρ i (.lok p))) _ := h
    generalize hx : gσ σ i = x at s
    generalize hL : L i = l at s
    cases e : Ice.walkOf p with
    | none => rw [e] at h; exact h.elim
    | some xs =>
      rw [e] at h
      have hi : i < ρ.length := gS_lt (by rw [hs]; intro z; cases z)
      cases s with
      | own h1 h2 =>
        rename_i a
        cases h2 with
        | lst ha la =>
          cases e
          refine ⟨_, gσ_some hx, .inl ⟨a, rfl, ⟨_, SqL.of ha⟩, ?_⟩⟩
          refine (show ∀ J B1 H1 L1 ρ0, Aft G B H ρ L σ B1 H1 ρ0 L1 σ → LockR (some i) ρ0 (sS ρ i (.lok (.lst xs))) → Walk G B1 H1 (sS ρ i (.lok (.lst xs))) L1 J xs → R J H1 from h) _ B H L ρ (Aft.refl S) ⟨_, hs, rfl⟩ (walk_list ha ?_ la)
          rintro ⟨j, hj, kj⟩
          have := S.dist j i a hj (by rw [hL]; exact List.mem_cons_self)
          subst this
          rw [gS_same hi] at kj
          exact kj.1 rfl
        | dK _ _ => cases e
  | lok p =>
    rw [hs] at h s
    have h : wpR W ((Ice.R.of (Ice.walkOf p)).bind fun xs => Ice.R.ok (xs, none, ρ)) _ := h
    generalize hx : gσ σ i = x at s
    generalize hL : L i = l at s
    cases e : Ice.walkOf p with
    | none => rw [e] at h; exact h.elim
    | some xs =>
      rw [e] at h
      cases s with
      | lok h1 h2 =>
        rename_i a
        cases h2 with
        | lst ha la =>
          cases e
          refine ⟨_, gσ_some hx, .inl ⟨a, rfl, ⟨_, SqL.of ha⟩, ?_⟩⟩
          refine (show ∀ J B1 H1 L1 ρ0, Aft G B H ρ L σ B1 H1 ρ0 L1 σ → LockR none ρ0 ρ → Walk G B1 H1 ρ L1 J xs → R J H1 from h) _ B H L ρ (Aft.refl S) rfl (walk_list ha ?_ la)
          rintro ⟨j, hj, kj⟩
          have := S.dist j i a hj (by rw [hL]; exact List.mem_cons_self)
          subst this
          rw [hs] at kj
          exact kj.1 rfl
        | dK _ _ => cases e
  | un => rw [hs] at h; exact h.elim
  | par p => rw [hs] at h; exact h.elim
  | ow2 p => rw [hs] at h; exact h.elim
  | xt p => rw [hs] at h; exact h.elim
  | lk2 p => rw [hs] at h; exact h.elim
end
/-- not a set display -/
def notSet : Expr → Bool
  | .Set _ _ _ => false
  | _ => true
theorem notSet_ok {e : Expr} (h : notSet e = true) (env : PySem.Env) (x : Value) : foldedSetIterable e env x = pure x := by
  cases e with
  | Set _ _ _ => cases h
  | _ => rfl
def wE (k : KE) : KI where
  d := Ice.itE k.d
  chk C tg e := k.chk C e && notSet e
  ok {G X n C F W} h tg e hc := by
    rw [Bool.and_eq_true] at hc
    refine ⟨(pi_any (k.ok h hc.1).1).imp ?_, fun env x => notSet_ok hc.2 env x⟩
    rw [h.K]
    exact imp_itE
def wV (i : Nat) : KI where
  d := Ice.itV i
  chk C tg e := nameIs (isVar C i) e
  ok {G X n C F W} h tg e hc := by
    obtain ⟨x, pos, rfl, hx⟩ := nameIs_ok hc
    obtain ⟨h1, h2, h3, h4⟩ := isVar_ok h hx
    refine ⟨(pi_any (pe_var h1 h2 h3 h4)).imp ?_, fun env x => rfl⟩
    rw [h.K]
    exact imp_itV
/-! ### ranges -/
theorem okR_ok {j : Int} (h : Ice.okR j = true) : -(2 ^ 62) ≤ j ∧ j < 2 ^ 62 := by
  unfold Ice.okR at h
  rw [Bool.and_eq_true] at h
  have h1 : -Ice.W62 ≤ j := of_decide_eq_true h.1
  have h2 : j < Ice.W62 := of_decide_eq_true h.2
  exact ⟨h1, h2⟩
section
variable {G : Cfg} {X : Cx} {n : Nat} {C : Ctx} {F : FE} {W : Nat → Prop}
theorem imp_r1 {a : Op} : ∀ σ H R, tI G F W (Ice.itR1 a) σ H R → iRng1 (tCons (tO G F W a) tNil) σ H R := by
  rintro σ H R ⟨B, ρ, L, S, h⟩
  refine ⟨B, ρ, L, S, (show wpR W ((a F ρ).bind _) _ from h).bind.mono (fun _ h => h) ?_⟩
  rintro ⟨x, ρ1⟩ _ h v B1 H1 L1 A r
  obtain ⟨p, e1, h⟩ := (show wpR W ((Ice.deref ρ1 x).bind _) _ from h).bind.got fun _ => deref_nx
  have op := r.opn A.st e1
  cases p with
  | int j =>
    have h : wpR W (if Ice.okR j = true then Ice.R.ok (Ice.rangeL 0 j.toNat, none, ρ1) else .stuck) _ := h
    split at h
    · rename_i hj
      obtain ⟨b1, b2⟩ := okR_ok hj
      exact ⟨j, by rw [op.int], b1, b2, (show ∀ J B1 H1 L1 ρ0, Aft G B H ρ L σ B1 H1 ρ0 L1 σ → LockR none ρ0 ρ1 → Walk G B1 H1 ρ1 L1 J (Ice.rangeL 0 j.toNat) → R J H1 from h) _ B1 H1 L1 ρ1 A rfl walk_rng⟩
    · exact h.elim
  | _ => exact h.elim
theorem imp_r2 {a b : Op} : ∀ σ H R, tI G F W (Ice.itR2 a b) σ H R → iRng2 (tCons (tO G F W a) (tCons (tO G F W b) tNil)) σ H R := by
  rintro σ H R ⟨B, ρ, L, S, h⟩
  refine ⟨B, ρ, L, S, (show wpR W ((a F ρ).bind _) _ from h).bind.mono (fun _ h => h) ?_⟩
  rintro ⟨x, ρ1⟩ _ h v B1 H1 L1 A r
  refine ⟨B1, ρ1, L1, A.st, (show wpR W ((b F ρ1).bind _) _ from h).bind.mono (fun _ h => h) ?_⟩
  rintro ⟨y, ρ2⟩ _ h w B2 H2 L2 A2 r2
  obtain ⟨p, e1, h⟩ := (show wpR W ((Ice.deref ρ2 x).bind _) _ from h).bind.got fun _ => deref_nx
  obtain ⟨q, e2, h⟩ := (show wpR W ((Ice.deref ρ2 y).bind _) _ from h).bind.got fun _ => deref_nx
  have op := (r.mono A2.ext.bb).opn A2.st e1
  have oq := r2.opn A2.st e2
  cases p with
  | int i =>
    cases q with
    | int j =>
      have h : wpR W (if (Ice.okR i && Ice.okR j) = true then Ice.R.ok (Ice.rangeL i (j - i).toNat, none, ρ2) else .stuck) _ := h
      split at h
      · rename_i hj
        rw [Bool.and_eq_true] at hj
        obtain ⟨b1, b2⟩ := okR_ok hj.1
        obtain ⟨b3, b4⟩ := okR_ok hj.2
        exact ⟨i, j, by rw [op.int, oq.int], ⟨b1, b2, b3, b4⟩, (show ∀ J B1 H1 L1 ρ0, Aft G B H ρ L σ B1 H1 ρ0 L1 σ → LockR none ρ0 ρ2 → Walk G B1 H1 ρ2 L1 J (Ice.rangeL i (j - i).toNat) → R J H1 from h) _ B2 H2 L2 ρ2 (A.trans A2) rfl walk_rng⟩
      · exact h.elim
    | _ => exact h.elim
  | _ => cases q <;> exact h.elim
theorem imp_r3 {a b : Op} : ∀ σ H R, tI G F W (Ice.itR3 a b) σ H R → iRng3 (tCons (tO G F W a) (tCons (tO G F W b) (tCons (tUn (rU fun i => .int (-i)) (tC (.int 1))) tNil))) σ H R := by
  rintro σ H R ⟨B, ρ, L, S, h⟩
  refine ⟨B, ρ, L, S, (show wpR W ((a F ρ).bind _) _ from h).bind.mono (fun _ h => h) ?_⟩
  rintro ⟨x, ρ1⟩ _ h v B1 H1 L1 A r
  refine ⟨B1, ρ1, L1, A.st, (show wpR W ((b F ρ1).bind _) _ from h).bind.mono (fun _ h => h) ?_⟩
  rintro ⟨y, ρ2⟩ _ h w B2 H2 L2 A2 r2
  obtain ⟨p, e1, h⟩ := (show wpR W ((Ice.deref ρ2 x).bind _) _ from h).bind.got fun _ => deref_nx
  obtain ⟨q, e2, h⟩ := (show wpR W ((Ice.deref ρ2 y).bind _) _ from h).bind.got fun _ => deref_nx
  have op := (r.mono A2.ext.bb).opn A2.st e1
  have oq := r2.opn A2.st e2
  cases p with
  | int i =>
    cases q with
    | int j =>
      have h : wpR W (if (Ice.okR i && Ice.okR j) = true then Ice.R.ok ((List.range (i - j).toNat).map (fun (k : Nat) => PV.int (i - (k : Int))), (none : Option Nat), ρ2) else .stuck) _ := h
      split at h
      · rename_i hj
        rw [Bool.and_eq_true] at hj
        obtain ⟨b1, b2⟩ := okR_ok hj.1
        obtain ⟨b3, b4⟩ := okR_ok hj.2
        refine ⟨1, rfl, i, j, -1, (i - j).toNat, by rw [op.int, oq.int], RgC.neg b1 b2 b3 b4, ?_⟩
        exact (show ∀ J B1 H1 L1 ρ0, Aft G B H ρ L σ B1 H1 ρ0 L1 σ → LockR none ρ0 ρ2 → Walk G B1 H1 ρ2 L1 J ((List.range (i - j).toNat).map (fun (k : Nat) => PV.int (i - (k : Int)))) → R J H1 from h) _ B2 H2 L2 ρ2 (A.trans A2) rfl walk_rngC
      · exact h.elim
    | _ => exact h.elim
  | _ => cases q <;> exact h.elim
theorem range_mem : ("range" : Str) ∈ bNames := bmem (by decide)
end
def wR1 (a : KO) : KI where
  d := Ice.itR1 a.d
  chk C tg e := match e with | .Call (.Name x _) [y] [] _ => seq x "range" && isGl C x && a.chk C y && notStar y | _ => false
  ok {G X n C F W} h tg e hc := by
    split at hc
    · simp only [Bool.and_eq_true] at hc
      obtain ⟨⟨⟨h1, h2⟩, h3⟩, h4⟩ := hc
      have e1 := seq_eq h1
      subst e1
      exact ⟨(pi_range1 (isGl_ok h h2).1 (h.blt _ range_mem) (pa_cons (a.ok h h3) pa_nil (star_cons h4 _ _)) (star_cons h4 _ _)).imp imp_r1, fun env x => rfl⟩
    · cases hc
def wR2 (a b : KO) : KI where
  d := Ice.itR2 a.d b.d
  chk C tg e := match e with | .Call (.Name x _) [y, z] [] _ => seq x "range" && isGl C x && a.chk C y && notStar y && b.chk C z && notStar z | _ => false
  ok {G X n C F W} h tg e hc := by
    split at hc
    · simp only [Bool.and_eq_true] at hc
      obtain ⟨⟨⟨⟨⟨h1, h2⟩, h3⟩, h4⟩, h5⟩, h6⟩ := hc
      have e1 := seq_eq h1
      subst e1
      exact ⟨(pi_range2 (isGl_ok h h2).1 (h.blt _ range_mem) (pa_cons (a.ok h h3) (pa_cons (b.ok h h5) pa_nil (star_cons h6 _ _)) (star_cons h4 _ _)) (by rw [star_cons h4, star_cons h6]; rfl) (star_cons h6 _ _)).imp imp_r2, fun env x => rfl⟩
    · cases hc
def wR3 (a b : KO) : KI where
  d := Ice.itR3 a.d b.d
  chk C tg e := match e with | .Call (.Name x _) [y, z, .UnaryOp .USub (.Constant (.int 1) _ _) _] [] _ => seq x "range" && isGl C x && a.chk C y && notStar y && b.chk C z && notStar z | _ => false
  ok {G X n C F W} h tg e hc := by
    split at hc
    · simp only [Bool.and_eq_true] at hc
      obtain ⟨⟨⟨⟨⟨h1, h2⟩, h3⟩, h4⟩, h5⟩, h6⟩ := hc
      have e1 := seq_eq h1
      subst e1
      exact ⟨(pi_range3 (isGl_ok h h2).1 (h.blt _ range_mem) (pa_cons (a.ok h h3) (pa_cons (b.ok h h5) (pa_cons (pe_un un_neg pe_int) pa_nil) (star_cons h6 _ _)) (star_cons h4 _ _)) (star_cons h4 _ _) (by rw [star_cons h6]; rfl)).imp imp_r3, fun env x => rfl⟩
    · cases hc
end IceS
end
section
set_option Elab.async false
set_option linter.all false
set_option maxRecDepth 100000
/-! Certified code: list comprehensions. -/
namespace IceS
open PySem hiding Env
open PySem.Spec PyProof.Rows L2
open Ice (PV Slot Env FE Ev Op Opd Sx Tg gS sS)

/-! ### the block's own slots -/
theorem wipe_get {σ : L2.St} {j : Nat} : ∀ {vs : List Nat}, (wipe σ vs)[j]? = if j ∈ vs then (if j < σ.length then some none else none) else σ[j]?
  | [] => by rw [if_neg (by simp)]; rfl
  | v :: vs => by
    unfold wipe
    by_cases hj : v = j
    · subst hj
      rw [if_pos List.mem_cons_self]
      by_cases hl : v < σ.length
      · rw [if_pos hl, List.getElem?_set_self (by rw [wipe_length]; exact hl)]
      · rw [if_neg hl, List.getElem?_eq_none (by rw [List.length_set, wipe_length]; omega)]
    · rw [List.getElem?_set_ne hj, wipe_get]
      by_cases hm : j ∈ vs
      · rw [if_pos hm, if_pos (List.mem_cons_of_mem _ hm)]
      · rw [if_neg hm, if_neg (by rw [List.mem_cons, not_or]; exact ⟨fun z => hj z.symm, hm⟩)]
theorem wipe_but {σ σ' : L2.St} {vs ws : List Nat} (h : SameBut ws (wipe σ vs) σ') (hw : ∀ i ∈ ws, i ∈ vs) : wipe σ' vs = wipe σ vs := by
  refine List.ext_getElem? fun j => ?_
  have hl : σ'.length = σ.length := by rw [h.2, wipe_length]
  rw [wipe_get, wipe_get, hl]
  by_cases hj : j ∈ vs
  · rw [if_pos hj, if_pos hj]
  · rw [if_neg hj, if_neg hj, h.1 j fun z => hj (hw j z), wipe_get, if_neg hj]
theorem gσ_wipe {σ : L2.St} {vs : List Nat} {j : Nat} : gσ (wipe σ vs) j = if j ∈ vs then none else gσ σ j := by
  unfold gσ
  rw [wipe_get]
  by_cases h : j ∈ vs
  · rw [if_pos h, if_pos h]; split <;> rfl
  · rw [if_neg h, if_neg h]
theorem wipeS_len {own : List Nat} {ρ : Env} : (Ice.wipeS own ρ).length = ρ.length := by
  induction own generalizing ρ with
  | nil => rfl
  | cons i r ih => show (Ice.wipeS r (sS ρ i .un)).length = _; rw [ih, sS_len]
theorem gS_wipeS {own : List Nat} {ρ : Env} {j : Nat} : gS (Ice.wipeS own ρ) j = if j ∈ own then .un else gS ρ j := by
  induction own generalizing ρ with
  | nil => rw [if_neg (by simp)]; rfl
  | cons i r ih =>
    show gS (Ice.wipeS r (sS ρ i .un)) j = _
    rw [ih]
    by_cases hj : j ∈ r
    · rw [if_pos hj, if_pos (List.mem_cons_of_mem _ hj)]
    · rw [if_neg hj, gS_sS]
      by_cases hi : i = j
      · subst hi
        rw [if_pos List.mem_cons_self]
        by_cases hl : i < ρ.length
        · rw [if_pos ⟨rfl, hl⟩]
        · rw [if_neg (fun z => hl z.2)]
          exact Classical.byContradiction fun z => hl (gS_lt z)
      · rw [if_neg (fun z => hi z.1), if_neg (by rw [List.mem_cons, not_or]; exact ⟨fun z => hi z.symm, hj⟩)]
theorem restS_len {own : List Nat} {ρ0 ρ : Env} : (Ice.restS own ρ0 ρ).length = ρ.length := by
  induction own generalizing ρ with
  | nil => rfl
  | cons i r ih => show (Ice.restS r ρ0 (sS ρ i (gS ρ0 i))).length = _; rw [ih, sS_len]
theorem gS_restS {own : List Nat} {ρ0 ρ : Env} {j : Nat} (hl : ρ0.length = ρ.length) : gS (Ice.restS own ρ0 ρ) j = if j ∈ own then gS ρ0 j else gS ρ j := by
  induction own generalizing ρ with
  | nil => rw [if_neg (by simp)]; rfl
  | cons i r ih =>
    show gS (Ice.restS r ρ0 (sS ρ i (gS ρ0 i))) j = _
    rw [ih (by rw [sS_len]; exact hl)]
    by_cases hj : j ∈ r
    · rw [if_pos hj, if_pos (List.mem_cons_of_mem _ hj)]
    · rw [if_neg hj, gS_sS]
      by_cases hi : i = j
      · subst hi
        rw [if_pos List.mem_cons_self]
        by_cases hl' : i < ρ.length
        · rw [if_pos ⟨rfl, hl'⟩]
        · rw [if_neg (fun z => hl' z.2)]
          have e1 : gS ρ i = .un := Classical.byContradiction fun z => hl' (gS_lt z)
          have e2 : gS ρ0 i = .un := Classical.byContradiction fun z => hl' (hl ▸ gS_lt z)
          rw [e1, e2]
      · rw [if_neg (fun z => hi z.1), if_neg (by rw [List.mem_cons, not_or]; exact ⟨fun z => hi z.symm, hj⟩)]
theorem plainS_ok {ρ : Env} : ∀ {own : List Nat}, Ice.plainS ρ own = true → ∀ j ∈ own, gS ρ j = .un ∨ ∃ p, gS ρ j = .val p
  | [], _, j, hj => by cases hj
  | i :: r, h, j, hj => by
    have h : ((match gS ρ i with | .un => true | .val _ => true | _ => false) && Ice.plainS ρ r) = true := h
    rw [Bool.and_eq_true] at h
    rcases List.mem_cons.mp hj with e | hj
    · subst e
      cases hs : gS ρ j with
      | un => exact .inl rfl
      | val p => exact .inr ⟨p, rfl⟩
      | _ => rw [hs] at h; exact absurd h.1 Bool.false_ne_true
    · exact plainS_ok h.2 j hj
/-- own slots hold nothing -/
def offL (own : List Nat) (L : Nat → List Addr) : Nat → List Addr := fun j => if j ∈ own then [] else L j
section
variable {G : Cfg} {B H B1 H1 B' H' : Hp} {σ σ1 : L2.St} {ρ ρ1 ρ' : Env} {L L1 L' : Nat → List Addr} {own : List Nat}
theorem offL_mem {a : Addr} {j : Nat} (h : a ∈ offL own L j) : j ∉ own ∧ a ∈ L j := by
  unfold offL at h
  split at h
  · cases h
  · rename_i z; exact ⟨z, h⟩
theorem wipe_st (S : StR G B σ H ρ L) : StR G B (wipe σ own) H (Ice.wipeS own ρ) (offL own L) := by
  refine ⟨by rw [wipe_length, wipeS_len]; exact S.len, S.sub, fun j => ?_, fun j k a h1 h2 => S.dist j k a (offL_mem h1).2 (offL_mem h2).2⟩
  rw [gσ_wipe, gS_wipeS]
  unfold offL
  by_cases h : j ∈ own
  · rw [if_pos h, if_pos h, if_pos h]; exact .un
  · rw [if_neg h, if_neg h, if_neg h]; exact S.slot j
/-- behind a turn -/
theorem Aft.wipe (A : Aft G B H ρ L σ B1 H1 ρ1 L1 σ1) (hk : ∀ j ∈ own, kd (gS ρ j) ≠ 3) : Aft G B H ρ L σ B1 H1 (Ice.wipeS own ρ1) (offL own L1) (L2.wipe σ1 own) := by
  refine ⟨wipe_st A.st, A.ext, fun j a h => ?_, fun j h => ?_⟩
  · obtain ⟨h1, h2⟩ := offL_mem h
    rw [gS_wipeS, if_neg h1]
    exact A.own j a h2
  · have hj : j ∉ own := fun z => hk j z h
    rw [gS_wipeS, if_neg hj, gσ_wipe, if_neg hj]
    exact A.par j h
/-- from the block back -/
theorem block_back (S : StR G B1 σ H1 ρ1 L1) (pl : Ice.plainS ρ1 own = true)
    (A : Aft G B1 H1 (Ice.wipeS own ρ1) (offL own L1) (wipe σ own) B' H' (Ice.wipeS own ρ') L' (wipe σ own)) (hl : ρ'.length = ρ1.length) :
    Aft G B1 H1 ρ1 L1 σ B' H' (Ice.restS own ρ1 ρ') (offL own L') σ := by
  have kds : ∀ j ∈ own, kd (gS ρ1 j) = 0 := fun j hj => by rcases plainS_ok pl j hj with h | ⟨p, h⟩ <;> (rw [h]; rfl)
  have same : ∀ j, j ∉ own → gS (Ice.restS own ρ1 ρ') j = gS (Ice.wipeS own ρ') j := fun j hj => by
    rw [gS_restS hl.symm, if_neg hj, gS_wipeS, if_neg hj]
  refine ⟨⟨by rw [restS_len, hl]; exact S.len, A.st.sub, fun j => ?_, fun j k a h1 h2 => A.st.dist j k a (offL_mem h1).2 (offL_mem h2).2⟩, ⟨A.ext.bb, fun b x e nw => ?_, fun b x e q => ?_, A.ext.dm⟩, fun j a h => ?_, fun j h => ?_⟩
  · by_cases hj : j ∈ own
    · rw [gS_restS hl.symm, if_pos hj]
      unfold offL
      rw [if_pos hj]
      have s := S.slot j
      rcases plainS_ok pl j hj with h | ⟨p, h⟩
      · rw [h]; exact .un
      · rw [h] at s ⊢
        generalize gσ σ j = x at s ⊢
        generalize L1 j = l at s
        cases s with
        | val r => exact .val (r.mono A.ext.bb)
    · rw [same j hj]
      have s := A.st.slot j
      rw [gσ_wipe, if_neg hj] at s
      unfold offL
      rw [if_neg hj]
      exact s
  · refine A.ext.hh b x e fun ⟨j, h1, h2⟩ => ?_
    obtain ⟨h3, h4⟩ := offL_mem h1
    rw [gS_wipeS, if_neg h3] at h2
    exact nw ⟨j, h4, h2⟩
  · rcases A.ext.nw b x e q with z | ⟨j, z⟩
    · exact .inl z
    · exact .inr ⟨j, (offL_mem z).2⟩
  · obtain ⟨h1, h2⟩ := offL_mem h
    rw [same j h1]
    rcases A.own j a h2 with ⟨h3, h4⟩ | ⟨h3, h4⟩
    · rw [gS_wipeS (ρ := ρ1), if_neg h1] at h4
      exact .inl ⟨(offL_mem h3).2, h4⟩
    · exact .inr ⟨h3, h4⟩
  · have hj : j ∉ own := fun z => by rw [kds j z] at h; cases h
    rw [same j hj]
    obtain ⟨h1, h2⟩ := A.par j (by rw [gS_wipeS, if_neg hj]; exact h)
    exact ⟨h1, rfl⟩
end

/-! ### the block's context -/
def blkCtx (C : Ctx) (scope : Scope) : Ctx := { C with sc := relS scope C.sc, all := false, fn := (scope.names.filter fun y => y.2 == .cell).map (·.1) }
section
variable {G : Cfg} {X : Cx} {n : Nat} {C : Ctx} {F : FE} {W : Nat → Prop}
theorem uniq_look {l : List (Str × NameKind)} (h : ∀ y ∈ l, l.lookup y.1 = some y.2) {x : Str} {k : NameKind} (m : (x, k) ∈ l) : l.lookup x = some k := h _ m
theorem CtxOk.blk (h : CtxOk G X n C F W) {scope : Scope} (hu : ∀ y ∈ scope.names, scope.names.lookup y.1 = some y.2) (s : Shared) (H : Hp) (D : Addr) (cl : List (Str × Addr)) (fp : List Addr) :
    CtxOk G (X.blk s H scope (compEnvC scope cl D X.env) fp) n (blkCtx C scope) F (fun _ => False) :=
  { K := h.K, calm := h.calm, nd := h.nd, room := h.room, fnK := h.fnK, fnI := h.fnI, N := h.N, fns := h.fns, blt := h.blt, exc := h.exc, gc := h.gc,
    sc := by
      show relS scope X.env.scope = relS scope C.sc
      rw [h.sc]
    fn := fun x e => by
      have e : (false || (blkCtx C scope).fn.any (seq x)) = true := e
      rw [Bool.false_or] at e
      obtain ⟨y, hy, e⟩ := List.any_eq_true.mp e
      rw [seq_eq e]
      obtain ⟨⟨z, k⟩, hz, rfl⟩ := List.mem_map.mp hy
      obtain ⟨hz, hk⟩ := List.mem_filter.mp hz
      have hk : k = .cell := by simpa using hk
      subst hk
      show (scope.names.lookup z == some NameKind.cell) = true
      rw [hu _ hz]
      rfl
    takes := fun u s' x => takes0 u s' (by
      obtain ⟨a, B, sI, pins, σ, H, cls, d, e, I, nb, up, sky, na, os, ag, c, a', w, _⟩ := x
      exact w.elim) }
end
/-- a clause's test -/
def chkC : Option KE → Ctx → List Expr → Bool
  | none, _, [] => true
  | some k, C, [e] => k.chk C e
  | _, _, _ => false
def tTs (G : Cfg) (F : FE) (c : Option Ev) : TT := fun σ H Q => ∃ B ρ L, StR G B σ H ρ L ∧ wpR (fun _ => False) (Ice.cond? c F ρ) fun (b, ρ1) => ∀ B1 H1 L1, Aft G B H ρ L σ B1 H1 ρ1 L1 σ → Q b H1
theorem _root_.L2.PTs.imp {X : Cx} {e : List Expr} {t t' : TT} (h : PTs X e t) (k : ∀ σ H Q, t' σ H Q → t σ H Q) : PTs X e t' := ⟨fun pins s σ H Q I q => h.run pins s σ H Q I (k _ _ _ q)⟩
theorem pts_ok {G : Cfg} {X : Cx} {n : Nat} {C : Ctx} {F : FE} (h : CtxOk G X n C F fun _ => False) : ∀ {c : Option KE} {es : List Expr}, chkC c C es = true → PTs X es (tTs G F (c.map (·.d)))
  | none, [], _ => pts_nil.imp (by
    rintro σ H Q ⟨B, ρ, L, S, q⟩
    exact (show ∀ B1 H1 L1, Aft G B H ρ L σ B1 H1 ρ L1 σ → Q true H1 from q) B H L (Aft.refl S))
  | some k, [e], hc => (pts_one (k.ok h hc).2).imp fun _ _ _ q => q
/-- the block's names with their slots: as the scope tells -/
def ownN (N : List Str) (own : List Nat) : List (Str × Nat) := own.map fun i => ((N[i]?).getD "", i)
theorem ownN_ix {N : List Str} {own : List Nat} : (ownN N own).map (·.2) = own := by
  unfold ownN
  rw [List.map_map]
  exact List.map_id' own
section
variable {G : Cfg} {X : Cx} {n : Nat} {C : Ctx} {F : FE} {W : Nat → Prop}
theorem imp_lc {it : Ice.It} {tg : Tg} {ws own : List Nat} {c : Option Ev} {el : Ev} (hw : ∀ i ∈ ws, i ∈ own) :
    ∀ σ H Q, tE G F W (Ice.eLC own it tg c el) σ H Q → tLc (tI G F W it) (tG G (fun _ => False) ws tg) (tTs G F c) (tE G F (fun _ => False) el) own σ H Q := by
  rintro σ H Q ⟨B, ρ, L, S, h⟩
  have h := (show wpR W ((it F ρ).bind fun (xs, l, ρ1) => if Ice.plainS ρ1 own = true then ((Ice.compL own tg c (Ice.elOf el) F xs ρ1).bind fun (ps, ρ2) => (Ice.finL ps).bind fun v => .ok (v, true, Ice.unlock l (Ice.restS own ρ1 ρ2))).calm else .stuck) _ from h)
  refine ⟨B, ρ, L, S, h.bind.mono (fun _ h => h) ?_⟩
  rintro ⟨xs, l, ρ1⟩ _ h J B1 H1 L1 ρ0 A0 lk wk D hD
  have h : wpR W (if Ice.plainS ρ1 own = true then ((Ice.compL own tg c (Ice.elOf el) F xs ρ1).bind fun (ps, ρ2) => (Ice.finL ps).bind fun v => .ok (v, true, Ice.unlock l (Ice.restS own ρ1 ρ2))).calm else .stuck) _ := h
  split at h
  · rename_i pl
    have h := h.calm.bind
    have S1 := lock_st A0.st lk
    have kds : ∀ j ∈ own, kd (gS (Ice.wipeS own ρ1) j) ≠ 3 := fun j hj => by rw [gS_wipeS, if_pos hj]; simp [kd]
    have Db : B1 D = none := S1.sub.no hD
    have Dl : ∀ i, D ∉ L1 i := fun i hi => by obtain ⟨_, o, z⟩ := S1.own ⟨i, hi⟩; rw [hD] at z; cases z
    have A1 := Aft.ext0 (wipe_st (own := own) S1) (Ext.new (o := HO.lst []) hD) (S1.sub.new hD)
    refine ⟨fun i m H' => m = xs.length - i ∧ i ≤ xs.length ∧ ∃ B' ρ' L' acc ps, Aft G B1 H1 (Ice.wipeS own ρ1) (offL own L1) (wipe σ own) B' H' (Ice.wipeS own ρ') L' (wipe σ own) ∧ ρ'.length = ρ1.length ∧
      H' D = some (.lst acc) ∧ RepL G B' acc ps ∧ B' D = none ∧ (∀ j, D ∉ L' j) ∧
      wpR (fun _ => False) (Ice.compL own tg c (Ice.elOf el) F (xs.drop i) ρ') (fun (qs, ρ2) => wpR (fun _ => False) ((Ice.finL (ps ++ qs)).bind fun v => .ok (v, true, Ice.unlock l (Ice.restS own ρ1 ρ2)))
        (fun (p, m, ρ1) => ∀ v B2 H2 L2, Aft G B H ρ L σ B2 H2 ρ1 L2 σ → Res G B2 H H2 v p m → Nb L2 v m → Q v H2)),
      ⟨_, rfl, Nat.zero_le _, B1, ρ1, _, [], [], A1, rfl, upd_same, .nil, Db, fun j hj => Dl j (offL_mem hj).2, h⟩, ?_⟩
    rintro i m H' ⟨rfl, hi, B', ρ', L', acc, ps, A, hl, eD, rl, nD, nl, h⟩
    by_cases hlt : i < xs.length
    · have hx : xs[i]? = some xs[i] := List.getElem?_eq_getElem hlt
      rw [List.drop_eq_getElem_cons hlt] at h
      -- the walk goes on from the unwiped state too
      have A' := block_back S1 pl A hl
      have wk' := (wk σ B' H' _ _ σ A' i).1 _ hx
      obtain ⟨go, yl⟩ := wk'
      refine .inr ⟨go, _, fun H2 w => ⟨xs.length - (i + 1), by omega, w⟩, fun x H'' hy => ?_⟩
      obtain ⟨B'', e1, s1, r1⟩ := yl x H'' hy
      have A2 := A.trans (Aft.ext0 A.st e1 s1)
      refine ⟨B'', Ice.wipeS own ρ', L', xs[i], A2.st, r1, (show wpR (fun _ => False) ((tg xs[i] (Ice.wipeS own ρ')).bind _) _ from h).bind.mono (fun _ h => h) ?_⟩
      intro ρ2 _ h σ2 B2 H2 L2 sb A3
      have hwp := wipe_but sb hw
      refine ⟨hwp, B2, ρ2, L2, A3.st, (show wpR (fun _ => False) ((Ice.cond? c F ρ2).bind _) _ from h).bind.mono (fun _ h => h) ?_⟩
      rintro ⟨k, ρ3⟩ _ h B3 H3 L3 A4
      have A5 := (A2.trans A3).trans A4
      -- the new list stands
      have eD3 : H3 D = some (.lst acc) ∧ B3 D = none ∧ (∀ j, D ∉ L3 j) := by
        have AA := (Aft.ext0 A.st e1 s1).trans (A3.trans A4)
        refine ⟨AA.ext.hh D _ eD fun ⟨j, hj, _⟩ => nl j hj, ?_, fun j hj => ?_⟩
        · cases q : B3 D with
          | none => rfl
          | some o =>
            rcases AA.ext.nw D o q nD with z | ⟨j, z⟩
            · rw [eD] at z; cases z
            · exact absurd z (nl j)
        · rcases AA.own j D hj with ⟨z, _⟩ | ⟨z, _⟩
          · exact nl j z
          · rw [eD] at z; cases z
      have len3 : ρ3.length = ρ1.length := by
        rw [← A5.st.len, sb.2, wipe_length]
        exact S1.len
      have rl3 : RepL G B3 acc ps := rl.mono ((e1.bb.trans A3.ext.bb).trans A4.ext.bb)
      cases k with
      | false =>
        rw [if_neg Bool.false_ne_true]
        have A6 := A5.wipe kds
        rw [hwp] at A6
        exact ⟨rfl, hlt, B3, ρ3, _, acc, ps, A6, len3, eD3.1, rl3, eD3.2.1, fun j hj => eD3.2.2 j (offL_mem hj).2, h⟩
      | true =>
        rw [if_pos rfl]
        refine ⟨B3, ρ3, L3, A4.st, ?_⟩
        have h := (show wpR (fun _ => False) (((el F ρ3).bind fun (p, _, ρ1) => Ice.R.ok ([p], ρ1)).bind fun (ps, ρ3) => (Ice.compL own tg c (Ice.elOf el) F (xs.drop (i + 1)) ρ3).bind fun (qs, ρ4) => .ok (ps ++ qs, ρ4)) _ from h).bind.bind
        refine h.mono (fun _ h => h) ?_
        rintro ⟨p, m, ρ4⟩ _ h y B4 H4 L4 A7 r nb
        obtain ⟨B5, A8, r5⟩ := A7.share r nb
        have A9 := A5.trans A8
        have eD4 : H4 D = some (.lst acc) ∧ B5 D = none ∧ (∀ j, D ∉ L4 j) := by
          refine ⟨A8.ext.hh D _ eD3.1 fun ⟨j, hj, _⟩ => eD3.2.2 j hj, ?_, fun j hj => ?_⟩
          · cases q : B5 D with
            | none => rfl
            | some o =>
              rcases A8.ext.nw D o q eD3.2.1 with z | ⟨j, z⟩
              · rw [eD3.1] at z; cases z
              · exact absurd z (eD3.2.2 j)
          · rcases A8.own j D hj with ⟨z, _⟩ | ⟨z, _⟩
            · exact eD3.2.2 j z
            · rw [eD3.1] at z; cases z
        have rl5 := rl3.mono A8.ext.bb
        have h := (show wpR (fun _ => False) ((Ice.compL own tg c (Ice.elOf el) F (xs.drop (i + 1)) ρ4).bind fun (qs, ρ4) => .ok ([p] ++ qs, ρ4)) _ from h).bind
        have hz : acc.length < sizeLine := by
          obtain ⟨⟨qs, ρ5⟩, _, h⟩ := h.got fun c e => by rw [e] at h; exact h.elim
          have h : wpR (fun _ => False) ((if (ps ++ ([p] ++ qs)).length ≤ Ice.LIM then Ice.R.ok (PV.lst (ps ++ ([p] ++ qs))) else .stuck).bind fun v => .ok (v, true, Ice.unlock l (Ice.restS own ρ1 ρ5))) _ := h
          split at h
          · rename_i hl
            rw [List.length_append, List.length_append, List.length_singleton] at hl
            rw [rl.length, sizeLine_lim]
            omega
          · exact h.elim
        refine ⟨acc, eD4.1, hz, rfl, hlt, B5, ρ4, offL own L4, acc ++ [y], ps ++ [p], ?_, ?_, upd_same, rl5.append (.cons r5 .nil), eD4.2.1, fun j hj => eD4.2.2 j (offL_mem hj).2, ?_⟩
        · have A10 := A9.wipe kds
          rw [hwp] at A10
          -- the list is written: it is nobody's
          refine ⟨?_, ?_, fun j a hj => A10.own j a hj, A10.par⟩
          · refine ⟨A10.st.len, fun b o e => ?_, fun j => ?_, A10.st.dist⟩
            · have hb : b ≠ D := fun z => by rw [z, eD4.2.1] at e; cases e
              rw [upd_ne hb]; exact A10.st.sub b o e
            · refine (A10.st.slot j).mono (Sub.refl _) (fun a ha => (A10.st.own ⟨j, ha⟩).1) fun a ha o ho => ?_
              have hb : a ≠ D := fun z => eD4.2.2 j (z ▸ (offL_mem ha).2)
              rw [upd_ne hb]; exact ho
          · refine ⟨A10.ext.bb, fun b o e nw => ?_, A10.ext.nw, fun b e => A10.ext.dm b (upd_dm b e)⟩
            rw [upd_ne (ne_of_none e hD)]
            exact A10.ext.hh b o e nw
        · rw [← A9.st.len, sb.2, wipe_length]
          exact S1.len
        · refine h.mono (fun _ h => h) ?_
          rintro ⟨qs, ρ5⟩ _ h
          have h : wpR (fun _ => False) ((Ice.finL (ps ++ ([p] ++ qs))).bind fun v => .ok (v, true, Ice.unlock l (Ice.restS own ρ1 ρ5))) _ := h
          rw [← List.append_assoc] at h
          exact h
    · have e : i = xs.length := by omega
      subst e
      rw [List.drop_length] at h
      have A' := block_back S1 pl A hl
      have A3 := unlock_aft lk A'
      have AF := A0.trans A3
      refine .inl ⟨(wk σ B' H' _ _ σ A' _).2 (Nat.le_refl _), ?_⟩
      have h : wpR (fun _ => False) ((Ice.finL (ps ++ [])).bind fun v => .ok (v, true, Ice.unlock l (Ice.restS own ρ1 ρ'))) _ := h
      rw [List.append_nil] at h
      unfold Ice.finL at h
      split at h
      · exact (show ∀ v B2 H2 L2, Aft G B H ρ L σ B2 H2 (Ice.unlock l (Ice.restS own ρ1 ρ')) L2 σ → Res G B2 H H2 v (.lst ps) true → Nb L2 v true → Q v H2 from h) (.ref D) B' H' _ AF (.new nD (A0.ext.dm D hD) (.lst eD rl)) fun _ a ea j hj => by
          cases ea
          exact nl j (offL_mem hj).2
      · exact h.elim
  · exact h.elim
end
end IceS
end
section
set_option Elab.async false
set_option linter.all false
set_option maxRecDepth 100000
/-! Certified code: list comprehensions, checked. -/
namespace IceS
open PySem hiding Env
open PySem.Spec PyProof.Rows L2
open Ice (PV Slot Env FE Ev Op Opd Sx Tg gS sS)

def blkB (N : List Str) (sc scope : Scope) (own : List Nat) : Bool :=
  (match scope.kind with | .function => true | _ => false) && (scope.names.all fun y => match lkS y.1 scope.names with | some k => decide (k = y.2) | none => false) && (own.all fun i => Nat.blt i N.length) &&
    (scope.names.all fun y => match y.2 with
      | .free => (match lkS y.1 sc.names with | some .cell => true | some .free => true | _ => false)
      | .local => (own.any fun i => match N[i]? with | some z => seq y.1 z | none => false) || !(N.any (seq y.1))
      | .cell => (own.any fun i => match N[i]? with | some z => seq y.1 z | none => false) || !(N.any (seq y.1))
      | _ => true)
theorem blkB_ok {N : List Str} {sc scope : Scope} {own : List Nat} (h : blkB N sc scope own = true) : BlkOk N sc scope (ownN N own) := by
  unfold blkB at h
  rw [Bool.and_eq_true, Bool.and_eq_true, Bool.and_eq_true] at h
  obtain ⟨⟨⟨h1, h2⟩, h3⟩, h4⟩ := h
  have mine : ∀ (y : Str), ((own.any fun i => match N[i]? with | some z => seq y z | none => false) || !(N.any (seq y))) = true → y ∈ (ownN N own).map (·.1) ∨ y ∉ N := fun y q => by
    rw [Bool.or_eq_true] at q
    rcases q with q | q
    · obtain ⟨i, hi, e⟩ := List.any_eq_true.mp q
      split at e
      · rename_i z hz
        left
        refine List.mem_map.mpr ⟨((N[i]?).getD "", i), List.mem_map.mpr ⟨i, hi, rfl⟩, ?_⟩
        show (N[i]?).getD "" = y
        rw [hz, seq_eq e]
        rfl
      · cases e
    · right
      intro z
      have := not_tt q
      rw [List.any_eq_true.mpr ⟨y, z, seq_self y⟩] at this
      cases this
  refine ⟨?_, fun y hy => ?_, fun p hp => ?_, fun y hy e => ?_, fun y hy e => ?_⟩
  · split at h1
    · assumption
    · cases h1
  · have q := List.all_eq_true.mp h2 y hy
    rw [← lkS_lookup]
    split at q
    · rename_i k hk
      rw [hk, of_decide_eq_true q]
    · cases q
  · obtain ⟨i, hi, rfl⟩ := List.mem_map.mp hp
    have q : i < N.length := Nat.blt_eq.mp (List.all_eq_true.mp h3 i hi)
    show N[i]? = some ((N[i]?).getD "")
    rw [List.getElem?_eq_getElem q]
    rfl
  · have q := List.all_eq_true.mp h4 y hy
    simp only [e] at q
    rw [← lkS_lookup]
    split at q
    · exact .inl (by assumption)
    · exact .inr (by assumption)
    · cases q
  · have q := List.all_eq_true.mp h4 y hy
    rcases e with e | e
    · simp only [e] at q
      exact mine _ q
    · simp only [e] at q
      exact mine _ q
def subN (ws own : List Nat) : Bool := ws.all fun i => own.any fun j => Nat.beq i j
theorem subN_ok {ws own : List Nat} (h : subN ws own = true) : ∀ i ∈ ws, i ∈ own := fun i hi => by
  obtain ⟨j, hj, e⟩ := List.any_eq_true.mp (List.all_eq_true.mp h i hi)
  rw [Nat.eq_of_beq_eq_true e]; exact hj
/-- [el for tg in it if c] -/
def kLC (own : List Nat) (it : KI) (tg : KG) (c : Option KE) (el : KE) : KE where
  d := Ice.eLC own it.d tg.d (c.map (·.d)) el.d
  chk C e := match e with | .ListComp elt [⟨t, i, ifs, 0⟩] scope _ => it.chk C t i && blkB C.N C.sc scope own && tg.chk (blkCtx C scope) t && chkC c (blkCtx C scope) ifs && el.chk (blkCtx C scope) elt && subN tg.ws own | _ => false
  ok {G X n C F W} h e hc := by
    split at hc
    · rename_i elt t i ifs scope pos
      simp only [Bool.and_eq_true] at hc
      obtain ⟨⟨⟨⟨⟨h1, h2⟩, h3⟩, h4⟩, h5⟩, h6⟩ := hc
      have ok := blkB_ok h2
      rw [← h.N, ← h.sc] at ok
      refine both ((pe_lc h.calm h.nd (it.ok h h1).1 ok (fun s H D cl fp => tg.ok (h.blk ok.uniq s H D cl fp) h3) (fun s H D cl fp => pts_ok (h.blk ok.uniq s H D cl fp) h4) (fun s H D cl fp => (el.ok (h.blk ok.uniq s H D cl fp) h5).1) ((it.ok h h1).2 _)).imp ?_) rfl
      rw [ownN_ix]
      exact imp_lc (subN_ok h6)
    · cases hc
/-- x = [el for tg in it if c], on one line -/
def mAsgL (i : Nat) (own : List Nat) (it : KI) (tg : KG) (c : Option KE) (el : KE) : KS where
  d := Ice.sAsg i (Ice.eLC own it.d tg.d (c.map (·.d)) el.d)
  chk C s := match s with
    | .Assign [.Name x py] (.ListComp elt [⟨t, j, ifs, 0⟩] scope pos) _ => isLoc C i x && (match C.sc.kind with | .function => true | _ => false) && Nat.beq py.line pos.line && !(scope.names.any fun y => seq y.1 x && (match y.2 with | .local => true | .cell => true | _ => false)) &&
        it.chk C t j && blkB C.N C.sc scope own && tg.chk (blkCtx C scope) t && chkC c (blkCtx C scope) ifs && el.chk (blkCtx C scope) elt && subN tg.ws own
    | _ => false
  ok {G X n C F W} h st hc := by
    split at hc
    · rename_i x py elt t j ifs scope pos spos
      simp only [Bool.and_eq_true] at hc
      obtain ⟨⟨⟨⟨⟨⟨⟨⟨⟨h01, h02⟩, h03⟩, h04⟩, h1⟩, h2⟩, h3⟩, h4⟩, h5⟩, h6⟩ := hc
      have ok := blkB_ok h2
      rw [← h.N, ← h.sc] at ok
      obtain ⟨e1, e2⟩ := isLoc_ok h h01
      have hk : X.env.scope.kind = .function := by
        rw [h.sc]
        split at h02
        · assumption
        · cases h02
      have ha : (scope.names.any fun (n, k) => n == x && (k == .local || k == .cell)) = false := by
        refine Bool.eq_false_iff.mpr fun z => ?_
        obtain ⟨⟨y, k⟩, hy, e⟩ := List.any_eq_true.mp z
        have e : (y == x && (k == .local || k == .cell)) = true := e
        rw [Bool.and_eq_true] at e
        have q := not_tt h04
        rw [List.any_eq_true.mpr ⟨(y, k), hy, ?_⟩] at q
        · cases q
        · show (seq y x && _) = true
          have : y = x := by simpa using e.1
          subst this
          rw [seq_self]
          cases k <;> first | rfl | exact absurd e.2 (by decide)
      have sw := sw_true (elt := elt) (gs := [⟨t, j, ifs, 0⟩]) (pos := pos) (py := py) (y := x) (l := spos.line) (env := X.env) hk e2 (by rw [Nat.eq_of_beq_eq_true h03]; exact beq_self_eq_true _) ha
      refine (ps_setLc h.calm h.nd e1 e2 sw (it.ok h h1).1 ok (fun s H D cl fp => tg.ok (h.blk ok.uniq s H D cl fp) h3) (fun s H D cl fp => pts_ok (h.blk ok.uniq s H D cl fp) h4) (fun s H D cl fp => (el.ok (h.blk ok.uniq s H D cl fp) h5).1) ((it.ok h h1).2 _)).imp ?_
      intro D σ H q
      have q := imp_asg D σ H q
      show tLc _ _ _ _ ((ownN X.N own).map (·.2)) σ H _
      rw [ownN_ix]
      exact imp_lc (subN_ok h6) σ H _ q
    · cases hc
end IceS
end
section
set_option Elab.async false
set_option linter.all false
set_option maxRecDepth 100000
/-! Certified code: several names at once. -/
namespace IceS
open PySem hiding Env
open PySem.Spec PyProof.Rows L2
open Ice (PV Slot Env FE Ev Op Opd Sx Tg gS sS)

/-! ### several slots written -/
def setLR : L2.St → List (Nat × V) → L2.St
  | σ, [] => σ
  | σ, (i, v) :: r => setLR (σ.set i (some v)) r
theorem setLR_len {l : List (Nat × V)} : ∀ {σ : L2.St}, (setLR σ l).length = σ.length := by
  induction l with
  | nil => intro σ; rfl
  | cons p l ih => intro σ; obtain ⟨i, v⟩ := p; show (setLR (σ.set i (some v)) l).length = _; rw [ih, List.length_set]
theorem setLR_out {l : List (Nat × V)} {j : Nat} : ∀ {σ : L2.St}, j ∉ l.map (·.1) → (setLR σ l)[j]? = σ[j]? := by
  induction l with
  | nil => intro σ _; rfl
  | cons p l ih =>
    intro σ h
    obtain ⟨i, v⟩ := p
    rw [List.map_cons, List.mem_cons, not_or] at h
    show (setLR (σ.set i (some v)) l)[j]? = _
    rw [ih h.2, List.getElem?_set_ne (fun z => h.1 z.symm)]
theorem setLR_in {l : List (Nat × V)} {j : Nat} {v : V} : ∀ {σ : L2.St}, (l.map (·.1)).Nodup → (j, v) ∈ l → j < σ.length → (setLR σ l)[j]? = some (some v) := by
  induction l with
  | nil => intro σ _ h; cases h
  | cons p l ih =>
    intro σ nd h hl
    obtain ⟨i, u⟩ := p
    rw [List.map_cons, List.nodup_cons] at nd
    show (setLR (σ.set i (some u)) l)[j]? = _
    rcases List.mem_cons.mp h with e | h
    · cases e
      rw [setLR_out nd.1, List.getElem?_set_self hl]
    · exact ih nd.2 h (by rw [List.length_set]; exact hl)
theorem setLR_rev {l : List (Nat × V)} {σ : L2.St} (nd : (l.map (·.1)).Nodup) : setLR σ l.reverse = setLR σ l := by
  refine List.ext_getElem? fun j => ?_
  by_cases hj : j ∈ l.map (·.1)
  · by_cases hl : j < σ.length
    · obtain ⟨⟨i, v⟩, hm, e⟩ := List.mem_map.mp hj
      have e : i = j := e
      subst e
      rw [setLR_in nd hm hl, setLR_in (by rw [List.map_reverse]; exact (List.reverse_perm _).nodup_iff.mpr nd) (List.mem_reverse.mpr hm) hl]
    · rw [List.getElem?_eq_none (by rw [setLR_len]; omega), List.getElem?_eq_none (by rw [setLR_len]; omega)]
  · rw [setLR_out hj, setLR_out (by rw [List.map_reverse]; exact fun z => hj (List.mem_reverse.mp z))]

/-! ### fresh items -/
def Apart (B : Hp) (v : V) (m : Bool) (vs : List V) (ps : List (PV × Bool)) : Prop := m = true → ∀ (k : Nat) v' p', vs[k]? = some v' → ps[k]? = some (p', true) → v' = v → ∃ a, v = .ref a ∧ B a ≠ none
inductive FrL (G : Cfg) (B' H0 H' : Hp) (L' : Nat → List Addr) : List V → List (PV × Bool) → Prop
  | nil : FrL G B' H0 H' L' [] []
  | cons {v : V} {p : PV} {m : Bool} {vs : List V} {ps : List (PV × Bool)} : Res G B' H0 H' v p m → Nb L' v m → Apart B' v m vs ps → FrL G B' H0 H' L' vs ps → FrL G B' H0 H' L' (v :: vs) ((p, m) :: ps)
def tFs (G : Cfg) (F : FE) (W : Nat → Prop) (ds : List Ev) : TA := fun σ H Q => ∃ B ρ L, StR G B σ H ρ L ∧ wpR W (Ice.evsF ds F ρ) fun (ps, ρ1) => ∀ vs B1 H1 L1, Aft G B H ρ L σ B1 H1 ρ1 L1 σ → FrL G B1 H H1 L1 vs ps → Q vs H1
section
variable {G : Cfg} {X : Cx} {n : Nat} {C : Ctx} {F : FE} {W : Nat → Prop}
theorem FrL.length {B' H0 H' : Hp} {L' : Nat → List Addr} {vs : List V} {ps : List (PV × Bool)} (h : FrL G B' H0 H' L' vs ps) : vs.length = ps.length := by
  induction h with
  | nil => rfl
  | cons _ _ _ _ ih => rw [List.length_cons, List.length_cons, ih]
theorem FrL.new {B' H0 H' : Hp} {L' : Nat → List Addr} {vs : List V} {ps : List (PV × Bool)} (h : FrL G B' H0 H' L' vs ps) : ∀ (k : Nat) v p, vs[k]? = some v → ps[k]? = some (p, true) → ∃ a, v = .ref a ∧ (H0 a = none ∨ B' a ≠ none) := by
  induction h with
  | nil => intro k v p h; simp at h
  | cons r nb ap t ih =>
    intro k v' p' h1 h2
    cases k with
    | zero =>
      simp at h1 h2
      obtain ⟨rfl, rfl⟩ := h2
      subst h1
      cases r with
      | new _ h _ => exact ⟨_, rfl, .inl h⟩
      | xt h _ _ => exact ⟨_, rfl, .inr (by rw [h]; exact fun z => nomatch z)⟩
    | succ k => exact ih k v' p' (by simpa using h1) (by simpa using h2)
theorem FrL.back {B' H0 H1 H' : Hp} {L' : Nat → List Addr} {vs : List V} {ps : List (PV × Bool)} (h : FrL G B' H1 H' L' vs ps) (k : ∀ a, H1 a = none → H0 a = none) : FrL G B' H0 H' L' vs ps := by
  induction h with
  | nil => exact .nil
  | cons r nb ap t ih =>
    refine .cons ?_ nb ap ih
    cases r with
    | old r => exact .old r
    | new h1 h2 h3 => exact .new h1 (k _ h2) h3
    | xt h1 h2 h3 => exact .xt h1 h2 h3
theorem pa_fr (h : CtxOk G X n C F W) : ∀ {ks : List KE} {es : List Expr}, chkL ks C es = true → PA X es (tFs G F W (ks.map (·.d)))
  | [], [], _ => pa_nil.imp (by
    rintro σ H Q ⟨B, ρ, L, S, q⟩
    exact (show ∀ vs B1 H1 L1, Aft G B H ρ L σ B1 H1 ρ L1 σ → FrL G B1 H H1 L1 vs [] → Q vs H1 from q) [] B H L (Aft.refl S) .nil)
  | k :: ks, e :: es, hc => by
    unfold chkL at hc
    rw [Bool.and_eq_true, Bool.and_eq_true] at hc
    refine (pa_cons (k.ok h hc.1.1).1 (pa_fr h hc.2) (star_cons hc.1.2 _ _)).imp ?_
    rintro σ H Q ⟨B, ρ, L, S, q⟩
    refine ⟨B, ρ, L, S, (show wpR W ((k.d F ρ).bind _) _ from q).bind.mono (fun _ h => h) ?_⟩
    rintro ⟨p, m, ρ1⟩ _ q v B1 H1 L1 A r nb
    refine ⟨B1, ρ1, L1, A.st, (show wpR W ((Ice.evsF (ks.map (·.d)) F ρ1).bind _) _ from q).bind.mono (fun _ h => h) ?_⟩
    rintro ⟨ps, ρ2⟩ _ q vs B3 H3 L3 A3 rl
    refine q (v :: vs) B3 H3 L3 (A.trans A3) (.cons ?_ ?_ ?_ (rl.back A.ext.dm))
    · cases r with
      | old r => exact .old (r.mono A3.ext.bb)
      | @new a _ h1 h2 h3 =>
        have na : ∀ i, a ∉ L1 i := nb rfl a rfl
        obtain ⟨o, ho⟩ := h3.there
        refine .new ?_ h2 (h3.mono A3.ext.bb fun o' e => A3.ext.hh a o' e fun ⟨j, hj, _⟩ => na j hj)
        cases z : B3 a with
        | none => rfl
        | some o' =>
          rcases A3.ext.nw a o' z h1 with w | ⟨j, w⟩
          · rw [ho] at w; cases w
          · exact absurd w (na j)
      | xt h1 h2 h3 => exact .xt (A3.ext.bb _ _ h1) h2 (h3.mono A3.ext.bb)
    · intro hm a ea i hi
      subst ea
      cases r with
      | old _ => cases hm
      | new h1 h2 h3 =>
        have na := nb rfl a rfl
        obtain ⟨o, ho⟩ := h3.there
        rcases A3.own i a hi with ⟨w, _⟩ | ⟨w, _⟩
        · exact na i w
        · rw [ho] at w; cases w
      | xt h1 h2 h3 =>
        obtain ⟨w, _⟩ := A3.st.own ⟨i, hi⟩
        rw [A3.ext.bb _ _ h1] at w; cases w
    · intro hm k' v' p' h1 h2 ev
      obtain ⟨a, ea, na⟩ := rl.new k' v' p' h1 h2
      subst ev
      cases r with
      | old _ => cases hm
      | new q1 q2 q3 =>
        cases ea
        rcases na with na | na
        · obtain ⟨o, ho⟩ := q3.there
          rw [ho] at na; cases na
        · exact ⟨_, rfl, na⟩
      | xt q1 q2 q3 => exact ⟨_, rfl, by rw [A3.ext.bb _ _ q1]; exact fun z => nomatch z⟩
theorem asgs_nx {c : Nat} : ∀ {is : List Nat} {ps : List (PV × Bool)} {ρ : Env}, Ice.asgs is ps ρ ≠ .exn c
  | [], [], ρ, h => by cases h
  | [], _ :: _, ρ, h => by cases h
  | _ :: _, [], ρ, h => by cases h
  | i :: is, (p, m) :: ps, ρ, h => by
    have h : (Ice.asg i p m ρ).bind _ = _ := h
    cases e : Ice.asg i p m ρ with
    | ok ρ1 => rw [e] at h; exact asgs_nx (is := is) (ps := ps) h
    | exn c' => exact asg_nx e
    | stuck => rw [e] at h; cases h
theorem Aft.asgs {B H B1 H1 : Hp} {ρ : Env} {L : Nat → List Addr} {σ : L2.St} : ∀ {is : List Nat} {vs : List V} {ps : List (PV × Bool)} {ρ1 ρ2 : Env} {L1 : Nat → List Addr} {σ1 : L2.St},
    Aft G B H ρ L σ B1 H1 ρ1 L1 σ1 → FrL G B1 H H1 L1 vs ps → Ice.asgs is ps ρ1 = .ok ρ2 → ∃ L2, Aft G B H ρ L σ B1 H1 ρ2 L2 (setLR σ1 (is.zip vs))
  | [], _, _, ρ1, ρ2, L1, σ1, A, .nil, h => by cases h; exact ⟨L1, A⟩
  | [], _, _, ρ1, ρ2, L1, σ1, A, .cons _ _ _ _, h => by cases h
  | _ :: _, _, _, ρ1, ρ2, L1, σ1, A, .nil, h => by cases h
  | i :: is, _, _, ρ1, ρ2, L1, σ1, A, .cons (v := v) (p := p) (m := m) (vs := vs) (ps := ps) r nb ap t, h => by
    have h : (Ice.asg i p m ρ1).bind _ = _ := h
    cases e : Ice.asg i p m ρ1 with
    | exn c' => exact absurd e asg_nx
    | stuck => rw [e] at h; cases h
    | ok ρ3 =>
      rw [e] at h
      -- which slots hold what behind the first store
      have key : ∃ L2, Aft G B H ρ L σ B1 H1 ρ3 L2 (σ1.set i (some v)) ∧ ∀ j a, a ∈ L2 j → a ∈ L1 j ∨ (m = true ∧ v = .ref a ∧ B1 a = none) := by
        obtain ⟨k3, rfl⟩ := asg_ok e
        by_cases hi : i < ρ1.length
        · have hi' : i < σ1.length := by rw [A.st.len]; exact hi
          cases r with
          | old r =>
            refine ⟨_, A.put (l := []) hi (by simp) (fun j hj => gσ_ne (fun z => hj z.symm)) (by rw [gσ_same hi']; exact .val r) (fun a h => by cases h) k3 (by simp [kd]) (fun a h => by cases h), fun j a ha => ?_⟩
            by_cases hj : j = i
            · subst hj; rw [putL_same] at ha; cases ha
            · rw [putL_ne hj] at ha; exact .inl ha
          | @new a _ h1 h2 h3 =>
            have fp : Ice.frS p = .own p := by cases h3 <;> rfl
            rw [if_pos rfl, fp]
            refine ⟨_, A.put (l := [a]) hi (by simp) (fun j hj => gσ_ne (fun z => hj z.symm)) (by rw [gσ_same hi']; exact .own h1 h3) (fun b hb j _ => ?_) k3 (by simp [kd]) (fun b hb => ?_), fun j b hb => ?_⟩
            · rw [List.mem_singleton.mp hb]; exact nb rfl a rfl j
            · rw [List.mem_singleton.mp hb]; exact .inl h2
            · by_cases hj : j = i
              · subst hj; rw [putL_same] at hb; rw [List.mem_singleton.mp hb]; exact .inr ⟨rfl, rfl, h1⟩
              · rw [putL_ne hj] at hb; exact .inl hb
          | xt h1 h2 h3 =>
            refine ⟨_, A.put (l := []) hi (by simp) (fun j hj => gσ_ne (fun z => hj z.symm)) (by rw [gσ_same hi']; exact .xt h1 h2 h3) (fun a h => by cases h) k3 (by simp [kd, Ice.frS]) (fun a h => by cases h), fun j a ha => ?_⟩
            by_cases hj : j = i
            · subst hj; rw [putL_same] at ha; cases ha
            · rw [putL_ne hj] at ha; exact .inl ha
        · have hi' : ¬ i < σ1.length := by rw [A.st.len]; exact hi
          rw [sS_out hi, List.set_eq_of_length_le (by omega)]
          exact ⟨L1, A, fun j a h => .inl h⟩
      obtain ⟨L2, A2, hL⟩ := key
      -- the others are nobody's still
      have go : ∀ {us : List V} {qs : List (PV × Bool)}, FrL G B1 H H1 L1 us qs → (∀ (k : Nat) v' p', us[k]? = some v' → qs[k]? = some (p', true) → m = true → v' = v → ∃ a, v = .ref a ∧ B1 a ≠ none) → FrL G B1 H H1 L2 us qs := by
        intro us qs q
        induction q with
        | nil => intro _; exact .nil
        | cons r' nb' ap' t' ih =>
          intro hne
          refine .cons r' (fun hm a ea j hj => ?_) ap' (ih fun k v' p' h1 h2 => hne (k + 1) v' p' (by simpa using h1) (by simpa using h2))
          rcases hL j a hj with z | ⟨z1, z2, z3⟩
          · exact nb' hm a ea j z
          · subst ea hm
            obtain ⟨a', e1, e2⟩ := hne 0 _ _ rfl rfl z1 z2.symm
            rw [z2] at e1
            cases e1
            exact e2 z3
      have q := Aft.asgs (is := is) (vs := vs) (ps := ps) A2 (go t fun k v' p' h1 h2 hm => ap hm k v' p' h1 h2) h
      exact q

/-! ### a, b = x, y -/
theorem bind_all {pins : List (Addr × Obj)} {E : Value → Shared → Prop} {H : Hp} (hN : X.N.Nodup) : ∀ {is : List Nat} {xs : List Str} {vs : List V} {us : List Value} {σ : L2.St} {s : Shared} {Q : Unit → Shared → Prop},
    Inv X pins σ H s → Paired (fun i x => X.N[i]? = some x ∧ X.env.scope.names.lookup x = some .local) is xs → Vals vs us → is.length = vs.length → (∀ s', Inv X pins (setLR σ (is.zip vs)) H s' → Q () s') →
    wpAny (model X.prog X.w) X.A (assignInOrder (xs.map fun x => fun v => bindName X.env x v) us) Q E s
  | _, _, _, _, σ, s, Q, I, .nil, r, hl, h => by
    cases r with
    | nil => exact assignInOrder_nil (h s I)
    | cons _ _ => cases hl
  | _, _, _, _, σ, s, Q, I, .cons (a := i) (b := x) p t, r, hl, h => by
    cases r with
    | nil => cases hl
    | cons r rr =>
      exact assignInOrder_cons (wpAny_bindName (store_ok I hN p.1 (.inl p.2) r (fun s2 I2 => bind_all hN I2 t rr (by simpa using hl) h) (.inr p.2)))
theorem zip_rev {α β : Type} : ∀ {l : List α} {m : List β}, l.length = m.length → l.reverse.zip m.reverse = (l.zip m).reverse
  | [], [], _ => rfl
  | a :: l, b :: m, h => by
    have h : l.length = m.length := by simpa using h
    rw [List.reverse_cons, List.reverse_cons, List.zip_append (by rw [List.length_reverse, List.length_reverse, h]), zip_rev h]
    show _ = ((a, b) :: l.zip m).reverse
    rw [List.reverse_cons]
    rfl
theorem paired_rev {α β : Type} {R : α → β → Prop} : ∀ {l : List α} {m : List β}, Paired R l m → Paired R l.reverse m.reverse
  | _, _, .nil => .nil
  | _, _, .cons a t => by
    rw [List.reverse_cons, List.reverse_cons]
    have app : ∀ {l l' : List α} {m m' : List β}, Paired R l m → Paired R l' m' → Paired R (l ++ l') (m ++ m') := by
      intro l l' m m' p q
      induction p with
      | nil => exact q
      | cons a _ ih => exact .cons a ih
    exact app (paired_rev t) (.cons a .nil)
theorem ps_parN {is : List Nat} {xs : List Str} {ts es : List Expr} {ta : TA} {pos pt pt2 : Pos} {kt k2} (hc : X.calm = true) (hN : X.N.Nodup) (hi : Paired (fun i x => X.N[i]? = some x ∧ X.env.scope.names.lookup x = some .local) is xs) (nd : is.Nodup) (ha : PA X es ta) (hl : xs.length ≤ 1000)
    (hw : swappedStores [.Tuple ts kt pt] (.Tuple es k2 pt2) X.env = pure (some xs)) :
    PS X (.Assign [.Tuple ts kt pt] (.Tuple es k2 pt2) pos) (fun D σ H => ta σ H fun vs H1 => is.length = vs.length ∧ D.nx (setLR σ (is.zip vs)) H1) := by
  refine ⟨fun pins s σ H D I h => ?_⟩
  rw [exec_Assign_arm]
  refine wpAny_bind (wpAny_standAt ?_)
  rw [show swapsWithSole [.Tuple ts kt pt] (.Tuple es k2 pt2) pos.line X.env = pure false from rfl]
  refine wpAny_bind (wpAny_pure ?_)
  rw [if_neg (by decide)]
  refine wpAny_bind (Tuple_ (thn (ha.run _ pins s σ H _ I h) fun us s1 ⟨vs, H1, I1, r1, hlen, q1⟩ => ?_))
  have lx : is.length = xs.length := hi.length
  have lu : us.length = xs.length := by rw [← r1.length, ← hlen, lx]
  refine wpAny_newObj_type ?_ (by show us.toArray.size ≤ sizeLine; rw [List.size_toArray, lu]; exact small_line hl)
  have I2 : Inv X pins σ H1 { s1 with heap := s1.heap.push { cls := .type "tuple", data := .seq us.toArray } } := I1.kept (t' := s1.toks) fun b o e => Heap.get?_push_of_some _ e
  rw [hw]
  refine wpAny_bind (wpAny_pure ?_)
  show wpAny (model X.prog X.w) X.A (do rule "assign.swapped-stores"; let items ← unpackItems (.ref s1.heap.objs.size) xs.length none; assignInOrder (xs.reverse.map fun x => bindName X.env x) items.reverse; pure Flow.next) _ _ _
  have lu' : xs.length = us.toArray.size := by rw [List.size_toArray, lu]
  rw [lu']
  refine wpAny_bind (wpAny_rule (wpAny_bind (unpackItems_tuple (items := us.toArray) (I.ok.hd hc) (IsTup.new s1.heap _) fun h' hx' => ?_)))
  have I3 := I2.kept (h' := h') (t' := s1.toks) fun b o e => hx' b o (Nat.ne_of_lt (Heap.lt_size e)) e
  refine wpAny_bind ?_
  have rr : Vals vs.reverse us.reverse := Vals.reverse r1
  show wpAny _ _ (assignInOrder (xs.reverse.map fun x => fun v => bindName X.env x v) us.toArray.toList.reverse) _ _ _
  rw [show us.toArray.toList = us from rfl]
  refine bind_all hN I3 (paired_rev hi) rr (by rw [List.length_reverse, List.length_reverse, hlen]) fun s' I' => wpAny_pure ?_
  have e : is.reverse.zip vs.reverse = (is.zip vs).reverse := zip_rev hlen
  rw [e, setLR_rev (by rw [List.map_fst_zip (by omega)]; exact nd)] at I'
  exact ⟨_, H1, I', q1⟩
end

/-- the names of the stores when they are swapped; none: unknown -/
def swN (C : Ctx) (ts : List Expr) : List Str := ts.filterMap fun
  | .Name id pos => if (decide (lkS id C.sc.names = some .local) && pos.line == (ts.head?.map (·.pos.line)).getD 0) = true then some id else none
  | _ => none
def anyStar (vs : List Expr) : Bool := vs.any fun | .Starred .. => true | _ => false
def swF (C : Ctx) (ts vs : List Expr) : Option (Option (List Str)) :=
  if (!(ts.length == 2 || ts.length == 3) || vs.length != ts.length || decide (C.sc.kind ≠ .function)) = true then some none
  else if anyStar vs = true then some none
  else if ((swN C ts).length != ts.length || (swN C ts).eraseDups.length != (swN C ts).length) = true then some none
  else if vs.all (foldedForSure 8) = true then some none
  else if vs.all (constantsAlone 8) = true then none
  else some (some (swN C ts))
section
variable {G : Cfg} {X : Cx} {n : Nat} {C : Ctx} {F : FE} {W : Nat → Prop}
theorem swF_ok (h : CtxOk G X n C F W) (hk : C.sc.kind = .function) {ts vs : List Expr} {r : Option (List Str)} (e : swF C ts vs = some r) (k p k2 p2) : swappedStores [.Tuple ts k p] (.Tuple vs k2 p2) X.env = pure r := by
  have hb : X.env.blockKind = .function := by unfold PySem.Env.blockKind; rw [h.sc, hk]; rfl
  unfold swF at e
  unfold swappedStores
  simp only [hb]
  have c1 : (ScopeKind.function != ScopeKind.function) = false := by decide
  have c2 : decide (C.sc.kind ≠ .function) = false := by rw [hk]; decide
  rw [c2] at e
  rw [c1]
  split at e
  · rename_i q
    rw [if_pos q]; cases e; rfl
  · rename_i q
    rw [if_neg q]
    split at e
    · rename_i q
      cases e
      exact if_pos q
    · rename_i q
      refine (if_neg q).trans ?_
      generalize hnm : List.filterMap _ ts = nm
      have hn : nm = swN C ts := by
        rw [← hnm]
        unfold swN
        congr 1
        funext x
        cases x with
        | Name id pos =>
          have : (X.env.kindOf id == some .local) = decide (lkS id C.sc.names = some .local) := by
            rw [lkS_lookup, ← h.sc]
            show (X.env.scope.names.lookup id == some .local) = _
            rw [Bool.eq_iff_iff, beq_iff_eq, decide_eq_true_iff]
          show (if (X.env.kindOf id == some .local && _) = true then some id else none) = _
          rw [this]
        | _ => rfl
      rw [hn]
      split at e
      · rename_i q
        rw [if_pos q]; cases e; rfl
      · rename_i q
        rw [if_neg q]
        split at e
        · rename_i q
          rw [if_pos q]; cases e; rfl
        · rename_i q
          rw [if_neg q]
          split at e
          · cases e
          · rename_i q
            rw [if_neg q]; cases e; rfl
def gNs : List Nat → TGs
  | [] => gNil
  | i :: r => gCons (gName i) (gNs r)
theorem gNs_ok {is : List Nat} : ∀ {vs : List V} {σ : L2.St} {H : Hp} {Q : L2.St → Hp → Prop}, is.length = vs.length → Q (setLR σ (is.zip vs)) H → gNs is vs σ H Q := by
  induction is with
  | nil =>
    intro vs σ H Q hl h
    cases vs with
    | nil => exact ⟨rfl, h⟩
    | cons _ _ => cases hl
  | cons i is ih =>
    intro vs σ H Q hl h
    cases vs with
    | nil => cases hl
    | cons v vs => exact ⟨v, vs, rfl, ih (by simpa using hl) h⟩
end
def chkN : List Nat → Ctx → List Expr → Bool
  | [], _, [] => true
  | i :: is, C, e :: es => nameIs (isSto C i) e && chkN is C es
  | _, _, _ => false
/-- the names xs at the slots is, locals -/
def chkI : List Nat → Ctx → List Str → Bool
  | [], _, [] => true
  | i :: is, C, x :: xs => isLoc C i x && chkI is C xs
  | _, _, _ => false
section
variable {G : Cfg} {X : Cx} {n : Nat} {C : Ctx} {F : FE} {W : Nat → Prop}
theorem chkI_ok (h : CtxOk G X n C F W) : ∀ {is : List Nat} {xs : List Str}, chkI is C xs = true → Paired (fun i x => X.N[i]? = some x ∧ X.env.scope.names.lookup x = some .local) is xs
  | [], [], _ => .nil
  | i :: is, x :: xs, hc => by
    have hc : (isLoc C i x && chkI is C xs) = true := hc
    rw [Bool.and_eq_true] at hc
    exact .cons (isLoc_ok h hc.1) (chkI_ok h hc.2)
theorem chkN_ok (h : CtxOk G X n C F W) : ∀ {is : List Nat} {es : List Expr}, chkN is C es = true → PGs X es (gNs is) ∧ (assignEach es X.env).length = is.length ∧ (assignEach es X.env).findIdx? (·.1) = none
  | [], [], _ => ⟨pgs_nil, rfl, rfl⟩
  | i :: is, e :: es, hc => by
    have hc : (nameIs (isSto C i) e && chkN is C es) = true := hc
    rw [Bool.and_eq_true] at hc
    obtain ⟨h1, h2, h3⟩ := chkN_ok h hc.2
    obtain ⟨x, pos, rfl, hx⟩ := nameIs_ok hc.1
    obtain ⟨e1, e2, e3⟩ := isSto_ok h hx
    refine ⟨pgs_cons (pg_name h.nd e1 e2 e3) h1, congrArg (· + 1) h2, ?_⟩
    show ((false, assign (.Name x pos) X.env) :: assignEach es X.env).findIdx? (·.1) = none
    rw [List.findIdx?_cons, h3]
    rfl
theorem nodupN_ok : ∀ {is : List Nat}, Ice.nodupN is = true → is.Nodup
  | [], _ => List.nodup_nil
  | i :: is, nd => by
    have nd : (!is.contains i && Ice.nodupN is) = true := nd
    rw [Bool.and_eq_true] at nd
    refine List.nodup_cons.mpr ⟨fun z => ?_, nodupN_ok nd.2⟩
    have := not_tt nd.1
    rw [List.contains_eq_mem, decide_eq_true z] at this
    cases this
theorem imp_asgs {is : List Nat} {ds : List Ev} : ∀ D σ H, tS G F W (Ice.sAsgs is ds) D σ H → is.Nodup ∧ tFs G F W ds σ H fun vs H1 => is.length = vs.length ∧ D.nx (setLR σ (is.zip vs)) H1 ∧ ∀ p, H1 p = none → D.nx (setLR σ (is.zip vs)) (upd H1 p (.tup vs)) := by
  rintro D σ H ⟨B, ρ, L, S, h⟩
  have h : wpR W (if Ice.nodupN is = true then (Ice.evsF ds F ρ).bind fun (ps, ρ1) => Ice.nx (Ice.asgs is ps ρ1) else .stuck) _ := h
  split at h
  · rename_i nd
    have nd' : is.Nodup := nodupN_ok nd
    refine ⟨nd', B, ρ, L, S, h.bind.mono (fun _ h => h) ?_⟩
    rintro ⟨ps, ρ1⟩ _ h vs B1 H1 L1 A fr
    obtain ⟨ρ2, e, h⟩ := (show wpR W ((Ice.asgs is ps ρ1).bind _) _ from h).bind.got fun _ => asgs_nx
    obtain ⟨L2, A2⟩ := A.asgs fr e
    refine ⟨?_, (show Fin D G B H ρ L σ (.nx, ρ2) from h).nx A2, fun p hp => (show Fin D G B H ρ L σ (.nx, ρ2) from h).nx (A2.trans (Aft.ext0 A2.st (Ext.new hp) (A2.st.sub.new hp)))⟩
    rw [fr.length]
    have go : ∀ {is : List Nat} {ps : List (PV × Bool)} {ρ ρ' : Env}, Ice.asgs is ps ρ = .ok ρ' → is.length = ps.length := by
      intro is
      induction is with
      | nil => intro ps ρ ρ' e; cases ps with | nil => rfl | cons _ _ => cases e
      | cons i is ih =>
        intro ps ρ ρ' e
        cases ps with
        | nil => cases e
        | cons q ps =>
          obtain ⟨p, m⟩ := q
          have e : (Ice.asg i p m ρ).bind _ = _ := e
          cases e1 : Ice.asg i p m ρ with
          | ok ρ3 => rw [e1] at e; rw [List.length_cons, List.length_cons, ih e]
          | exn c => rw [e1] at e; cases e
          | stuck => rw [e1] at e; cases e
    exact go e
  · exact h.elim
end
/-- a, b = x, y -/
def mAsgs (is : List Nat) (ks : List KE) : KS where
  d := Ice.sAsgs is (ks.map (·.d))
  chk C s := match s with
    | .Assign [.Tuple ts _ _] (.Tuple es _ _) _ => (match C.sc.kind with | .function => true | _ => false) && Ice.nodupN is && chkL ks C es && Nat.ble ks.length 1000 && (match swF C ts es with
      | some (some xs) => chkI is C xs && Nat.ble xs.length 1000
      | some none => chkN is C ts
      | none => false)
    | _ => false
  ok {G X n C F W} h st hc := by
    split at hc
    · rename_i ts kt pt es k2 pt2 pos
      simp only [Bool.and_eq_true] at hc
      obtain ⟨⟨⟨⟨h0, h00⟩, h1⟩, h3⟩, h2⟩ := hc
      have h3 : ks.length ≤ 1000 := Nat.le_of_ble_eq_true h3
      have nd' : is.Nodup := nodupN_ok h00
      have hk : C.sc.kind = .function := by
        split at h0
        · assumption
        · cases h0
      split at h2
      · rename_i xs hsw
        rw [Bool.and_eq_true] at h2
        refine (ps_parN h.calm h.nd (chkI_ok h h2.1) nd' (pa_fr h h1) (Nat.le_of_ble_eq_true h2.2) (swF_ok h hk hsw _ _ _ _)).imp ?_
        intro D σ H q
        obtain ⟨_, B, ρ, L, S, q⟩ := imp_asgs D σ H q
        refine ⟨B, ρ, L, S, q.mono (fun _ h => h) ?_⟩
        rintro ⟨ps, ρ1⟩ _ q vs B1 H1 L1 A fr
        obtain ⟨q1, q2, _⟩ := q vs B1 H1 L1 A fr
        exact ⟨q1, q2⟩
      · rename_i hsw
        obtain ⟨g1, g2, g3⟩ := chkN_ok h h2
        refine (ps_asg (pe_tup (pa_fr h h1)) (pg_tup h.calm g1 g2 g3) rfl (swF_ok h hk hsw _ _ _ _) rfl).imp ?_
        intro D σ H q
        obtain ⟨_, B, ρ, L, S, q⟩ := imp_asgs D σ H q
        refine ⟨B, ρ, L, S, q.mono (fun _ h => h) ?_⟩
        rintro ⟨ps, ρ1⟩ e q vs B1 H1 L1 A fr
        obtain ⟨q1, _, q3⟩ := q vs B1 H1 L1 A fr
        have go : ∀ {ds : List Ev} {ρ ρ1 : Env} {ps : List (PV × Bool)}, Ice.evsF ds F ρ = .ok (ps, ρ1) → ps.length = ds.length := by
          intro ds
          induction ds with
          | nil => intro ρ ρ1 ps h; cases h; rfl
          | cons d ds ih =>
            intro ρ ρ1 ps h
            have h : (d F ρ).bind _ = _ := h
            cases e : d F ρ with
            | ok x =>
              rw [e] at h
              have h : (Ice.evsF ds F x.2.2).bind _ = _ := h
              cases e2 : Ice.evsF ds F x.2.2 with
              | ok y =>
                rw [e2] at h
                obtain ⟨qs, ρ2⟩ := y
                cases h
                rw [List.length_cons, List.length_cons, ih e2]
              | exn c => rw [e2] at h; cases h
              | stuck => rw [e2] at h; cases h
            | exn c => rw [e] at h; cases h
            | stuck => rw [e] at h; cases h
        refine ⟨by rw [fr.length, go e, List.length_map]; exact small_line h3, fun p hp => ⟨p, vs, rfl, SqT.of upd_same, q1.symm, gNs_ok q1 (q3 p hp)⟩⟩
      · cases h2
    · cases hc
/-- (a, b) = e -/
def notTup : Expr → Bool
  | .Tuple _ _ _ => false
  | _ => true
section
variable {G : Cfg} {X : Cx} {n : Nat} {C : Ctx} {F : FE} {W : Nat → Prop}
theorem notTup_ok {e : Expr} (h : notTup e = true) (ts k p) (env : PySem.Env) : swappedStores [.Tuple ts k p] e env = pure none := by
  cases e with
  | Tuple _ _ _ => cases h
  | _ => rfl
theorem imp_tgS {t : Tg} {ws : List Nat} {d : Ev} : ∀ D σ H, tS G F W (Ice.sTg t d) D σ H → tAsg (tE G F W d) (tG G W ws t) D σ H := by
  rintro D σ H ⟨B, ρ, L, S, h⟩
  refine ⟨B, ρ, L, S, (show wpR W ((d F ρ).bind _) _ from h).bind.mono (fun _ h => h) ?_⟩
  rintro ⟨p, m, ρ1⟩ _ h v B1 H1 L1 A r nb
  obtain ⟨B2, A2, r2⟩ := A.share r nb
  refine ⟨B2, ρ1, L1, p, A2.st, r2, (show wpR W ((t p ρ1).bind _) _ from h).bind.mono (fun _ h => h) ?_⟩
  intro ρ2 _ h σ' B' H' L' _ A3
  exact (show Fin D G B H ρ L σ (.nx, ρ2) from h).nx (A2.trans A3)
end
def mTg (t : KG) (k : KE) : KS where
  d := Ice.sTg t.d k.d
  chk C s := match s with | .Assign [.Tuple ts kk p] e _ => t.chk C (.Tuple ts kk p) && k.chk C e && noSwap e && notTup e | _ => false
  ok {G X n C F W} h st hc := by
    split at hc
    · rename_i ts kk p e pos
      simp only [Bool.and_eq_true] at hc
      obtain ⟨⟨⟨h1, h2⟩, h3⟩, h4⟩ := hc
      exact (ps_asg (pos := pos) (k.ok h h2).1 (t.ok h h1) (show swapsWithSole [.Tuple ts kk p] e pos.line X.env = pure false from noSwap_ok h3 (some (.Tuple ts kk p)) pos.line X.env) (notTup_ok h4 _ _ _ _) rfl).imp imp_tgS
    · cases hc
end IceS
end
section
set_option Elab.async false
set_option linter.all false
set_option maxRecDepth 100000
/-! Certified code: what changes an object; raise. -/
namespace IceS
open PySem hiding Env
open PySem.Spec PyProof.Rows L2
open Ice (PV Slot Env FE Ev Op Opd Sx Tg gS sS)

section
variable {G : Cfg} {B H B1 H1 : Hp} {σ σ1 : L2.St} {ρ ρ1 : Env} {L L1 : Nat → List Addr}
/-- a name's own object -/
theorem StR.mine {i : Nat} (S : StR G B σ H ρ L) {p : PV} (h : gS ρ i = .own p ∨ gS ρ i = .par p) : ∃ a, gσ σ i = some (.ref a) ∧ L i = [a] ∧ B a = none ∧ ObjR G B H a p := by
  have s := S.slot i
  generalize hx : gσ σ i = x at s
  generalize hL : L i = l at s
  rcases h with h | h
  · rw [h] at s
    cases s with
    | own h1 h2 => exact ⟨_, rfl, rfl, h1, h2⟩
  · rw [h] at s
    cases s with
    | par h1 h2 => exact ⟨_, rfl, rfl, h1, h2⟩
/-- it is written -/
theorem Aft.write {i : Nat} {p p' : PV} {a : Addr} {o : HO} {s' : Slot} (A : Aft G B H ρ L σ B1 H1 ρ1 L1 σ1) (h : (gS ρ1 i = .own p ∧ s' = .own p') ∨ (gS ρ1 i = .par p ∧ s' = .par p')) (hx : gσ σ1 i = some (.ref a)) (hL : L1 i = [a]) (hb : B1 a = none)
    (ho : ObjR G B1 (upd H1 a o) a p') : Aft G B H ρ L σ B1 (upd H1 a o) (sS ρ1 i s') L1 σ1 := by
  have hi : i < ρ1.length := gS_lt (by rcases h with ⟨h, _⟩ | ⟨h, _⟩ <;> (rw [h]; intro z; cases z))
  have kds : kd s' = kd (gS ρ1 i) := by rcases h with ⟨h, e⟩ | ⟨h, e⟩ <;> (rw [h, e]; rfl)
  have ne2 : kd (gS ρ1 i) ≠ 2 ∧ kd (gS ρ1 i) ≠ 4 := by rcases h with ⟨h, _⟩ | ⟨h, _⟩ <;> (rw [h]; simp [kd])
  have am : a ∈ L1 i := by rw [hL]; exact List.mem_cons_self
  obtain ⟨_, o1, ho1⟩ := A.st.own ⟨i, am⟩
  have kd' : ∀ j, kd (gS (sS ρ1 i s') j) = kd (gS ρ1 j) := fun j => by
    by_cases hj : j = i
    · subst hj; rw [gS_same hi, kds]
    · rw [gS_ne (fun z => hj z.symm)]
  refine ⟨⟨by rw [sS_len]; exact A.st.len, fun b x e => ?_, fun j => ?_, A.st.dist⟩, ⟨A.ext.bb, fun b x e nw => ?_, A.ext.nw, fun b e => A.ext.dm b (upd_dm b e)⟩, fun j b hb => ?_, fun j hj => ?_⟩
  · have : b ≠ a := fun z => by rw [z, hb] at e; cases e
    rw [upd_ne this]; exact A.st.sub _ _ e
  · by_cases hj : j = i
    · subst hj
      rw [gS_same hi, hx, hL]
      rcases h with ⟨_, e⟩ | ⟨_, e⟩
      · rw [e]; exact .own hb ho
      · rw [e]; exact .par hb ho
    · rw [gS_ne (fun z => hj z.symm)]
      refine (A.st.slot j).mono (Sub.refl _) (fun b q => (A.st.own ⟨j, q⟩).1) fun b q x e => ?_
      have : b ≠ a := fun z => hj (A.st.dist j i a (z ▸ q) am)
      rw [upd_ne this]; exact e
  · by_cases hba : b = a
    · subst hba
      rcases A.wr ⟨i, am, ne2⟩ with w | w
      · exact absurd w nw
      · rw [e] at w; cases w
    · rw [upd_ne hba]; exact A.ext.hh b x e nw
  · rw [kd' j]; exact A.own j b hb
  · rw [kd' j]; exact A.par j hj
theorem chg_spec {i : Nat} {f : PV → Ice.R (PV × PV)} {v : PV} {ρ' : Env} (h : Ice.chg i f ρ = .ok (v, ρ')) : ∃ p p' s', f p = .ok (v, p') ∧ ρ' = sS ρ i s' ∧ ((gS ρ i = .own p ∧ s' = .own p') ∨ (gS ρ i = .par p ∧ s' = .par p')) := by
  have h : (match gS ρ i with | .own p => (f p).bind fun (v, q) => Ice.R.ok (v, sS ρ i (.own q)) | .par p => (f p).bind fun (v, q) => .ok (v, sS ρ i (.par q)) | _ => .stuck) = .ok (v, ρ') := h
  cases hs : gS ρ i with
  | own p =>
    rw [hs] at h
    have h : (f p).bind _ = _ := h
    cases e : f p with
    | ok x => rw [e] at h; obtain ⟨w, q⟩ := x; cases h; exact ⟨p, q, _, e, rfl, .inl ⟨rfl, rfl⟩⟩
    | exn c => rw [e] at h; cases h
    | stuck => rw [e] at h; cases h
  | par p =>
    rw [hs] at h
    have h : (f p).bind _ = _ := h
    cases e : f p with
    | ok x => rw [e] at h; obtain ⟨w, q⟩ := x; cases h; exact ⟨p, q, _, e, rfl, .inr ⟨rfl, rfl⟩⟩
    | exn c => rw [e] at h; cases h
    | stuck => rw [e] at h; cases h
  | _ => rw [hs] at h; cases h
theorem chg_nx {i : Nat} {f : PV → Ice.R (PV × PV)} (nx : ∀ p c, f p ≠ .exn c) {c : Nat} : Ice.chg i f ρ ≠ .exn c := by
  intro h
  have h : (match gS ρ i with | .own p => (f p).bind fun (v, q) => Ice.R.ok (v, sS ρ i (.own q)) | .par p => (f p).bind fun (v, q) => .ok (v, sS ρ i (.par q)) | _ => .stuck) = .exn c := h
  split at h
  · rename_i p _
    cases e : f p with
    | ok x => rw [e] at h; cases h
    | exn c => exact nx p c e
    | stuck => rw [e] at h; cases h
  · rename_i p _
    cases e : f p with
    | ok x => rw [e] at h; cases h
    | exn c => exact nx p c e
    | stuck => rw [e] at h; cases h
  · cases h
theorem ownO_ok {α : Type} {i : Nat} {x : Ice.R α} {W : Nat → Prop} {P : α → Prop} (h : wpR W (Ice.ownO i ρ x) P) : (∃ p, gS ρ i = .own p ∨ gS ρ i = .par p) ∧ wpR W x P := by
  have h : wpR W (match gS ρ i with | .own _ => x | .par _ => x | _ => .stuck) P := h
  cases hs : gS ρ i with
  | own p => rw [hs] at h; exact ⟨⟨p, .inl rfl⟩, h⟩
  | par p => rw [hs] at h; exact ⟨⟨p, .inr rfl⟩, h⟩
  | _ => rw [hs] at h; exact h.elim
theorem ownL_ok {α : Type} {i : Nat} {x : Ice.R α} {W : Nat → Prop} {P : α → Prop} (h : wpR W (Ice.ownL i ρ x) P) : (∃ ps, gS ρ i = .own (.lst ps) ∨ gS ρ i = .par (.lst ps)) ∧ wpR W x P := by
  have h : wpR W (match gS ρ i with | .own (.lst _) => x | .par (.lst _) => x | _ => .stuck) P := h
  split at h
  · rename_i p hs; exact ⟨⟨p, .inl hs⟩, h⟩
  · rename_i p hs; exact ⟨⟨p, .inr hs⟩, h⟩
  · exact h.elim
theorem ownD_ok {α : Type} {i : Nat} {x : Ice.R α} {W : Nat → Prop} {P : α → Prop} (h : wpR W (Ice.ownD i ρ x) P) : (∃ ps, gS ρ i = .own (.dct ps) ∨ gS ρ i = .par (.dct ps)) ∧ wpR W x P := by
  have h : wpR W (match gS ρ i with | .own (.dct _) => x | .par (.dct _) => x | _ => .stuck) P := h
  split at h
  · rename_i p hs; exact ⟨⟨p, .inl hs⟩, h⟩
  · rename_i p hs; exact ⟨⟨p, .inr hs⟩, h⟩
  · exact h.elim
end

/-! ### a[k] = v -/
section
variable {X : Cx} {G : Cfg} {n : Nat} {C : Ctx} {F : FE} {W : Nat → Prop}
def rSet (G : Cfg) : TSet := fun o i v H Q => ∃ B a p q r p', Sub B H ∧ o = .ref a ∧ B a = none ∧ ObjR G B H a p ∧ Opn G B H i q ∧ Rep G B v r ∧ Ice.mSet q r p = .ok (.non, p') ∧ ∀ o', ObjR G B (upd H a o') a p' → Q (upd H a o')
theorem set_any (g : XG G X n) : PSet X (rSet G) := by
  intro pins s σ H o i v ov iv u Q I ro ri rv ⟨B, a, p, q, r, p', sb, eo, hb, ob, oi, rp, e, k⟩
  subst eo
  have un := g.room.units
  cases ob with
  | @lst vs ps ha la =>
    unfold Ice.mSet at e
    cases q with
    | int j =>
      have e : (match Ice.ixOf ps.length j with | some m => Ice.R.ok (PV.non, PV.lst (ps.set m r)) | none => .stuck) = .ok (.non, p') := e
      cases ej : Ice.ixOf ps.length j with
      | none => rw [ej] at e; cases e
      | some m =>
        rw [ej] at e
        cases e
        obtain rfl := oi.int
        have ej' : ixN vs.length j = some m := by rw [la.length]; exact ej
        exact set_list pins s σ H _ _ v ov iv u Q I ro ri rv ⟨a, vs, j, m, rfl, rfl, ha, ej', k _ (.lst upd_same (la.set m rp))⟩
    | _ => cases e
  | @dK es kvs ha la =>
    have e : (if q.isKey = true then (match Ice.dPut q r kvs with | some d => if kvs.length < Ice.LIM then Ice.R.ok (PV.non, PV.dct d) else .stuck | none => .stuck) else .stuck) = .ok (.non, p') := e
    split at e
    · rename_i ik
      obtain ⟨kk, rfl, rfl⟩ := oi.key ik
      obtain ⟨kvs', e1, r1⟩ := dPut_rep rp la (dk_nodup I ha)
      rw [e1] at e
      have e : (if kvs.length < Ice.LIM then Ice.R.ok (PV.non, PV.dct kvs') else .stuck) = .ok (.non, p') := e
      split at e
      · rename_i hl
        cases e
        exact set_dict (by omega) pins s σ H _ _ v ov iv u Q I ro ri rv ⟨a, _, rfl, .k ha (by rw [la.length, sizeLine_lim]; exact hl), k _ (.dK upd_same r1)⟩
      · cases e
    · cases e

theorem nx_mSet (q r : PV) : ∀ p c, Ice.mSet q r p ≠ .exn c := by intro p c; unfold Ice.mSet; (repeat' split) <;> (intro h; cases h)
theorem nx_mApp (r : PV) : ∀ p c, Ice.mApp r p ≠ .exn c := by intro p c; unfold Ice.mApp; (repeat' split) <;> (intro h; cases h)
theorem nx_mExt (r : PV) : ∀ p c, Ice.mExt r p ≠ .exn c := by intro p c; unfold Ice.mExt; (repeat' split) <;> (intro h; cases h)
theorem nx_mPop1 (r : PV) : ∀ p c, Ice.mPop1 r p ≠ .exn c := by intro p c; unfold Ice.mPop1; (repeat' split) <;> (intro h; cases h)
theorem mSet_non {q r p v p' : PV} (h : Ice.mSet q r p = .ok (v, p')) : v = .non := by
  unfold Ice.mSet at h
  repeat' split at h
  all_goals first | cases h; rfl | cases h
theorem imp_set {i : Nat} {k : Op} {v : Ev} : ∀ D σ H, tS G F W (Ice.sSet i k v) D σ H → tAsg (tE G F W v) (gSub (tVar i) (tO G F W k) (rSet G)) D σ H := by
  rintro D σ H ⟨B, ρ, L, S, h⟩
  refine ⟨B, ρ, L, S, (show wpR W ((v F ρ).bind _) _ from h).bind.mono (fun _ h => h) ?_⟩
  rintro ⟨p, m, ρ1⟩ _ h x B1 H1 L1 A r nb
  obtain ⟨B2, A2, r2⟩ := A.share r nb
  obtain ⟨⟨p0, hp0⟩, h⟩ := ownO_ok (show wpR W (Ice.ownO i ρ1 _) _ from h)
  obtain ⟨a0, hx, _⟩ := A2.st.mine hp0
  refine ⟨_, gσ_some hx, B2, ρ1, L1, A2.st, h.bind.mono (fun _ h => h) ?_⟩
  rintro ⟨y, ρ2⟩ _ h w B3 H3 L3 A3 r3
  obtain ⟨q, e1, h⟩ := (show wpR W ((Ice.deref ρ2 y).bind _) _ from h).bind.got fun _ => deref_nx
  obtain ⟨⟨v', ρ3⟩, e2, h⟩ := (show wpR W ((Ice.chg i (Ice.mSet q p) ρ2).bind _) _ from h).bind.got fun _ => chg_nx (nx_mSet q p)
  obtain ⟨p1, p', s', e3, rfl, alt⟩ := chg_spec e2
  obtain ⟨a, hx', hL, hb, ho⟩ := A3.st.mine (i := i) (p := p1) (alt.imp (fun z => z.1) fun z => z.1)
  rw [hx] at hx'
  cases hx'
  have A23 := A2.trans A3
  have vn := mSet_non e3
  subst vn
  exact ⟨B3, a0, p1, q, p, p', A3.st.sub, rfl, hb, ho, r3.opn A3.st e1, r2.mono A3.ext.bb, e3, fun o' ob => (show Fin D G B H ρ L σ (.nx, _) from h).nx (A23.write alt hx hL hb ob)⟩
end
/-- a[k] = v -/
def mSetI (i : Nat) (k : KO) (v : KE) : KS where
  d := Ice.sSet i k.d v.d
  chk C s := match s with | .Assign [.Subscript (.Name x _) y _] e _ => isVar C i x && k.chk C y && notSl y && v.chk C e && noSwap e | _ => false
  ok {G X n C F W} h st hc := by
    split at hc
    · rename_i x px y ps e pos
      simp only [Bool.and_eq_true] at hc
      obtain ⟨⟨⟨⟨h1, h2⟩, h3⟩, h4⟩, h5⟩ := hc
      obtain ⟨e1, e2, e3, e4⟩ := isVar_ok h h1
      have ha : ∀ v, assign (.Subscript (.Name x px) y ps) X.env v = (do
          let ov ← holding [v] (eval (.Name x px) X.env)
          let iv ← holding [v, ov] (eval y X.env)
          standAt ps
          holding [v, ov, iv] (setItem ov iv v)
          release [v, ov, iv] []) := by
        intro v
        cases y with
        | Slice _ _ _ _ => cases h3
        | _ => rfl
      exact (ps_asg (pos := pos) (v.ok h h4).1 (pg_sub (pe_var e1 e2 e3 e4) (k.ok h h2) (set_any h.toXG) ha)
        (show swapsWithSole [.Subscript (.Name x px) y ps] e pos.line X.env = pure false from noSwap_ok h5 (some (.Subscript (.Name x px) y ps)) pos.line X.env) rfl rfl).imp imp_set
    · cases hc

/-! ### a.append(v), a += v, a.pop(k) -/
section
variable {X : Cx} {G : Cfg} {n : Nat} {C : Ctx} {F : FE} {W : Nat → Prop}
def rApp (G : Cfg) : V → List V → Hp → VK → Prop := fun x xs H Q => ∃ B a ps v r, Sub B H ∧ x = .ref a ∧ xs = [v] ∧ B a = none ∧ ObjR G B H a (.lst ps) ∧ Rep G B v r ∧ ps.length + 1 ≤ Ice.LIM ∧ ∀ o', ObjR G B (upd H a o') a (.lst (ps ++ [r])) → Q .non (upd H a o')
theorem mt_app : MtR X "list.append" (rApp G) := by
  intro pins s σ H x xs v us Q I rx rs ⟨B, a, ps, y, r, sb, ex, exs, hb, ob, rp, hl, k⟩
  subst ex exs
  cases ob with
  | @lst vs _ ha la => exact mt_append pins s σ H _ _ v us Q I rx rs ⟨a, vs, y, rfl, rfl, ha, by rw [la.length, sizeLine_lim]; omega, k _ (.lst upd_same (la.append (.cons rp .nil)))⟩
theorem imp_app {i : Nat} {v : Ev} : ∀ D σ H, tS G F W (Ice.sApp i v) D σ H → tDrop (tBM G.K "list" (rApp G) (tVar i) (tCons (tE G F W v) tNil)) D σ H := by
  rintro D σ H ⟨B, ρ, L, S, h⟩
  obtain ⟨⟨ps0, hp0⟩, h⟩ := ownL_ok (show wpR W (Ice.ownL i ρ _) _ from h)
  obtain ⟨a0, hx, _, _, ho0⟩ := S.mine hp0
  have ty : tyV G.K "list" (.ref a0) H := by
    cases ho0 with
    | lst ha la => exact .inl ⟨rfl, _, SqL.of ha⟩
  refine ⟨_, gσ_some hx, ty, B, ρ, L, S, h.bind.mono (fun _ h => h) ?_⟩
  rintro ⟨p, m, ρ1⟩ _ h x B1 H1 L1 A r nb
  obtain ⟨B2, A2, r2⟩ := A.share r nb
  obtain ⟨⟨v', ρ3⟩, e2, h⟩ := (show wpR W ((Ice.chg i (Ice.mApp p) ρ1).bind _) _ from h).bind.got fun _ => chg_nx (nx_mApp p)
  obtain ⟨p1, p', s', e3, rfl, alt⟩ := chg_spec e2
  obtain ⟨a, hx', hL, hb, ho⟩ := A2.st.mine (i := i) (p := p1) (alt.imp (fun z => z.1) fun z => z.1)
  rw [hx] at hx'
  cases hx'
  cases p1 with
  | lst ps =>
    have e3 : (if ps.length + 1 ≤ Ice.LIM then Ice.R.ok (PV.non, PV.lst (ps ++ [p])) else .stuck) = .ok (v', p') := e3
    split at e3
    · rename_i hl
      cases e3
      exact ⟨B2, a0, ps, x, p, A2.st.sub, rfl, rfl, hb, ho, r2, hl, fun o' ob => (show Fin D G B H ρ L σ (.nx, _) from h).nx (A2.write alt hx hL hb ob)⟩
    · cases e3
  | _ => cases e3
def rExtI (G : Cfg) : R2 := fun x y H Q => ∃ B a ps qs, Sub B H ∧ x = .ref a ∧ B a = none ∧ ObjR G B H a (.lst ps) ∧ Opn G B H y (.lst qs) ∧ ps.length + qs.length ≤ Ice.LIM ∧ ∀ o', ObjR G B (upd H a o') a (.lst (ps ++ qs)) → Q (.ref a) (upd H a o')
theorem ip_ext : PIp X .Add (rExtI G) := by
  intro pins s σ H x y v u Q I rx ry ⟨B, a, ps, qs, sb, ex, hb, ob, oy, hl, k⟩
  subst ex
  obtain ⟨b, us, rfl, tb, lb⟩ := oy.lst sb
  cases ob with
  | @lst vs _ ha la => exact iop_ext pins s σ H _ _ v u Q I rx ry ⟨a, b, vs, us, rfl, rfl, ha, tb, by rw [la.length, lb.length, sizeLine_lim]; exact hl, k _ (.lst upd_same (la.append lb))⟩
theorem set_self {σ : L2.St} {i : Nat} {v : V} (h : σ[i]? = some (some v)) : σ.set i (some v) = σ := by
  refine List.ext_getElem? fun j => ?_
  by_cases hj : i = j
  · subst hj
    have hl : i < σ.length := by
      obtain ⟨hl, _⟩ := List.getElem?_eq_some_iff.mp h
      exact hl
    rw [List.getElem?_set_self hl, h]
  · rw [List.getElem?_set_ne hj]
theorem imp_aug {i : Nat} {v : Op} : ∀ D σ H, tS G F W (Ice.sAug i v) D σ H → tAug i (tO G F W v) (rExtI G) D σ H := by
  rintro D σ H ⟨B, ρ, L, S, h⟩
  obtain ⟨⟨ps0, hp0⟩, h⟩ := ownL_ok (show wpR W (Ice.ownL i ρ _) _ from h)
  obtain ⟨a0, hx, _, _, ho0⟩ := S.mine hp0
  refine ⟨_, gσ_some hx, B, ρ, L, S, h.bind.mono (fun _ h => h) ?_⟩
  rintro ⟨x, ρ1⟩ _ h y B1 H1 L1 A r
  obtain ⟨p, e1, h⟩ := (show wpR W ((Ice.deref ρ1 x).bind _) _ from h).bind.got fun _ => deref_nx
  obtain ⟨⟨v', ρ3⟩, e2, h⟩ := (show wpR W ((Ice.chg i (Ice.mExt p) ρ1).bind _) _ from h).bind.got fun _ => chg_nx (nx_mExt p)
  obtain ⟨p1, p', s', e3, rfl, alt⟩ := chg_spec e2
  obtain ⟨a, hx', hL, hb, ho⟩ := A.st.mine (i := i) (p := p1) (alt.imp (fun z => z.1) fun z => z.1)
  rw [hx] at hx'
  cases hx'
  cases p1 with
  | lst ps =>
    cases p with
    | lst qs =>
      have e3 : (if ps.length + qs.length ≤ Ice.LIM then Ice.R.ok (PV.non, PV.lst (ps ++ qs)) else .stuck) = .ok (v', p') := e3
      split at e3
      · rename_i hl
        cases e3
        refine ⟨B1, a0, ps, qs, A.st.sub, rfl, hb, ho, r.opn A.st e1, hl, fun o' ob => ?_⟩
        show D.nx (σ.set i (some (V.ref a0))) _
        rw [set_self (gσ_some hx)]
        exact (show Fin D G B H ρ L σ (.nx, _) from h).nx (A.write alt hx hL hb ob)
      · cases e3
    | _ => cases e3
  | _ => cases e3
end
/-- o.m(e) as a call of one argument without a star -/
theorem few1 {e : Expr} (h : notStar e = true) (pos : Pos) (env : PySem.Env) : ((backTo pos (starEach [e] env)).all (fun x => !x.1) && (backToKw pos (keywordEach [] env)).all (fun x => x.1.isSome)
      && decide (([e] : List Expr).length + ([] : List Keyword).length + (if ([] : List Keyword).isEmpty then 0 else 1) < 30)) = true := by
  rw [star_cons h]; rfl
def mAppI (i : Nat) (v : KE) : KS where
  d := Ice.sApp i v.d
  chk C s := match s with | .Expr (.Call (.Attribute (.Name x _) m ap) [e] [] cp) _ => isVar C i x && seq m "append" && v.chk C e && notStar e && Nat.beq ap.endLine cp.line | _ => false
  ok {G X n C F W} h st hc := by
    split at hc
    · rename_i x px m ap e cp pos
      simp only [Bool.and_eq_true] at hc
      obtain ⟨⟨⟨⟨h1, h2⟩, h3⟩, h4⟩, h5⟩ := hc
      obtain ⟨e1, e2, e3, e4⟩ := isVar_ok h h1
      have em := seq_eq h2
      subst em
      have hl : (ap.endLine == cp.line) = true := by rw [Nat.eq_of_beq_eq_true h5]; exact beq_self_eq_true _
      have := pe_bm (X := X) (o := .Name x px) (r := rApp G) PySem.F.plainAttrs_list PySem.F.slot_list_append PySem.F.type_list_append mt_app (pe_var e1 e2 e3 e4) (pa_cons (v.ok h h3).1 pa_nil (star_cons h4 _ _)) (cpos := cp) (apos := ap) rfl (few1 h4 _ _) hl (star_cons h4 _ _) rfl
      rw [h.K] at this
      exact (ps_expr this rfl).imp imp_app
    · cases hc
/-- a += v -/
def mAug (i : Nat) (v : KO) : KS where
  d := Ice.sAug i v.d
  chk C s := match s with | .AugAssign (.Name x _) .Add e _ => isSto C i x && v.chk C e | _ => false
  ok {G X n C F W} h st hc := by
    split at hc
    · simp only [Bool.and_eq_true] at hc
      obtain ⟨h1, h2⟩ := hc
      obtain ⟨e1, e2, e3⟩ := isSto_ok h h1
      exact (ps_aug h.nd e1 e2 (v.ok h h2) ip_ext e3).imp imp_aug
    · cases hc

/-! ### raise -/
section
variable {X : Cx} {G : Cfg} {n : Nat} {C : Ctx} {F : FE} {W : Nat → Prop}
end
/-- raise E('..') -/
def mRaise (c : Nat) : KS where
  d := Ice.sRaise c
  chk C s := match s with | .Raise (some (.Call (.Name x _) [.Constant (.str _) _ _] [] _)) none _ => isGl C x && (match lkS x C.ge with | some d => Nat.beq c d | none => false) | _ => false
  ok {G X n C F W} h st hc := by
    split at hc
    · rename_i x p1 m j p2 p3 p4
      simp only [Bool.and_eq_true] at hc
      obtain ⟨h1, h2⟩ := hc
      split at h2
      · rename_i d hd
        have e := Nat.eq_of_beq_eq_true h2
        subst e
        obtain ⟨gl, db⟩ := isGl_ok h h1
        obtain ⟨a, bmB, B, ni, ii, f1, f2, f3, f4, f5, f6⟩ := h.exc x c (lkS_mem hd)
        refine (ps_raise h.calm h.takes (pmk_own (m := m) f1 f2 f3 f4 f5 gl db)).imp ?_
        rintro D σ H ⟨B, ρ, L, S, q⟩
        exact ⟨c, a, q, rfl, f6⟩
      · cases h2
    · cases hc
end IceS
end
section
set_option Elab.async false
set_option linter.all false
set_option maxRecDepth 100000
/-! The defs of a program by their certificates. -/
namespace IceS
open PySem hiding Env
open PySem.Spec PyProof.Rows L2
open Ice (PV Slot Env FE Ev Op Opd Sx Tg gS sS)

structure KD where
  np : Nat
  N : List Str
  body : List KS
def KD.d (k : KD) : Ice.FDef := ⟨k.np, k.N.length, blkD k.body⟩
/-- a def's name, its number, its certificate, its text -/
structure DRow where
  x : Str
  id : Nat
  k : KD
  st : Stmt
/-- what all defs of a program share -/
structure Prg where
  rows : List DRow
  ge : List (Str × Nat)
  gc : List (Str × Int)
def Prg.ctx (p : Prg) (r : DRow) : Ctx := ⟨r.k.N, C8.fnScope r.st, p.rows.map fun r => (r.x, r.id), p.gc, p.ge, true, []⟩
/-- the check of one def -/
def Prg.chk (p : Prg) (r : DRow) : Bool := chkS r.k.body (p.ctx r) (C8.fnBody r.st)

section
variable {G : Cfg}
theorem start_gσ {N : List Str} {vs : List V} {i : Nat} : gσ (L2.start N vs) i = vs[i]? := by
  unfold gσ L2.start
  by_cases h : i < vs.length
  · rw [List.getElem?_append_left (by simpa using h), List.getElem?_map]
    cases vs[i]? <;> rfl
  · rw [List.getElem?_append_right (by simpa using h), List.getElem?_eq_none (l := vs) (by omega), List.getElem?_replicate]
    split <;> rfl
theorem entry_gS {m : Nat} {as : List Slot} {i : Nat} : gS (Ice.entry m as) i = parS (gS as i) := by
  have e : Ice.entry m as = as.map parS ++ List.replicate (m - as.length) Slot.un := by
    unfold Ice.entry
    congr 1
  rw [e]
  have gun : ∀ (n i : Nat), gS (List.replicate n Slot.un) i = .un := fun n => by
    induction n with
    | zero => intro i; rfl
    | succ n ih => intro i; cases i with | zero => rfl | succ i => exact ih i
  induction as generalizing i m with
  | nil => exact (gun _ i).trans rfl
  | cons s as ih =>
    cases i with
    | zero => rfl
    | succ i =>
      show gS (as.map parS ++ List.replicate (m - (as.length + 1)) Slot.un) i = parS (gS as i)
      have := ih (m := m - 1) (i := i) (by unfold Ice.entry; congr 1)
      rw [show m - 1 - as.length = m - (as.length + 1) by omega] at this
      exact this
theorem entry_len {m : Nat} {as : List Slot} (h : as.length ≤ m) : (Ice.entry m as).length = m := by
  unfold Ice.entry
  rw [List.length_append, List.length_map, List.length_replicate]
  omega
theorem okL_get {as : List Slot} (h : okL as = true) {i : Nat} : gS as i = .un ∨ (∃ p, gS as i = .val p) ∨ ∃ p, gS as i = .own p := by
  induction as generalizing i with
  | nil => exact .inl rfl
  | cons s as ih =>
    have h : (Ice.okArg s && okL as) = true := h
    rw [Bool.and_eq_true] at h
    cases i with
    | succ i => exact ih h.2
    | zero =>
      show s = .un ∨ (∃ p, s = .val p) ∨ ∃ p, s = .own p
      cases s with
      | val p => exact .inr (.inl ⟨p, rfl⟩)
      | own p => exact .inr (.inr ⟨p, rfl⟩)
      | _ => exact absurd h.1 Bool.false_ne_true
/-- what the names handed on hold at the end -/
theorem outs_spec : ∀ {as : List Slot} {ρ : Env} {outs : List Slot}, okL as = true → Ice.outsOf as ρ = .ok outs → outs.length = as.length ∧ ∀ k, (∃ p, gS as k = .own p) ∧ (∃ q, gS ρ k = .par q ∧ gS outs k = .par q) ∨ (∀ p, gS as k ≠ .own p) ∧ gS outs k = .un
  | [], ρ, outs, _, h => by cases h; exact ⟨rfl, fun k => .inr ⟨fun p z => (by cases z), rfl⟩⟩
  | s :: as, [], outs, ok, h => by
    have ok : (Ice.okArg s && okL as) = true := ok
    rw [Bool.and_eq_true] at ok
    cases s with
    | val p => cases h
    | own p => cases h
    | _ => exact absurd ok.1 Bool.false_ne_true
  | s :: as, r :: ρ, outs, ok, h => by
    have ok : (Ice.okArg s && okL as) = true := ok
    rw [Bool.and_eq_true] at ok
    cases s with
    | val p =>
      have h : (Ice.outsOf as ρ).bind _ = _ := h
      cases e : Ice.outsOf as ρ with
      | ok o =>
        rw [e] at h
        cases h
        obtain ⟨h1, h2⟩ := outs_spec ok.2 e
        refine ⟨congrArg (· + 1) h1, fun k => ?_⟩
        cases k with
        | zero => exact .inr ⟨fun p z => (by cases z), rfl⟩
        | succ k => exact h2 k
      | exn c => rw [e] at h; cases h
      | stuck => rw [e] at h; cases h
    | own p =>
      cases r with
      | par q =>
        have h : (Ice.outsOf as ρ).bind _ = _ := h
        cases e : Ice.outsOf as ρ with
        | ok o =>
          rw [e] at h
          cases h
          obtain ⟨h1, h2⟩ := outs_spec ok.2 e
          refine ⟨congrArg (· + 1) h1, fun k => ?_⟩
          cases k with
          | zero => exact .inl ⟨⟨p, rfl⟩, q, rfl, rfl⟩
          | succ k => exact h2 k
        | exn c => rw [e] at h; cases h
        | stuck => rw [e] at h; cases h
      | _ => cases h
    | _ => exact absurd ok.1 Bool.false_ne_true
theorem outs_nx {c : Nat} : ∀ {as : List Slot} {ρ : Env}, Ice.outsOf as ρ ≠ .exn c
  | [], ρ, h => by cases h
  | s :: as, [], h => by cases s <;> cases h
  | s :: as, r :: ρ, h => by
    have go : ∀ (x : Slot), ((Ice.outsOf as ρ).bind fun r => Ice.R.ok (x :: r)) ≠ .exn c := fun x h => by
      cases e : Ice.outsOf as ρ with
      | ok o => rw [e] at h; cases h
      | exn c' => rw [e] at h; cases h; exact outs_nx e
      | stuck => rw [e] at h; cases h
    cases s with
    | own p =>
      cases r with
      | par q => exact go _ h
      | _ => cases h
    | _ => exact go _ h
end

section
variable {G : Cfg} {P : Program} {w : World} {K : PySem.W.Frag} {mg : Str → Option Value} {base : Heap} {T : Ice.Tab} {p : Prg}
/-- a def at one level: its promise -/
def At (G : Cfg) (P : Program) (w : World) (K : PySem.W.Frag) (mg : Str → Option Value) (base : Heap) (T : Ice.Tab) (n : Nat) (r : DRow) : Prop :=
  ∃ f fd ps, C8.Def K mg r.x r.st f fd ∧ ps = r.k.N.take r.k.np ∧ mg r.x = some (.ref f) ∧ PySem.W.keepIn K (.ref f) = true ∧ G.fnA r.id = some f ∧ L2.Binds K fd ps [] ∧ FnOk P w K mg base (L2.CX P w) n f fd ps (SpF G (Ice.callF T n) r.id)
/-- what is known of the program in the heap -/
structure PrgOk (G : Cfg) (K : PySem.W.Frag) (mg : Str → Option Value) (T : Ice.Tab) (p : Prg) : Prop where
  eK : K = G.K
  tab : ∀ r ∈ p.rows, T r.id = some (.d r.k.d)
  fns : ∀ r ∈ p.rows, ∃ f fd, C8.Def K mg r.x r.st f fd ∧ L2.Binds K fd (r.k.N.take r.k.np) [] ∧ G.fnA r.id = some f
  scp : ∀ r ∈ p.rows, FnScope r.k.N (r.k.N.take r.k.np) (C8.fnScope r.st)
  np : ∀ r ∈ p.rows, r.k.np ≤ r.k.N.length
  chk : ∀ r ∈ p.rows, p.chk r = true
  blt : ∀ x ∈ bNames, mg x = none
  fnK : ∀ f a, G.fnA f = some a → ∃ o, K.lookup a = some o ∧ o.cls = .type "function"
  fnI : ∀ f g a, G.fnA f = some a → G.fnA g = some a → f = g
  gc : ∀ x i, (x, i) ∈ p.gc → ∃ t, mg x = some (.int i t)
  exc : ∀ x c, (x, c) ∈ p.ge → ∃ (a : Addr) (bmB : List Value) (B newId initId : String), ExcBaseFacts B newId initId bmB ∧ PySem.W.excIn K a bmB newId = true ∧ mg x = some (.ref a) ∧ PySem.W.keepIn K (.ref a) = true ∧
    (PySem.W.subIn K (.ref a) (.type "BaseException") = some true ∧ PySem.W.typeIn K (.ref a) = some (.type "type")) ∧ G.exA c = some a
theorem spf_len {F : FE} {i m : Nat} (hm : ∀ as x, F i as = .ok x → as.length = m) (hx : ∀ as c, F i as = .exn c → as.length = m) : ∀ vs H Q E, SpF G F i vs H Q E → vs.length = m := by
  rintro vs H Q E ⟨B, as, L, W, h1, _, _, _, h⟩
  rw [← h1]
  cases e : F i as with
  | ok x => exact hm _ _ e
  | exn c => exact hx _ _ e
  | stuck => rw [e] at h; exact h.elim
/-- THE STEP: a level up -/
theorem step_ok (O : PrgOk G K mg T p) {n : Nat} (ih : ∀ r ∈ p.rows, At G P w K mg base T n r) : ∀ r ∈ p.rows, At G P w K mg base T (n + 1) r := by
  intro r hr
  obtain ⟨f, fd, D, hb, hf⟩ := O.fns r hr
  obtain ⟨oc, od, dV, kV, doc, pm, an, cdv, ct, osl, rfl, lk, hcd⟩ := D.fn.ex
  refine ⟨f, _, _, D, rfl, D.mgf, D.kp, hf, hb, ?_⟩
  have hT := O.tab r hr
  have ev : ∀ as, Ice.callF T (n + 1) r.id as = Ice.runD r.k.d (Ice.callF T n) as := fun as => by
    show (match T r.id with | some (.d d) => Ice.runD d (Ice.callF T n) as | some (.w tbl) => Ice.runW tbl (Ice.callF T n) as | none => .stuck) = _
    rw [hT]
  have np := O.np r hr
  have plen : (r.k.N.take r.k.np).length = r.k.np := by rw [List.length_take]; omega
  have len : ∀ vs H Q E, SpF G (Ice.callF T (n + 1)) r.id vs H Q E → vs.length = (r.k.N.take r.k.np).length := by
    refine spf_len (fun as x e => ?_) (fun as c e => ?_)
    · rw [ev] at e
      rw [plen]
      unfold Ice.runD at e
      split at e
      · rename_i h; exact h.1
      · cases e
    · rw [ev] at e
      rw [plen]
      unfold Ice.runD at e
      split at e
      · rename_i h; exact h.1
      · cases e
  refine fn_of lk hcd (O.scp r hr) len fun A outer s H vs Q E hroom hsp => ?_
  obtain ⟨B, as, L, W, hl, ok, S, hw, h⟩ := hsp
  have cx : CtxOk G (cxOf (L2.CX P w) P w K mg base r.k.N r.x (C8.fnScope r.st) f cdv A outer s H E) n (p.ctx r) (Ice.callF T n) W := {
    K := O.eK, calm := rfl, nd := (O.scp r hr).nd, room := hroom, fnK := O.fnK, fnI := O.fnI, N := rfl, sc := rfl, blt := O.blt, fn := fun _ _ => rfl
    fns := fun x i hx => by
      obtain ⟨r', hr', e⟩ := List.mem_map.mp hx
      cases e
      obtain ⟨f', fd', ps', _, _, q1, q2, q3, q4, q5⟩ := ih r' hr'
      exact ⟨f', fd', ps', q1, q2, q3, q4, q5⟩
    gc := O.gc
    exc := fun x c hx => by
      obtain ⟨a, bmB, B', ni, ii, q1, q2, q3, q4, ⟨q5, q6⟩, q7⟩ := O.exc x c hx
      exact ⟨a, bmB, B', ni, ii, q1, q2, q3, q4, raises_own q5 q6, q7⟩
    takes := (takes_of rfl rfl rfl rfl).imp fun c d σ H' z => hw c d H' z }
  refine ⟨_, pss_ok cx (O.chk r hr), ?_⟩
  rw [ev] at h
  unfold Ice.runD at h
  split at h
  · rename_i hc
    obtain ⟨c1, c2, c3⟩ := hc
    have S0 : StR G B (L2.start r.k.N vs) H (Ice.entry r.k.N.length as) L := by
      refine ⟨?_, S.sub, fun i => ?_, S.dist⟩
      · have c1 : as.length = r.k.np := c1
        rw [entry_len (by omega)]
        unfold L2.start
        rw [List.length_append, List.length_map, List.length_replicate]
        omega
      · have s := S.slot i
        rw [gσ_map, gS_map] at s
        rw [start_gσ, entry_gS]
        exact s
    refine ⟨B, _, L, S0, h.bind.mono (fun _ h => h) ?_⟩
    rintro ⟨fl, ρ'⟩ _ h σ' B' H' L' A'
    obtain ⟨outs, ho, h⟩ := (show wpR W ((Ice.outsOf as ρ').bind _) _ from h).bind.got fun _ => outs_nx
    obtain ⟨ol, os⟩ := outs_spec ok ho
    -- the state in the caller's words
    have key : ∀ k, (∃ q, gS ρ' k = .par q ∧ gS outs k = .par q ∧ kd (gS (as.map parS) k) = 3 ∧ gσ σ' k = vs[k]?) ∨ (gS outs k = .un ∧ kd (gS (as.map parS) k) ≠ 3) := fun k => by
      rcases os k with ⟨⟨q0, h1⟩, q, h2, h3⟩ | ⟨h1, h2⟩
      · have k3 : kd (gS (Ice.entry r.k.N.length as) k) = 3 := by rw [entry_gS, h1]; rfl
        refine .inl ⟨q, h2, h3, by rw [gS_map, h1]; rfl, ?_⟩
        rw [(A'.par k k3).2, start_gσ]
      · refine .inr ⟨h2, ?_⟩
        rw [gS_map]
        rcases okL_get ok (i := k) with e | ⟨q, e⟩ | ⟨q, e⟩
        · rw [e]; simp [parS, kd]
        · rw [e]; simp [parS, kd]
        · exact absurd e (h1 q)
    have fin : Aft G B H (as.map parS) L (vs.map some) B' H' outs (fun k => if kd (gS outs k) = 3 then L' k else []) (vs.map some) := by
      refine ⟨⟨?_, A'.st.sub, fun k => ?_, fun i j a h1 h2 => ?_⟩, A'.ext.weak (fun a ⟨i, h1, h2⟩ => ⟨i, h1, ?_⟩) (fun a h => h), fun i a h => ?_, fun i h => ?_⟩
      · rw [List.length_map, ol]; exact hl.symm
      · rw [gσ_map]
        rcases key k with ⟨q, e1, e2, e3, e4⟩ | ⟨e1, e2⟩
        · have s := A'.st.slot k
          rw [e1, e4] at s
          rw [e2]
          show SlR _ _ _ _ _ (if kd (Slot.par q) = 3 then L' k else [])
          rw [if_pos (show kd (Slot.par q) = 3 from rfl)]
          exact s
        · rw [e1]
          show SlR _ _ _ _ _ (if kd Slot.un = 3 then L' k else [])
          rw [if_neg (by simp [kd])]
          exact .un
      · have h1 : a ∈ (if kd (gS outs i) = 3 then L' i else []) := h1
        have h2 : a ∈ (if kd (gS outs j) = 3 then L' j else []) := h2
        split at h1
        · split at h2
          · exact A'.st.dist i j a h1 h2
          · cases h2
        · cases h1
      · rw [entry_gS] at h2
        rw [gS_map]; exact h2
      · have h : a ∈ (if kd (gS outs i) = 3 then L' i else []) := h
        split at h
        · rename_i k3
          rcases key i with ⟨q, e1, e2, e3, e4⟩ | ⟨e1, e2⟩
          · rcases A'.own i a h with ⟨h1, h2⟩ | ⟨h1, h2⟩
            · exact .inl ⟨h1, by rw [k3, e3]⟩
            · rw [e1] at h2; exact absurd rfl h2
          · rw [e1] at k3; cases k3
        · cases h
      · rcases key i with ⟨q, e1, e2, e3, e4⟩ | ⟨e1, e2⟩
        · exact ⟨by rw [e2]; rfl, rfl⟩
        · exact absurd h e2
    have nobody : ∀ a, (∀ i, a ∉ L' i) → ∀ i, a ∉ (if kd (gS outs i) = 3 then L' i else []) := fun a h i z => by
      split at z
      · exact h i z
      · cases z
    cases fl with
    | nx => exact (show ∀ v B1 H1 L1, Aft G B H (as.map parS) L (vs.map some) B1 H1 outs L1 (vs.map some) → Res G B1 H H1 v .non false → Nb L1 v false → Q v H1 from h) .non B' H' _ fin (.old .non) nb_old
    | rt q m =>
      intro v res
      refine (show ∀ v B1 H1 L1, Aft G B H (as.map parS) L (vs.map some) B1 H1 outs L1 (vs.map some) → Res G B1 H H1 v q m → Nb L1 v m → Q v H1 from h) v B' H' _ fin ?_ ?_
      · cases res with
        | old res => exact .old res
        | new h1 h2 h3 h4 =>
          refine .new h1 ?_ h4
          rcases h2 with h2 | ⟨i, h2, h5⟩
          · exact h2
          · exfalso
            rw [entry_gS] at h5
            rcases okL_get ok (i := i) with e | ⟨q, e⟩ | ⟨q, e⟩ <;> (rw [e] at h5; simp [parS, kd] at h5)
        | xt h1 h2 h3 => exact .xt h1 h2 h3
      · intro hm a ea i hi
        cases res with
        | old _ => cases hm
        | new h1 h2 h3 h4 =>
          cases ea
          exact nobody _ h3 i hi
        | xt h1 h2 h3 =>
          cases ea
          obtain ⟨w, _⟩ := fin.st.own ⟨i, hi⟩
          rw [h1] at w; cases w
  · exact h.elim
theorem base_ok (O : PrgOk G K mg T p) : ∀ r ∈ p.rows, At G P w K mg base T 0 r := by
  intro r hr
  obtain ⟨f, fd, D, hb, hf⟩ := O.fns r hr
  have no : ∀ vs H Q E, SpF G (Ice.callF T 0) r.id vs H Q E → False := by
    rintro vs H Q E ⟨B, as, L, W, _, _, _, _, h⟩
    exact h
  exact ⟨f, fd, _, D, rfl, D.mgf, D.kp, hf, hb, ⟨fun vs H Q E h => (no _ _ _ _ h).elim, fun A outer s H args us vs Q E _ _ _ _ h => (no _ _ _ _ h).elim⟩⟩
theorem all_ok (O : PrgOk G K mg T p) : ∀ n, ∀ r ∈ p.rows, At G P w K mg base T n r
  | 0 => base_ok O
  | n + 1 => step_ok O (all_ok O n)
end
end IceS
end
section
set_option Elab.async false
set_option linter.all false
set_option maxRecDepth 100000
/-! Certified code: is, isinstance, tuple, list, str, all, index; zip, enumerate. -/
namespace IceS
open PySem hiding Env
open PySem.Spec PyProof.Rows L2
open Ice (PV Slot Env FE Ev Op Opd Sx Tg gS sS)

section
variable {X : Cx} {G : Cfg} {n : Nat}
/-! ### is None, True, False -/
theorem is_any {x : V} {v : Value} {b : Bool} (r : RelV x v) : plainIs v (.bool b) = true := by
  cases x with
  | non => cases r; rfl
  | bl _ => cases r; rfl
  | int _ => obtain ⟨t, rfl⟩ := r; rfl
  | str _ => obtain ⟨t, rfl⟩ := r; rfl
  | byt _ => obtain ⟨t, rfl⟩ := r; rfl
  | flt _ => obtain ⟨t, rfl⟩ := r; rfl
  | ref _ => cases r; rfl
  | ty _ => cases r; rfl
theorem beq_bool_of {x : V} {v : Value} {b : Bool} (r : RelV x v) : (v == Value.bool b) = decide (x = .bl b) := by
  cases x with
  | non => cases r; rfl
  | bl c => cases r; cases b <;> cases c <;> rfl
  | int _ => obtain ⟨t, rfl⟩ := r; rfl
  | str _ => obtain ⟨t, rfl⟩ := r; rfl
  | byt _ => obtain ⟨t, rfl⟩ := r; rfl
  | flt _ => obtain ⟨t, rfl⟩ := r; rfl
  | ref _ => cases r; rfl
  | ty _ => cases r; rfl
def isBlB (b : Bool) : PV → Bool
  | .bl c => c == b
  | _ => false
theorem Opn.isBl {B H : Hp} {x : V} {p : PV} (h : Opn G B H x p) (b : Bool) : decide (x = .bl b) = isBlB b p := by
  cases h with
  | old r =>
    cases r with
    | bl c => cases b <;> cases c <;> rfl
    | _ => rfl
  | own o => cases o <;> rfl
theorem Opn.isNon {B H : Hp} {x : V} {p : PV} (h : Opn G B H x p) : decide (x = .non) = Ice.isNon p := by
  cases h with
  | old r => cases r <;> rfl
  | own o => cases o <;> rfl
end
structure IsK where
  f : PV → Bool
  chk : Const → Bool
  c : V
  cv : Value
  pe : ∀ {X : Cx} {k j pos}, chk k = true → PE X (.Constant k j pos) (tC c)
  rel : ∀ {v : Value}, RelV c v → v = cv
  is : ∀ {X : Cx} {G : Cfg} {B H : Hp} {x : V} {v : Value} {p : PV} {E : Value → Shared → Prop} {s : Shared} {Q : Value → Shared → Prop}, RelV x v → Opn G B H x p → Q (.bool (f p)) s → wpAny (model X.prog X.w) X.A (compareOp .Is v cv) Q E s
  isn : ∀ {X : Cx} {G : Cfg} {B H : Hp} {x : V} {v : Value} {p : PV} {E : Value → Shared → Prop} {s : Shared} {Q : Value → Shared → Prop}, RelV x v → Opn G B H x p → Q (.bool (!f p)) s → wpAny (model X.prog X.w) X.A (compareOp .IsNot v cv) Q E s
def iNon : IsK where
  f := Ice.isNon
  chk k := match k with | .none => true | _ => false
  c := .non
  cv := .none
  pe {X k j pos} h := by
    split at h
    · exact pe_non
    · cases h
  rel r := r
  is r o q := is_none_gen (by rw [r.none_iff, o.isNon]; exact q)
  isn r o q := isnot_none_gen (by rw [r.none_iff, o.isNon]; exact q)
theorem isTrue_eq (p : PV) : isBlB true p = Ice.isTrue p := by
  cases p with
  | bl b => cases b <;> rfl
  | _ => rfl
theorem isFalse_eq (p : PV) : isBlB false p = Ice.isFalse p := by
  cases p with
  | bl b => cases b <;> rfl
  | _ => rfl
def iTrue : IsK where
  f := Ice.isTrue
  chk k := match k with | .bool true => true | _ => false
  c := .bl true
  cv := .bool true
  pe {X k j pos} h := by
    split at h
    · exact pe_bl
    · cases h
  rel r := r
  is r o q := wpAny_is_plain (is_any r) (by rw [beq_bool_of r, o.isBl, isTrue_eq]; exact q)
  isn r o q := wpAny_isNot_plain (is_any r) (by rw [beq_bool_of r, o.isBl, isTrue_eq]; exact q)
def iFalse : IsK where
  f := Ice.isFalse
  chk k := match k with | .bool false => true | _ => false
  c := .bl false
  cv := .bool false
  pe {X k j pos} h := by
    split at h
    · exact pe_bl
    · cases h
  rel r := r
  is r o q := wpAny_is_plain (is_any r) (by rw [beq_bool_of r, o.isBl, isFalse_eq]; exact q)
  isn r o q := wpAny_isNot_plain (is_any r) (by rw [beq_bool_of r, o.isBl, isFalse_eq]; exact q)
section
variable {X : Cx} {G : Cfg} {n : Nat} {C : Ctx} {F : FE} {W : Nat → Prop}
theorem nx_is (f : PV → Bool) : Nx1 (Ice.pIs f) := by intro p c; unfold Ice.pIs; split <;> (intro h; cases h)
theorem nx_isN (f : PV → Bool) : Nx1 (Ice.pIsN f) := by intro p c; unfold Ice.pIsN; split <;> (intro h; cases h)
def rIs (G : Cfg) (f : PV → Ice.Out) (c : V) : R2 := fun x y H Q => y = c ∧ rP1 G f x H Q
theorem o_is (k : IsK) : OpR X (compareOp .Is) (rIs G (Ice.pIs k.f) k.c) := by
  intro pins s σ H x y v u Q I rx ry ⟨ey, B, p, r, m, sb, ox, e, g⟩
  subst ey
  obtain rfl := k.rel ry
  unfold Ice.pIs at e
  split at e
  · cases e
    exact k.is rx ox ⟨.bl _, H, I, rfl, g.at sb (.bl _)⟩
  · cases e
theorem o_isN (k : IsK) : OpR X (compareOp .IsNot) (rIs G (Ice.pIsN k.f) k.c) := by
  intro pins s σ H x y v u Q I rx ry ⟨ey, B, p, r, m, sb, ox, e, g⟩
  subst ey
  obtain rfl := k.rel ry
  unfold Ice.pIsN at e
  split at e
  · cases e
    exact k.isn rx ox ⟨.bl _, H, I, rfl, g.at sb (.bl _)⟩
  · cases e
end
def kIs (k : IsK) (a : KO) : KE where
  d := Ice.e1 (Ice.pIs k.f) a.d
  chk C e := match e with | .Compare x [.Is] [.Constant c _ _] _ => k.chk c && a.chk C x | _ => false
  ok {G X n C F W} h e hc := by
    split at hc
    · rw [Bool.and_eq_true] at hc
      have i1 : ∀ σ H Q, tE G F W (Ice.e1 (Ice.pIs k.f) a.d) σ H Q → tOp (rIs G (Ice.pIs k.f) k.c) (tO G F W a.d) (tC k.c) σ H Q := fun σ H Q q => tO_mono (imp1 (nx_is k.f) σ H Q q) fun v H1 q => ⟨rfl, q⟩
      exact ⟨(pe_cmpR (o_is k) (a.ok h hc.2) (k.pe hc.1) rfl).imp i1, (pt_cmpR (o_is k) (a.ok h hc.2) (k.pe hc.1) rfl).imp (tst_of i1)⟩
    · cases hc
def kIsN (k : IsK) (a : KO) : KE where
  d := Ice.e1 (Ice.pIsN k.f) a.d
  chk C e := match e with | .Compare x [.IsNot] [.Constant c _ _] _ => k.chk c && a.chk C x | _ => false
  ok {G X n C F W} h e hc := by
    split at hc
    · rw [Bool.and_eq_true] at hc
      have i1 : ∀ σ H Q, tE G F W (Ice.e1 (Ice.pIsN k.f) a.d) σ H Q → tOp (rIs G (Ice.pIsN k.f) k.c) (tO G F W a.d) (tC k.c) σ H Q := fun σ H Q q => tO_mono (imp1 (nx_isN k.f) σ H Q q) fun v H1 q => ⟨rfl, q⟩
      exact ⟨(pe_cmpR (o_isN k) (a.ok h hc.2) (k.pe hc.1) rfl).imp i1, (pt_cmpR (o_isN k) (a.ok h hc.2) (k.pe hc.1) rfl).imp (tst_of i1)⟩
    · cases hc

/-! ### isinstance -/
def tyP : PV → Option String
  | .non => some "NoneType" | .bl _ => some "bool" | .int _ => some "int" | .str _ => some "str" | .tup _ => some "tuple" | .lst _ => some "list" | .dct _ => some "dict"
  | _ => none
structure TyK where
  x : Str
  T : String
  f : PV → Bool
  boot : bootBuiltins x = some (.type T)
  mem : x ∈ bNames
  nn : x ≠ "__name__"
  kit : ∀ p a, tyP p = some a → kitB a T = some (f p)
section
variable {X : Cx} {G : Cfg} {n : Nat} {C : Ctx} {F : FE} {W : Nat → Prop}
theorem kit_opn {pins : List (Addr × Obj)} {σ : L2.St} {H B : Hp} {s : Shared} {x : V} {u : Value} {p : PV} (g : XG G X n) (I : Inv X pins σ H s) (sb : Sub B H) (rx : RelV x u) (o : Opn G B H x p) (hd : p.dat = true) :
    ∃ a Z, tyP p = some a ∧ PySem.W.KitX X.K u (.type a) Z ∧ Z s.heap ∧ u ≠ .builtin "__main__.__loader__#opaque" := by
  cases p with
  | non => obtain rfl := o.non; cases (show u = Value.none from rx); exact ⟨_, _, rfl, PySem.W.kitx_none, True.intro, fun z => nomatch z⟩
  | bl y => obtain rfl := o.bl; cases (show u = Value.bool y from rx); exact ⟨_, _, rfl, PySem.W.kitx_bool, True.intro, fun z => nomatch z⟩
  | int i => obtain rfl := o.int; obtain ⟨t, q⟩ := (show ∃ t, u = Value.int i t from rx); cases q; exact ⟨_, _, rfl, PySem.W.kitx_int, True.intro, fun z => nomatch z⟩
  | str l => obtain ⟨z, rfl, _, _⟩ := o.str; obtain ⟨t, q⟩ := (show ∃ t, u = Value.str z t from rx); cases q; exact ⟨_, _, rfl, PySem.W.kitx_str, True.intro, fun z => nomatch z⟩
  | tup ps =>
    obtain ⟨a, vs, rfl, ta, _⟩ := o.tup
    cases (show u = Value.ref a from rx)
    obtain ⟨_, _, ⟨o, h1, h2, _⟩, _⟩ := I.tuple (g.K ▸ sb.sqT ta)
    exact ⟨_, _, rfl, PySem.W.kitx_tuple, ⟨o, h1, h2⟩, fun z => nomatch z⟩
  | lst ps =>
    obtain ⟨a, vs, rfl, ta, _⟩ := o.lst sb
    cases (show u = Value.ref a from rx)
    obtain ⟨_, _, n, _, h1⟩ := (show ObjOk X.prog X.w H s.heap a (.lst vs) from I.hok a _ ta)
    exact ⟨_, _, rfl, PySem.W.kitx_list, ⟨_, h1, rfl⟩, fun z => nomatch z⟩
  | dct kvs =>
    obtain ⟨a, es, rfl, ta, _⟩ := o.dct sb
    cases (show u = Value.ref a from rx)
    obtain ⟨_, _, vs, _, o, es, ep, h1, h2, _⟩ := (show ObjOk X.prog X.w H s.heap a (.dK es) from I.hok a _ ta)
    exact ⟨_, _, rfl, PySem.W.kitx_dict, ⟨o, h1, h2.1⟩, fun z => nomatch z⟩
  | fn f => cases hd
  | scr ps => cases hd
def rInst (G : Cfg) (k : TyK) : List V → Hp → VK → Prop := fun vs H Q => ∃ x, vs = [x, .ty k.T] ∧ rP1 G (Ice.pIs k.f) x H Q
theorem c_inst (g : XG G X n) (k : TyK) : CallR X (.builtin "isinstance") (rInst G k) := by
  intro pins s σ H xs us Q I r ⟨x, hx, B, p, q, m, sb, ox, e, gv⟩
  subst hx
  obtain ⟨u1, u2, rfl, r1, r2⟩ := vals2 r
  obtain rfl : u2 = Value.type k.T := r2
  unfold Ice.pIs at e
  split at e
  · rename_i hd
    cases e
    obtain ⟨a, Z, e1, kx, z, no⟩ := kit_opn g I sb r1 ox hd
    exact PySem.W.kia_one kx I.kIn z (kit_ty (k.kit p a e1)) no fun tk => ⟨.bl _, H, I.tok tk, rfl, gv.at sb (.bl _)⟩
  · cases e
theorem inst_mem : ("isinstance" : Str) ∈ bNames := bmem (by decide)
end
def kInst (k : TyK) (a : KO) : KE where
  d := Ice.e1 (Ice.pIs k.f) a.d
  chk C e := match e with | .Call (.Name x _) [y, .Name t _] [] _ => seq x "isinstance" && isGl C x && a.chk C y && notStar y && seq t k.x && isGl C t | _ => false
  ok {G X n C F W} h e hc := by
    split at hc
    · rename_i x p1 y t p2 pos
      simp only [Bool.and_eq_true] at hc
      obtain ⟨⟨⟨⟨⟨h1, h2⟩, h3⟩, h4⟩, h5⟩, h6⟩ := hc
      obtain ⟨gl, db⟩ := isGl_ok h h2
      obtain ⟨gl2, db2⟩ := isGl_ok h h6
      have e1 := seq_eq h1
      have e2 := seq_eq h5
      subst e1 e2
      exact both ((pe_callB (c_inst h.toXG k) gl (h.blt _ inst_mem) PyProof.Rows.boot_isinstance (pa_cons (a.ok h h3) (pa_cons (pe_bltn gl2 (h.blt _ k.mem) k.boot (v := .ty k.T) rfl k.nn db2) pa_nil rfl) (star_cons h4 _ _)) (by decide) db (star_cons h4 _ _) rfl).imp
        fun σ H Q q => tO_mono (imp1 (nx_is k.f) σ H Q q) fun v H1 q => ⟨v, rfl, q⟩) rfl
    · cases hc
theorem kit_int (p : PV) (a : String) (h : tyP p = some a) : kitB a "int" = some (Ice.isInt p) := by
  cases p <;> cases h <;> first | exact (show kitB _ _ = some true by decide +kernel) | exact (show kitB _ _ = some false by decide +kernel)
theorem kit_bool (p : PV) (a : String) (h : tyP p = some a) : kitB a "bool" = some (Ice.isBool p) := by
  cases p <;> cases h <;> first | exact (show kitB _ _ = some true by decide +kernel) | exact (show kitB _ _ = some false by decide +kernel)
theorem kit_str (p : PV) (a : String) (h : tyP p = some a) : kitB a "str" = some (Ice.isStr p) := by
  cases p <;> cases h <;> first | exact (show kitB _ _ = some true by decide +kernel) | exact (show kitB _ _ = some false by decide +kernel)
theorem kit_tup (p : PV) (a : String) (h : tyP p = some a) : kitB a "tuple" = some (Ice.isTup p) := by
  cases p <;> cases h <;> first | exact (show kitB _ _ = some true by decide +kernel) | exact (show kitB _ _ = some false by decide +kernel)
theorem kit_lst (p : PV) (a : String) (h : tyP p = some a) : kitB a "list" = some (Ice.isLst p) := by
  cases p <;> cases h <;> first | exact (show kitB _ _ = some true by decide +kernel) | exact (show kitB _ _ = some false by decide +kernel)
def yInt : TyK := ⟨"int", "int", Ice.isInt, rfl, bmem (by decide), by decide, kit_int⟩
def yBool : TyK := ⟨"bool", "bool", Ice.isBool, rfl, bmem (by decide), by decide, kit_bool⟩
def yStr : TyK := ⟨"str", "str", Ice.isStr, rfl, bmem (by decide), by decide, kit_str⟩
def yTup : TyK := ⟨"tuple", "tuple", Ice.isTup, rfl, bmem (by decide), by decide, kit_tup⟩
def yLst : TyK := ⟨"list", "list", Ice.isLst, rfl, bmem (by decide), by decide, kit_lst⟩

/-! ### tuple, list, str, all -/
section
variable {X : Cx} {G : Cfg} {n : Nat} {C : Ctx} {F : FE} {W : Nat → Prop}
theorem c_tuple (g : XG G X n) : CallR X (.type "tuple") (rC1 G Ice.pTuple) := by
  intro pins s σ H xs us Q I r ⟨x, hx, B, p, q, m, sb, ox, e, gv⟩
  subst hx
  unfold Ice.pTuple Ice.seqOf at e
  cases p with
  | tup ps =>
    cases e
    obtain ⟨a, vs, rfl, ta, la⟩ := ox.tup
    exact call_tuple_of pins s σ H _ us Q I r ⟨a, vs, rfl, .inr ⟨g.K ▸ sb.sqT ta, gv.at sb (.tup ta la)⟩⟩
  | lst ps =>
    cases e
    obtain ⟨a, vs, rfl, ta, la⟩ := ox.lst sb
    exact call_tuple_of pins s σ H _ us Q I r ⟨a, vs, rfl, .inl ⟨SqL.of ta, fun l hl => gv.tup sb la hl⟩⟩
  | _ => cases e
theorem c_list (g : XG G X n) : CallR X (.type "list") (rC1 G Ice.pList) := by
  intro pins s σ H xs us Q I r ⟨x, hx, B, p, q, m, sb, ox, e, gv⟩
  subst hx
  unfold Ice.pList at e
  cases p with
  | tup ps =>
    cases e
    obtain ⟨a, vs, rfl, ta, la⟩ := ox.tup
    exact call_list_of pins s σ H _ us Q I r ⟨a, vs, rfl, .inr (g.K ▸ sb.sqT ta), fun l hl => gv.lst sb la hl⟩
  | lst ps =>
    cases e
    obtain ⟨a, vs, rfl, ta, la⟩ := ox.lst sb
    exact call_list_of pins s σ H _ us Q I r ⟨a, vs, rfl, .inl (SqL.of ta), fun l hl => gv.lst sb la hl⟩
  | scr ps =>
    cases e
    obtain ⟨a, vs, rfl, ta, la⟩ := ox.scr
    exact call_list_of pins s σ H _ us Q I r ⟨a, vs, rfl, .inl (g.K ▸ sb.sqL ta), fun l hl => gv.lst sb la hl⟩
  | _ => cases e
theorem c_str : CallR X (.type "str") (rC1 G Ice.pStr) := by
  intro pins s σ H xs us Q I r ⟨x, hx, B, p, q, m, sb, ox, e, gv⟩
  subst hx
  unfold Ice.pStr at e
  split at e
  · cases e
    obtain ⟨z, rfl, rfl, hz⟩ := ox.str
    exact SkE.call_str_str pins s σ H _ us Q I r ⟨z, rfl, gv.at sb (.str z hz)⟩
  · cases e
theorem allB_rep {B : Hp} : ∀ {vs : List V} {ps : List PV} {b : Bool}, RepL G B vs ps → Ice.allB ps = some b → ∃ bs : List Bool, vs = bs.map V.bl ∧ b = bs.all id
  | _, _, b, .nil, h => by cases h; exact ⟨[], rfl, rfl⟩
  | _, _, b, .cons (p := p) r t, h => by
    cases p with
    | bl c =>
      have h : (Ice.allB _).map (c && ·) = some b := h
      cases e : Ice.allB _ with
      | none => rw [e] at h; cases h
      | some d =>
        rw [e] at h
        cases h
        obtain ⟨bs, h1, h2⟩ := allB_rep t e
        cases r
        exact ⟨c :: bs, by rw [h1]; rfl, by rw [h2]; rfl⟩
    | _ => cases h
theorem anyB_rep {B : Hp} : ∀ {vs : List V} {ps : List PV} {b : Bool}, RepL G B vs ps → Ice.anyB ps = some b → ∃ bs : List Bool, vs = bs.map V.bl ∧ b = bs.any id
  | _, _, b, .nil, h => by cases h; exact ⟨[], rfl, rfl⟩
  | _, _, b, .cons (p := p) r t, h => by
    cases p with
    | bl c =>
      have h : (Ice.anyB _).map (c || ·) = some b := h
      cases e : Ice.anyB _ with
      | none => rw [e] at h; cases h
      | some d =>
        rw [e] at h
        cases h
        obtain ⟨bs, h1, h2⟩ := anyB_rep t e
        cases r
        exact ⟨c :: bs, by rw [h1]; rfl, by rw [h2]; rfl⟩
    | _ => cases h
theorem nx_all : Nx1 Ice.pAll := by intro p c; unfold Ice.pAll; split; exact nx_ofB _ c; (intro h; cases h)
theorem nx_any : Nx1 Ice.pAny := by intro p c; unfold Ice.pAny; split; exact nx_ofB _ c; (intro h; cases h)
theorem c_all (g : XG G X n) : CallR X (.builtin "all") (rC1 G Ice.pAll) := by
  intro pins s σ H xs us Q I r ⟨x, hx, B, p, q, m, sb, ox, e, gv⟩
  subst hx
  unfold Ice.pAll at e
  split at e
  · obtain ⟨a, vs, rfl, ta, la⟩ := ox.lst sb
    unfold Ice.ofB at e
    split at e
    · rename_i b hb
      cases e
      obtain ⟨bs, rfl, rfl⟩ := allB_rep la hb
      exact cr_all g.calm pins s σ H _ us Q I r ⟨a, bs, rfl, SqL.of ta, gv.at sb (.bl _)⟩
    · cases e
  · cases e
theorem c_any (g : XG G X n) : CallR X (.builtin "any") (rC1 G Ice.pAny) := by
  intro pins s σ H xs us Q I r ⟨x, hx, B, p, q, m, sb, ox, e, gv⟩
  subst hx
  unfold Ice.pAny at e
  split at e
  · obtain ⟨a, vs, rfl, ta, la⟩ := ox.lst sb
    unfold Ice.ofB at e
    split at e
    · rename_i b hb
      cases e
      obtain ⟨bs, rfl, rfl⟩ := anyB_rep la hb
      exact cr_any g.calm pins s σ H _ us Q I r ⟨a, bs, rfl, SqL.of ta, gv.at sb (.bl _)⟩
    · cases e
  · cases e
end
def tTuple : T1 := ⟨"tuple", "tuple", Ice.pTuple, nx_tuple, rfl, c_tuple, bmem (by decide), by decide⟩
def tList : T1 := ⟨"list", "list", Ice.pList, nx_list, rfl, c_list, bmem (by decide), by decide⟩
def tStr : T1 := ⟨"str", "str", Ice.pStr, nx_str, rfl, fun _ => c_str, bmem (by decide), by decide⟩
def bAll : B1 := ⟨"all", "all", Ice.pAll, nx_all, rfl, c_all, bmem (by decide), by decide⟩
def bAny : B1 := ⟨"any", "any", Ice.pAny, nx_any, rfl, c_any, bmem (by decide), by decide⟩
end IceS
end
section
set_option Elab.async false
set_option linter.all false
set_option maxRecDepth 100000
/-! Certified code: list(range), tuple(range), index, [::-1], pop, zip; defs and constants as values. -/
namespace IceS
open PySem hiding Env
open PySem.Spec PyProof.Rows L2
open Ice (PV Slot Env FE Ev Op Opd Sx Tg gS sS)

section
variable {X : Cx} {G : Cfg} {n : Nat} {C : Ctx} {F : FE} {W : Nat → Prop}
theorem rg_rep {B : Hp} (j : Int) : RepL G B (rgV 0 j) (Ice.rangeL 0 j.toNat) := by
  unfold rgV Ice.rangeL
  rw [show (j - 0).toNat = j.toNat by omega]
  have go : ∀ l : List Nat, RepL G B (l.map fun i => V.int (0 + (i : Nat))) (l.map fun (k : Nat) => PV.int (0 + (k : Int))) := by
    intro l
    induction l with
    | nil => exact .nil
    | cons a l ih => exact .cons (.int _) ih
  exact go _
theorem rg_ok {j : Int} (h : Ice.okR j = true) (hl : (Ice.rangeL 0 j.toNat).length ≤ Ice.LIM) : RgOk 0 j := by
  obtain ⟨h1, h2⟩ := okR_ok h
  have hl : j.toNat ≤ Ice.LIM := by simpa [Ice.rangeL] using hl
  exact ⟨by omega, by omega, h1, h2, by
    have : (2 : Nat) ^ 24 = Ice.LIM := by decide
    omega⟩
theorem imp_lr {a : Op} : ∀ σ H Q, tE G F W (Ice.eItL (Ice.itR1 a)) σ H Q → tLstRg (tRg1 (tO G F W a)) σ H Q := by
  rintro σ H Q ⟨B, ρ, L, S, h⟩
  have h := (show wpR W ((Ice.itR1 a F ρ).bind fun x => if x.1.length ≤ Ice.LIM then Ice.R.ok (PV.lst x.1, true, Ice.unlock x.2.1 x.2.2) else .stuck) _ from h).bind
  refine ⟨B, ρ, L, S, (show wpR W ((a F ρ).bind _) _ from h).bind.mono (fun _ h => h) ?_⟩
  rintro ⟨x, ρ1⟩ _ h v B1 H1 L1 A r
  have h := (show wpR W ((Ice.deref ρ1 x).bind _) _ from h).bind
  obtain ⟨p, e1, h⟩ := h.got fun _ => deref_nx
  have op := r.opn A.st e1
  cases p with
  | int j =>
    have h : wpR W (if Ice.okR j = true then Ice.R.ok (Ice.rangeL 0 j.toNat, (none : Option Nat), ρ1) else .stuck) _ := h
    split at h
    · rename_i hj
      have h : wpR W (if (Ice.rangeL 0 j.toNat).length ≤ Ice.LIM then Ice.R.ok (PV.lst (Ice.rangeL 0 j.toNat), true, ρ1) else .stuck) _ := h
      split at h
      · rename_i hl
        exact ⟨j, op.int, rg_ok hj hl, fun q hq => (gives_of (p := .lst (Ice.rangeL 0 j.toNat)) (m := true) A h).lst A.st.sub (rg_rep j) hq⟩
      · exact h.elim
    · exact h.elim
  | _ => exact h.elim
theorem imp_tr {a : Op} : ∀ σ H Q, tE G F W (Ice.eItT (Ice.itR1 a)) σ H Q → tTupRg (tRg1 (tO G F W a)) σ H Q := by
  rintro σ H Q ⟨B, ρ, L, S, h⟩
  have h := (show wpR W ((Ice.itR1 a F ρ).bind fun x => if x.1.length ≤ Ice.LIM then Ice.R.ok (PV.tup x.1, false, Ice.unlock x.2.1 x.2.2) else .stuck) _ from h).bind
  refine ⟨B, ρ, L, S, (show wpR W ((a F ρ).bind _) _ from h).bind.mono (fun _ h => h) ?_⟩
  rintro ⟨x, ρ1⟩ _ h v B1 H1 L1 A r
  have h := (show wpR W ((Ice.deref ρ1 x).bind _) _ from h).bind
  obtain ⟨p, e1, h⟩ := h.got fun _ => deref_nx
  have op := r.opn A.st e1
  cases p with
  | int j =>
    have h : wpR W (if Ice.okR j = true then Ice.R.ok (Ice.rangeL 0 j.toNat, (none : Option Nat), ρ1) else .stuck) _ := h
    split at h
    · rename_i hj
      have h : wpR W (if (Ice.rangeL 0 j.toNat).length ≤ Ice.LIM then Ice.R.ok (PV.tup (Ice.rangeL 0 j.toNat), false, ρ1) else .stuck) _ := h
      split at h
      · rename_i hl
        exact ⟨j, op.int, rg_ok hj hl, fun q hq => (gives_of (p := .tup (Ice.rangeL 0 j.toNat)) (m := false) A h).tup A.st.sub (rg_rep j) hq⟩
      · exact h.elim
    · exact h.elim
  | _ => exact h.elim
theorem list_mem : ("list" : Str) ∈ bNames := bmem (by decide)
theorem tuple_mem : ("tuple" : Str) ∈ bNames := bmem (by decide)
end
/-- list(range(a)) -/
def kLR (a : KO) : KE where
  d := Ice.eItL (Ice.itR1 a.d)
  chk C e := match e with | .Call (.Name x _) [.Call (.Name y _) [z] [] _] [] _ => seq x "list" && isGl C x && seq y "range" && isGl C y && a.chk C z && notStar z | _ => false
  ok {G X n C F W} h e hc := by
    split at hc
    · simp only [Bool.and_eq_true] at hc
      obtain ⟨⟨⟨⟨⟨h1, h2⟩, h3⟩, h4⟩, h5⟩, h6⟩ := hc
      have e1 := seq_eq h1
      have e2 := seq_eq h3
      subst e1 e2
      exact both ((pe_listRg h.calm (isGl_ok h h2).1 (h.blt _ list_mem) (prg_1 (isGl_ok h h4).1 (h.blt _ range_mem) (a.ok h h5) (star_cons h6 _ _)) rfl).imp imp_lr) rfl
    · cases hc
def kTR (a : KO) : KE where
  d := Ice.eItT (Ice.itR1 a.d)
  chk C e := match e with | .Call (.Name x _) [.Call (.Name y _) [z] [] _] [] _ => seq x "tuple" && isGl C x && seq y "range" && isGl C y && a.chk C z && notStar z | _ => false
  ok {G X n C F W} h e hc := by
    split at hc
    · simp only [Bool.and_eq_true] at hc
      obtain ⟨⟨⟨⟨⟨h1, h2⟩, h3⟩, h4⟩, h5⟩, h6⟩ := hc
      have e1 := seq_eq h1
      have e2 := seq_eq h3
      subst e1 e2
      exact both ((pe_tupRg h.calm (isGl_ok h h2).1 (h.blt _ tuple_mem) (prg_1 (isGl_ok h h4).1 (h.blt _ range_mem) (a.ok h h5) (star_cons h6 _ _)) rfl).imp imp_tr) rfl
    · cases hc

/-! ### defs and constants as values -/
def kFn (f : Nat) : KE where
  d := Ice.eC (.fn f)
  chk C e := nameIs (fun x => isGl C x && match lkS x C.gf with | some g => f == g | none => false) e
  ok {G X n C F W} h e hc := by
    obtain ⟨x, pos, rfl, hx⟩ := nameIs_ok hc
    rw [Bool.and_eq_true] at hx
    obtain ⟨gl, db⟩ := isGl_ok h hx.1
    have h2 := hx.2
    split at h2
    · rename_i g hg
      rw [beq_iff_eq] at h2
      subst h2
      obtain ⟨fa, fd, ps, e1, e2, e3, e4, e5⟩ := h.fns x f (lkS_mem hg)
      exact both ((pe_glob gl e1 (v := .ref fa) rfl db).imp (imp_c fun B => .fn e3)) rfl
    · cases h2
def kGc (i : Int) : KE where
  d := Ice.eC (.int i)
  chk C e := nameIs (fun x => isGl C x && match lkS x C.gc with | some j => i == j | none => false) e
  ok {G X n C F W} h e hc := by
    obtain ⟨x, pos, rfl, hx⟩ := nameIs_ok hc
    rw [Bool.and_eq_true] at hx
    obtain ⟨gl, db⟩ := isGl_ok h hx.1
    have h2 := hx.2
    split at h2
    · rename_i g hg
      rw [beq_iff_eq] at h2
      subst h2
      obtain ⟨t, e1⟩ := h.gc x i (lkS_mem hg)
      exact both ((pe_glob gl e1 (v := .int i) ⟨t, rfl⟩ db).imp (imp_c fun B => .int i)) rfl
    · cases h2
end IceS
end
section
set_option Elab.async false
set_option linter.all false
set_option maxRecDepth 100000
/-! Certified code: index, [::-1], pop, zip. -/
namespace IceS
open PySem hiding Env
open PySem.Spec PyProof.Rows L2
open Ice (PV Slot Env FE Ev Op Opd Sx Tg gS sS)

section
variable {X : Cx} {G : Cfg} {n : Nat} {C : Ctx} {F : FE} {W : Nat → Prop}
theorem imp2g {ok : PV → Bool} {f : PV → PV → Ice.Out} (nx : Nx2 f) {a b : Op} : ∀ σ H Q, tE G F W (Ice.e2g ok f a b) σ H Q → tO G F W a σ H fun x H1 => (∃ B p, Sub B H1 ∧ Opn G B H1 x p ∧ ok p = true) ∧ tO G F W b σ H1 fun y H2 => rP2 G f x y H2 Q := by
  rintro σ H Q ⟨B, ρ, L, S, h⟩
  refine ⟨B, ρ, L, S, (show wpR W ((a F ρ).bind _) _ from h).bind.mono (fun _ h => h) ?_⟩
  rintro ⟨x, ρ1⟩ _ h v B1 H1 L1 A1 r1
  obtain ⟨p0, e0, h⟩ := (show wpR W ((Ice.deref ρ1 x).bind _) _ from h).bind.got fun _ => deref_nx
  have h : wpR W (if ok p0 = true then (b F ρ1).bind fun (y, ρ2) => (Ice.deref ρ2 x).bind fun p => (Ice.deref ρ2 y).bind fun q => (f p q).bind fun (v, n) => .ok (v, n, ρ2) else .stuck) _ := h
  split at h
  · rename_i hok
    refine ⟨⟨B1, p0, A1.st.sub, r1.opn A1.st e0, hok⟩, B1, ρ1, L1, A1.st, h.bind.mono (fun _ h => h) ?_⟩
    rintro ⟨y, ρ2⟩ _ h u B2 H2 L2 A2 r2
    obtain ⟨p, e1, h⟩ := (show wpR W ((Ice.deref ρ2 x).bind _) _ from h).bind.got fun _ => deref_nx
    obtain ⟨q, e2, h⟩ := (show wpR W ((Ice.deref ρ2 y).bind _) _ from h).bind.got fun _ => deref_nx
    obtain ⟨⟨r, m⟩, e3, h⟩ := (show wpR W ((f p q).bind _) _ from h).bind.got (nx p q)
    exact ⟨B2, p, q, r, m, A2.st.sub, (r1.mono A2.ext.bb).opn A2.st e1, r2.opn A2.st e2, e3, gives_of (A1.trans A2) h⟩
  · exact h.elim
theorem indexL_spec {q : PV} : ∀ {ps : List PV} {o : Option Nat}, Ice.indexL q ps = some o → (∀ (j : Nat) p, ps[j]? = some p → ∃ c, Ice.peq p q = some c) ∧
    ∀ k, o = some k → (∃ p, ps[k]? = some p ∧ Ice.peq p q = some true) ∧ ∀ (m : Nat) p, m < k → ps[m]? = some p → Ice.peq p q = some false
  | [], o, h => by cases h; exact ⟨fun j p h => by simp at h, fun k h => by cases h⟩
  | p :: ps, o, h => by
    unfold Ice.indexL at h
    split at h
    · rename_i o' h1 h2
      cases h
      obtain ⟨i1, i2⟩ := indexL_spec h2
      refine ⟨fun j x hx => ?_, fun k hk => ?_⟩
      · cases j with
        | zero => simp at hx; subst hx; exact ⟨_, h1⟩
        | succ j => exact i1 j x (by simpa using hx)
      · cases hk
        exact ⟨⟨p, rfl, h1⟩, fun m x hm _ => absurd hm (by omega)⟩
    · rename_i o' h1 h2
      cases h
      obtain ⟨i1, i2⟩ := indexL_spec h2
      refine ⟨fun j x hx => ?_, fun k hk => ?_⟩
      · cases j with
        | zero => simp at hx; subst hx; exact ⟨_, h1⟩
        | succ j => exact i1 j x (by simpa using hx)
      · cases o' with
        | none => cases hk
        | some k' =>
          cases hk
          obtain ⟨⟨x, hx, ex⟩, no⟩ := i2 k' rfl
          refine ⟨⟨x, by simpa using hx, ex⟩, fun m y hm hy => ?_⟩
          cases m with
          | zero => simp at hy; subst hy; exact h1
          | succ m =>
            have hm : m + 1 < k' + 1 := hm
            exact no m y (by omega) (by simpa using hy)
    · cases h
theorem nx_index : Nx2 Ice.pIndex := by intro p q c; unfold Ice.pIndex; (repeat' split) <;> (intro h; cases h)
def rIdx (G : Cfg) : V → List V → Hp → VK → Prop := fun x xs H Q => ∃ y, xs = [y] ∧ rP2 G Ice.pIndex x y H Q
theorem mt_idx (g : XG G X n) : MtR X "list.index" (rIdx G) := by
  intro pins s σ H x xs v us Q I rx rs ⟨y, exs, B, p, q, r, m, sb, ox, oy, e, gv⟩
  subst exs
  obtain ⟨u, rfl, ry⟩ := vals1 rs
  have hp : ∃ ps, p = .lst ps := by
    unfold Ice.pIndex at e
    cases p with
    | lst ps => exact ⟨ps, rfl⟩
    | _ => cases e
  obtain ⟨ps, rfl⟩ := hp
  obtain ⟨a, vs, rfl, ta, la⟩ := ox.lst sb
  cases rx
  unfold Ice.pIndex at e
  have e : (match Ice.indexL q ps with | some (some k) => Ice.old (.int k) | _ => .stuck) = .ok (r, m) := e
  split at e
  · rename_i k hk
    cases e
    obtain ⟨all, sp⟩ := indexL_spec hk
    obtain ⟨⟨pk, hpk, ek⟩, no⟩ := sp k rfl
    obtain ⟨its, rv, ⟨⟨cls, dd, data, sl⟩, nn, ho, hc, hdn, hd⟩, hlen⟩ := I.list (SqL.of ta)
    simp only at hc hd
    subst hc hd
    have un := g.room.units
    have la' := la.mono sb
    have len : its.length = ps.length := by rw [← rv.length, la.length]
    have hkl : k < ps.length := by
      obtain ⟨h, _⟩ := List.getElem?_eq_some_iff.mp hpk
      exact h
    have hj : k < its.toArray.size := by rw [List.size_toArray, len]; exact hkl
    have hsl := sizeLine_eq
    have lv := la.length
    refine call_meets PySem.F.slot_list_index ⟨_, ho, rfl⟩ PySem.F.entry_list_index (PySem.F.args_list_index_2 _ _)
      (SeqAt.list_index2_found a its.toArray nn dd sl u (fun j => match ps[j]? with | some p => (Ice.peq p q).getD false | none => false) k hj (Nat.zero_le _) (by omega) (by simp only [hpk, ek]; rfl) (fun m' hm _ hmk => ?_)) ⟨ho, fun j hj' => ?_, ?_⟩
    · have hml : m' < ps.length := by rw [← len]; simpa using hm
      have hx : ps[m']? = some ps[m'] := List.getElem?_eq_getElem hml
      simp only [hx, no m' _ hmk hx]
      rfl
    · have hjl : j < ps.length := by rw [← len]; simpa using hj'
      have hx : ps[j]? = some ps[j] := List.getElem?_eq_getElem hjl
      obtain ⟨c, hc⟩ := all j _ hx
      obtain ⟨vj, hv, rj⟩ := la'.get hx
      obtain ⟨uj, hu, ruj⟩ := rv.get hv
      have eu : its.toArray[j] = uj := by
        obtain ⟨hl, e⟩ := List.getElem?_eq_some_iff.mp hu
        simpa using e
      rw [eu]
      simp only [hx, hc]
      exact (eq3 I g.K 12 X.A.in1 (by show X.A.units + 1 + 12 < cLine; omega) _ q c hc vj y uj u rj (oy.rep sb) ruj ry).eq
    · exact ⟨.int k, H, I.tok _, ⟨_, rfl⟩, gv.at sb (.int _)⟩
  · cases e
theorem ty_lst {B H : Hp} {x : V} {p : PV} (s : Sub B H) (o : Opn G B H x p) (h : Ice.isLst p = true) : tyV G.K "list" x H := by
  cases p with
  | lst ps =>
    obtain ⟨a, vs, rfl, ta, _⟩ := o.lst s
    exact .inl ⟨rfl, vs, SqL.of ta⟩
  | _ => cases h
end
/-- no super() -/
def plainAt : Expr → Bool
  | .Call _ [] [] _ => false
  | _ => true
theorem plainAt_ok {e : Expr} (h : plainAt e = true) (m : Str) (env : PySem.Env) : attributeBase e m env (eval e env) = eval e env := by
  cases e with
  | Call f as ks pos =>
    cases as with
    | nil =>
      cases ks with
      | nil => cases h
      | cons _ _ => cases f <;> rfl
    | cons _ _ => cases f <;> rfl
  | _ => rfl
/-- a.index(b), a list -/
def kIndex (a b : KO) : KE where
  d := Ice.e2g Ice.isLst Ice.pIndex a.d b.d
  chk C e := match e with | .Call (.Attribute o m ap) [x] [] cp => a.chk C o && seq m "index" && b.chk C x && notStar x && plainAt o && Nat.beq ap.endLine cp.line | _ => false
  ok {G X n C F W} h e hc := by
    split at hc
    · rename_i o m ap x cp
      simp only [Bool.and_eq_true] at hc
      obtain ⟨⟨⟨⟨⟨h1, h2⟩, h3⟩, h4⟩, h5⟩, h6⟩ := hc
      have em := seq_eq h2
      subst em
      have hl : (ap.endLine == cp.line) = true := by rw [Nat.eq_of_beq_eq_true h6]; exact beq_self_eq_true _
      have := pe_bm (X := X) (r := rIdx G) PySem.F.plainAttrs_list PySem.F.slot_list_index PySem.F.type_list_index (mt_idx h.toXG) (a.ok h h1) (pa_cons (b.ok h h3) pa_nil (star_cons h4 _ _)) (cpos := cp) (apos := ap) (plainAt_ok h5 _ _) (few1 h4 _ _) hl (star_cons h4 _ _) rfl
      rw [h.K] at this
      refine both (this.imp ?_) rfl
      intro σ H Q q
      refine tO_mono (imp2g nx_index σ H Q q) fun v H1 ⟨⟨B, p, s1, o1, l1⟩, q⟩ => ⟨ty_lst s1 o1 l1, tO_mono q fun w H2 q => ⟨w, rfl, q⟩⟩
    · cases hc
end IceS
end
section
set_option Elab.async false
set_option linter.all false
set_option maxRecDepth 100000
/-! Certified code: [::-1], pop, zip. -/
namespace IceS
open PySem hiding Env
open PySem.Spec PyProof.Rows L2
open Ice (PV Slot Env FE Ev Op Opd Sx Tg gS sS)
section
variable {X : Cx} {G : Cfg} {n : Nat} {C : Ctx} {F : FE} {W : Nat → Prop}
theorem nx_rev : Nx1 Ice.pRev := by intro p c; unfold Ice.pRev; split <;> (intro h; cases h)
theorem imp_rev {a : Op} : ∀ σ H Q, tE G F W (Ice.e1 Ice.pRev a) σ H Q → tRevL G.K (tO G F W a) σ H Q := fun σ H Q h => tO_mono (imp1 nx_rev σ H Q h) fun v H1 ⟨B, p, r, m, sb, ox, e, gv⟩ => by
  cases p with
  | lst ps =>
    cases e
    obtain ⟨a, vs, rfl, ta, la⟩ := ox.lst sb
    exact ⟨a, vs, rfl, SqL.of ta, fun q hq => gv.lst sb la.rev hq⟩
  | _ => cases e
end
def kRev (a : KO) : KE where
  d := Ice.e1 Ice.pRev a.d
  chk C e := match e with | .Subscript x (.Slice none none (some (.UnaryOp .USub (.Constant (.int 1) _ _) _)) _) _ => a.chk C x | _ => false
  ok {G X n C F W} h e hc := by
    split at hc
    · rename_i x k p1 p2 p3 pos
      have := pe_revL (X := X) (a.ok h hc) (pos := pos) (p1 := p1) (p2 := p2) (p3 := p3) (k := k)
      rw [h.K] at this
      exact both (this.imp imp_rev) rfl
    · cases hc

/-! ### a.pop(k) -/
section
variable {X : Cx} {G : Cfg} {n : Nat} {C : Ctx} {F : FE} {W : Nat → Prop}
def rPopA (G : Cfg) : V → List V → Hp → VK → Prop := fun x xs H Q => ∃ B a ps y i j p, Sub B H ∧ x = .ref a ∧ xs = [y] ∧ B a = none ∧ ObjR G B H a (.lst ps) ∧ y = .int i ∧ Ice.ixOf ps.length i = some j ∧ ps[j]? = some p ∧ ∀ v o', Rep G B v p → ObjR G B (upd H a o') a (.lst (ps.eraseIdx j)) → Q v (upd H a o')
theorem mt_popA : MtR X "list.pop" (rPopA G) := by
  intro pins s σ H x xs v us Q I rx rs ⟨B, a, ps, y, i, j, p, sb, ex, exs, hb, ob, ey, hj, hp, k⟩
  subst ex exs ey
  cases ob with
  | @lst vs _ ha la =>
    obtain ⟨w, hw, rw'⟩ := la.get hp
    have hj' : ixN vs.length i = some j := by rw [la.length]; exact hj
    obtain ⟨h1, h2, h3, h4⟩ := ixN_seq hj'
    have hl := (I.lst ha)
    obtain ⟨_, _, _, _, hz⟩ := hl
    have hn := line63
    exact mt_popAt pins s σ H _ _ v us Q I rx rs ⟨a, vs, i, j, w, rfl, rfl, ha, by omega, by omega, h1, hw, k w _ rw' (.lst upd_same (la.erase j))⟩
theorem imp_pop {i : Nat} {k : Op} : ∀ σ H Q, tE G F W (Ice.ePop1 i k) σ H Q → tBM G.K "list" (rPopA G) (tVar i) (tCons (tO G F W k) tNil) σ H Q := by
  rintro σ H Q ⟨B, ρ, L, S, h⟩
  obtain ⟨⟨ps0, hp0⟩, h⟩ := ownL_ok (show wpR W (Ice.ownL i ρ _) _ from h)
  obtain ⟨a0, hx, _, _, ho0⟩ := S.mine hp0
  have ty : tyV G.K "list" (.ref a0) H := by
    cases ho0 with
    | lst ha la => exact .inl ⟨rfl, _, SqL.of ha⟩
  refine ⟨_, gσ_some hx, ty, B, ρ, L, S, h.bind.mono (fun _ h => h) ?_⟩
  rintro ⟨x, ρ1⟩ _ h y B1 H1 L1 A r
  obtain ⟨q, e1, h⟩ := (show wpR W ((Ice.deref ρ1 x).bind _) _ from h).bind.got fun _ => deref_nx
  obtain ⟨⟨v', ρ3⟩, e2, h9⟩ := (show wpR W ((Ice.chg i (Ice.mPop1 q) ρ1).bind _) _ from h).bind.got fun _ => chg_nx (nx_mPop1 q)
  obtain ⟨p1, p', s', e3, rfl, alt⟩ := chg_spec e2
  obtain ⟨a, hx', hL, hb, ho⟩ := A.st.mine (i := i) (p := p1) (alt.imp (fun z => z.1) fun z => z.1)
  rw [hx] at hx'
  cases hx'
  have oq := r.opn A.st e1
  cases p1 with
  | lst ps =>
    cases q with
    | int m =>
      have e3 : (match Ice.ixOf ps.length m with | some j => (match ps[j]? with | some x => Ice.R.ok (x, PV.lst (ps.eraseIdx j)) | none => .stuck) | none => .stuck) = .ok (v', p') := e3
      cases ej : Ice.ixOf ps.length m with
      | none => rw [ej] at e3; cases e3
      | some j =>
        rw [ej] at e3
        have e3 : (match ps[j]? with | some x => Ice.R.ok (x, PV.lst (ps.eraseIdx j)) | none => .stuck) = .ok (v', p') := e3
        cases ep : ps[j]? with
        | none => rw [ep] at e3; cases e3
        | some p =>
          rw [ep] at e3
          cases e3
          refine ⟨B1, a0, ps, y, m, j, v', A.st.sub, rfl, rfl, hb, ho, oq.int, ej, ep, fun v o' rv ob => ?_⟩
          exact (show ∀ v B1 H1 L1, Aft G B H ρ L σ B1 H1 (sS ρ1 i s') L1 σ → Res G B1 H H1 v v' false → Nb L1 v false → Q v H1 from h9) v B1 _ L1 (A.write alt hx hL hb ob) (.old rv) nb_old
    | _ => cases e3
  | _ => cases e3
end
def kPop1 (i : Nat) (k : KO) : KE where
  d := Ice.ePop1 i k.d
  chk C e := match e with | .Call (.Attribute (.Name x _) m ap) [y] [] cp => isVar C i x && seq m "pop" && k.chk C y && notStar y && Nat.beq ap.endLine cp.line | _ => false
  ok {G X n C F W} h e hc := by
    split at hc
    · rename_i x px m ap y cp
      simp only [Bool.and_eq_true] at hc
      obtain ⟨⟨⟨⟨h1, h2⟩, h3⟩, h4⟩, h5⟩ := hc
      obtain ⟨e1, e2, e3, e4⟩ := isVar_ok h h1
      have em := seq_eq h2
      subst em
      have hl : (ap.endLine == cp.line) = true := by rw [Nat.eq_of_beq_eq_true h5]; exact beq_self_eq_true _
      have := pe_bm (X := X) (o := .Name x px) (r := rPopA G) PySem.F.plainAttrs_list PySem.F.slot_list_pop PySem.F.type_list_pop mt_popA (pe_var e1 e2 e3 e4) (pa_cons (k.ok h h3) pa_nil (star_cons h4 _ _)) (cpos := cp) (apos := ap) rfl (few1 h4 _ _) hl (star_cons h4 _ _) rfl
      rw [h.K] at this
      exact both (this.imp imp_pop) rfl
    · cases hc

/-! ### zip of two lists, of two tuples -/
section
variable {X : Cx} {G : Cfg} {n : Nat} {C : Ctx} {F : FE} {W : Nat → Prop} {B1 H1 : Hp} {σ : L2.St} {ρ1 : Env} {L1 : Nat → List Addr}
theorem zipP_get : ∀ {xs ys : List PV} {i : Nat} {p : PV}, (Ice.zipP xs ys)[i]? = some p → ∃ x y, xs[i]? = some x ∧ ys[i]? = some y ∧ p = .tup [x, y]
  | [], ys, i, p, h => by cases ys <;> simp [Ice.zipP] at h
  | x :: xs, [], i, p, h => by simp [Ice.zipP] at h
  | x :: xs, y :: ys, 0, p, h => by
    have h : some (PV.tup [x, y]) = some p := h
    cases h
    exact ⟨x, y, rfl, rfl, rfl⟩
  | x :: xs, y :: ys, i + 1, p, h => zipP_get (xs := xs) (ys := ys) (i := i) h
theorem zipP_end : ∀ {xs ys : List PV} {i : Nat}, (Ice.zipP xs ys).length ≤ i → xs.length ≤ i ∨ ys.length ≤ i
  | [], ys, i, h => .inl (Nat.zero_le _)
  | x :: xs, [], i, h => .inr (Nat.zero_le _)
  | x :: xs, y :: ys, 0, h => absurd h (by show ¬ (Ice.zipP xs ys).length + 1 ≤ 0; omega)
  | x :: xs, y :: ys, i + 1, h => by
    have h : (Ice.zipP xs ys).length + 1 ≤ i + 1 := h
    rcases zipP_end (xs := xs) (ys := ys) (i := i) (by omega) with z | z
    · exact .inl (Nat.succ_le_succ z)
    · exact .inr (Nat.succ_le_succ z)
theorem pair_new {B' H' : Hp} {x y : V} {p q : PV} {T : Addr} (s : Sub B' H') (hT : H' T = none) (rx : Rep G B' x p) (ry : Rep G B' y q) :
    ∃ B'', Ext NoM NoM B' H' B'' (upd H' T (.tup [x, y])) ∧ Sub B'' (upd H' T (.tup [x, y])) ∧ Rep G B'' (.ref T) (.tup [p, q]) :=
  ⟨upd B' T (.tup [x, y]), Ext.newV s hT, s.upd2, .tup (SqT.of upd_same) (.cons (rx.mono (Sub.updB (s.no hT))) (.cons (ry.mono (Sub.updB (s.no hT))) .nil))⟩
theorem walk_zipL {a b : Addr} {vs us : List V} {ps qs : List PV} (h : B1 a = some (.lst vs)) (k : B1 b = some (.lst us)) (l : RepL G B1 vs ps) (m : RepL G B1 us qs) (s : Sub B1 H1) : Walk G B1 H1 ρ1 L1 (Itz G.K a b) (Ice.zipP ps qs) := by
  intro σ B' H' ρ' L' σ' A i
  have ha : H' a = some (.lst vs) := A.st.sub _ _ (A.ext.bb _ _ h)
  have hb : H' b = some (.lst us) := A.st.sub _ _ (A.ext.bb _ _ k)
  refine ⟨fun p hp => ?_, fun hi => ⟨vs, us, SqL.of ha, SqL.of hb, by rw [l.length, m.length]; exact zipP_end hi⟩⟩
  obtain ⟨x, y, hx, hy, rfl⟩ := zipP_get hp
  obtain ⟨v, h1, h2⟩ := l.get hx
  obtain ⟨u, k1, k2⟩ := m.get hy
  refine ⟨⟨vs, us, v, u, SqL.of ha, SqL.of hb, h1, k1⟩, fun w H'' ⟨T, v', u', ew, hT, eH, y1, y2⟩ => ?_⟩
  have e1 := y1 vs (SqL.of ha)
  have e2 := y2 us (SqL.of hb)
  rw [h1] at e1
  rw [k1] at e2
  cases e1
  cases e2
  subst ew eH
  exact pair_new A.st.sub hT (h2.mono A.ext.bb) (k2.mono A.ext.bb)
theorem walk_zipT {a b : Addr} {vs us : List V} {ps qs : List PV} (h : SqT G.K B1 a vs) (k : SqT G.K B1 b us) (l : RepL G B1 vs ps) (m : RepL G B1 us qs) (s : Sub B1 H1) : Walk G B1 H1 ρ1 L1 (RZ.ItzT G.K a b) (Ice.zipP ps qs) := by
  intro σ B' H' ρ' L' σ' A i
  have ha : SqT G.K H' a vs := A.st.sub.sqT (A.ext.bb.sqT h)
  have hb : SqT G.K H' b us := A.st.sub.sqT (A.ext.bb.sqT k)
  refine ⟨fun p hp => ?_, fun hi => ⟨vs, us, ha, hb, by rw [l.length, m.length]; exact zipP_end hi⟩⟩
  obtain ⟨x, y, hx, hy, rfl⟩ := zipP_get hp
  obtain ⟨v, h1, h2⟩ := l.get hx
  obtain ⟨u, k1, k2⟩ := m.get hy
  refine ⟨⟨vs, us, v, u, ha, hb, h1, k1⟩, fun w H'' ⟨T, v', u', ew, hT, eH, y1, y2⟩ => ?_⟩
  have e1 := y1 vs ha
  have e2 := y2 us hb
  rw [h1] at e1
  rw [k1] at e2
  cases e1
  cases e2
  subst ew eH
  exact pair_new A.st.sub hT (h2.mono A.ext.bb) (k2.mono A.ext.bb)
theorem imp_z {a b : Ev} : ∀ σ H R, tI G F W (Ice.itZ a b) σ H R → RZ.iZipA G.K (tEs G F W [a, b]) σ H R := by
  rintro σ H R ⟨B, ρ, L, S, h⟩
  refine ⟨B, ρ, L, S, ?_⟩
  have h := (show wpR W ((a F ρ).bind fun (p, _, ρ1) => (b F ρ1).bind fun (q, _, ρ2) => (Ice.R.of (Ice.zipV p q)).bind fun xs => Ice.R.ok (xs, (none : Option Nat), ρ2)) _ from h)
  show wpR W ((a F ρ).bind fun (p, _, ρ1) => (((b F ρ1).bind fun (q, _, ρ2) => Ice.R.ok ([q], ρ2)).bind fun (ps, ρ2) => Ice.R.ok (p :: ps, ρ2))) _
  cases ea : a F ρ with
  | exn c => rw [ea] at h; exact h
  | stuck => rw [ea] at h; exact h.elim
  | ok x =>
    obtain ⟨p, m, ρ1⟩ := x
    rw [ea] at h
    have h : wpR W ((b F ρ1).bind fun (q, _, ρ2) => (Ice.R.of (Ice.zipV p q)).bind fun xs => Ice.R.ok (xs, (none : Option Nat), ρ2)) _ := h
    show wpR W (((b F ρ1).bind fun (q, _, ρ2) => Ice.R.ok ([q], ρ2)).bind fun (ps, ρ2) => Ice.R.ok (p :: ps, ρ2)) _
    cases eb : b F ρ1 with
    | exn c => rw [eb] at h; exact h
    | stuck => rw [eb] at h; exact h.elim
    | ok y =>
      obtain ⟨q, m2, ρ2⟩ := y
      rw [eb] at h
      have h : wpR W ((Ice.R.of (Ice.zipV p q)).bind fun xs => Ice.R.ok (xs, (none : Option Nat), ρ2)) _ := h
      intro vs B2 H2 L2 A rl
      cases rl with
      | @cons v _ _ _ rp rl =>
        cases rl with
        | @cons u _ _ _ rq rl =>
          cases rl
          cases hz : Ice.zipV p q with
          | none => rw [hz] at h; exact h.elim
          | some xs =>
            rw [hz] at h
            have h := (show ∀ J B1 H1 L1 ρ0, Aft G B H ρ L σ B1 H1 ρ0 L1 σ → LockR none ρ0 ρ2 → Walk G B1 H1 ρ2 L1 J xs → R J H1 from h)
            cases rp with
            | @lst a1 vs1 ps1 t1 l1 =>
              cases rq with
              | @lst a2 vs2 ps2 t2 l2 =>
                cases hz
                exact ⟨a1, a2, vs1, vs2, rfl, .inl ⟨SqL.of (A.st.sub _ _ t1), SqL.of (A.st.sub _ _ t2), h _ B2 H2 L2 ρ2 A rfl (walk_zipL t1 t2 l1 l2 A.st.sub)⟩⟩
              | _ => cases hz
            | @tup a1 vs1 ps1 t1 l1 =>
              cases rq with
              | @tup a2 vs2 ps2 t2 l2 =>
                cases hz
                exact ⟨a1, a2, vs1, vs2, rfl, .inr ⟨A.st.sub.sqT t1, A.st.sub.sqT t2, h _ B2 H2 L2 ρ2 A rfl (walk_zipT t1 t2 l1 l2 A.st.sub)⟩⟩
              | _ => cases hz
            | _ => cases q <;> cases hz
theorem zip_mem : ("zip" : Str) ∈ bNames := bmem (by decide)
end
def isTupE : Expr → Bool
  | .Tuple _ _ _ => true
  | _ => false
def wZ (a b : KE) : KI where
  d := Ice.itZ a.d b.d
  chk C tg e := isTupE tg && match e with | .Call (.Name x _) [y, z] [] _ => seq x "zip" && isGl C x && chkL [a, b] C [y, z] | _ => false
  ok {G X n C F W} h tg e hc := by
    rw [Bool.and_eq_true] at hc
    obtain ⟨ht, hc⟩ := hc
    cases tg with
    | Tuple elts kk tpos =>
      split at hc
      · rename_i x p y z pos
        simp only [Bool.and_eq_true] at hc
        obtain ⟨⟨h1, h2⟩, h3⟩ := hc
        have e1 := seq_eq h1
        subst e1
        have st := chkL_star h3
        rw [List.all_cons, List.all_cons, Bool.and_eq_true, Bool.and_eq_true] at st
        have := RZ.pi_zipA (X := X) (p := p) (pos := pos) (tpos := tpos) (elts := elts) (kk := kk) (isGl_ok h h2).1 (h.blt _ zip_mem) (pa_list h h3) (star_cons st.1 _ _) (star_any _ _ [z] (by rw [List.all_cons, st.2.1]; rfl))
        rw [h.K] at this
        exact ⟨this.imp imp_z, fun env x => rfl⟩
      · cases hc
    | _ => cases ht
end IceS
end
section
set_option Elab.async false
set_option linter.all false
set_option maxRecDepth 100000
/-! Certified code: in, not in; len(set()). -/
namespace IceS
open PySem hiding Env
open PySem.Spec PyProof.Rows L2
open Ice (PV Slot Env FE Ev Op Opd Sx Tg gS sS)
def kInn : KO → KO → KE := kCmp .In Ice.pInn nx_inn o_inn
def kNin : KO → KO → KE := kCmp .NotIn Ice.pNin nx_nin o_nin

theorem nubI_mem : ∀ {l : List Int} {k : Int}, k ∈ Ice.nubI l ↔ k ∈ l
  | [], k => Iff.rfl
  | x :: r, k => by
    unfold Ice.nubI
    have ih := nubI_mem (l := r) (k := k)
    split
    · rename_i h
      have h : x ∈ r := by simpa using h
      rw [ih, List.mem_cons]
      constructor
      · exact fun z => .inr z
      · rintro (z | z)
        · subst z; exact h
        · exact z
    · rw [List.mem_cons, List.mem_cons, ih]
theorem nubI_nodup : ∀ {l : List Int}, (Ice.nubI l).Nodup
  | [] => List.nodup_nil
  | x :: r => by
    unfold Ice.nubI
    split
    · exact nubI_nodup
    · rename_i h
      refine List.nodup_cons.mpr ⟨fun z => h ?_, nubI_nodup⟩
      simpa using nubI_mem.mp z
section
variable {X : Cx} {G : Cfg} {n : Nat} {C : Ctx} {F : FE} {W : Nat → Prop}
theorem intsOf_rep {B : Hp} : ∀ {vs : List V} {ps : List PV} {ns : List Int}, RepL G B vs ps → Ice.intsOf ps = some ns → vs = ns.map V.int ∧ ps.length = ns.length
  | _, _, ns, .nil, h => by cases h; exact ⟨rfl, rfl⟩
  | _, _, ns, .cons (p := p) r t, h => by
    cases p with
    | int c =>
      have h : (Ice.intsOf _).map (c :: ·) = some ns := h
      cases e : Ice.intsOf _ with
      | none => rw [e] at h; cases h
      | some d =>
        rw [e] at h
        cases h
        obtain ⟨h1, h2⟩ := intsOf_rep t e
        cases r
        exact ⟨by rw [h1]; rfl, by rw [List.length_cons, List.length_cons, h2]⟩
    | _ => cases h
theorem nx_lenSet : Nx1 Ice.pLenSet := by intro p c; unfold Ice.pLenSet; (repeat' split) <;> (intro h; cases h)
def tLS (G : Cfg) (ta : TE) : TE := fun σ H Q => ta σ H fun x H1 => rP1 G Ice.pLenSet x H1 Q
theorem pe_ls {a : Expr} {ta : TE} {p p2 q pos : Pos} (g : XG G X n) (hg : Gl X "len") (hm : X.mg "len" = none) (hg2 : Gl X "set") (hm2 : X.mg "set" = none) (ha : PE X a ta)
    (na : starEach [a] X.env = (false, eval a X.env) :: starEach [] X.env) : PE X (.Call (.Name "len" p) [.Call (.Name "set" p2) [a] [] q] [] pos) (tLS G ta) := by
  refine ⟨fun pins s σ H Q I h => ?_⟩
  refine Call_ (ld_blt I hg hm PySem.boot_len ?_)
  refine PyProof.Rows.callWith_builtin1 (PyProof.Rows.args_cons ?_ rfl) rfl rfl
  refine Call_ (ld_blt I hg2 hm2 PyProof.Rows.boot_set ?_)
  refine PyProof.Rows.callWith_type1 (PyProof.Rows.args_cons (thn (ha.run pins s σ H _ I h) fun v s1 ⟨x, H1, I1, r1, B, p, r, m, sb, ox, e, gv⟩ => PyProof.Rows.args_nil ?_) na) na rfl
  cases p with
  | tup ps =>
    have e : (match Ice.intsOf ps with | some ns => if ns.length ≤ 4000 then Ice.old (.int (Ice.nubI ns).length) else .stuck | none => .stuck) = .ok (r, m) := e
    cases ei : Ice.intsOf ps with
    | none => rw [ei] at e; cases e
    | some ns =>
      rw [ei] at e
      have e : (if ns.length ≤ 4000 then Ice.old (.int (Ice.nubI ns).length) else .stuck) = .ok (r, m) := e
      split at e
      · rename_i hl
        cases e
        obtain ⟨l, vs, rfl, ta, la⟩ := ox.tup
        cases r1
        obtain ⟨its, rv, pl, hz⟩ := I1.tuple (g.K ▸ sb.sqT ta)
        obtain ⟨rfl, _⟩ := intsOf_rep la ei
        have il : s1.heap.IsTuple l its.toArray := by
          obtain ⟨o, e1, e2, m, e3⟩ := pl
          exact ⟨o, e1, e2, m, e3⟩
        refine call_set_tupI ns (I1.ok.hd g.calm) il (by simpa using intsAre_of rv) (by unfold scanBound; omega) fun h' tk c hS hc hk => ?_
        refine PyProof.Rows.args_nil ?_
        obtain ⟨o, es, ep, t, ho, hex, hd, _, nd, mem, _, hf, hn, _, _⟩ := hS
        have I2 : Inv X pins σ H1 { s1 with heap := h', toks := tk } := I1.kept fun b o e => hk b o e
        have len : es.size = (Ice.nubI ns).length := by
          have p := (List.perm_ext_iff_of_nodup nd (nubI_nodup (l := ns))).mpr fun k => by
            rw [← mem, decide_eq_true_iff, nubI_mem]
          have := p.length_eq
          rw [List.length_map, Array.length_toList] at this
          exact this
        exact call_len_set ho hex hd hf (by omega) ⟨.int es.size, H1, I2.tok _, ⟨_, rfl⟩, by rw [len]; exact gv.at sb (.int _)⟩
      · cases e
  | _ => cases e
theorem len_mem : ("len" : Str) ∈ bNames := bmem (by decide)
theorem set_mem : ("set" : Str) ∈ bNames := bmem (by decide)
end
/-- len(set(a)) -/
def kLenSet (a : KO) : KE where
  d := Ice.e1 Ice.pLenSet a.d
  chk C e := match e with | .Call (.Name x _) [.Call (.Name y _) [z] [] _] [] _ => seq x "len" && isGl C x && seq y "set" && isGl C y && a.chk C z && notStar z | _ => false
  ok {G X n C F W} h e hc := by
    split at hc
    · simp only [Bool.and_eq_true] at hc
      obtain ⟨⟨⟨⟨⟨h1, h2⟩, h3⟩, h4⟩, h5⟩, h6⟩ := hc
      have e1 := seq_eq h1
      have e2 := seq_eq h3
      subst e1 e2
      exact both ((pe_ls h.toXG (isGl_ok h h2).1 (h.blt _ len_mem) (isGl_ok h h4).1 (h.blt _ set_mem) (a.ok h h5) (star_cons h6 _ _)).imp (imp1 nx_lenSet)) rfl
    · cases hc
end IceS
end
section
set_option Elab.async false
set_option linter.all false
set_option maxRecDepth 100000
/-! Certified code: min, max, sorted, sum of lists and tuples. -/
namespace IceS
open PySem hiding Env
open PySem.Spec PyProof.Rows L2 PySem.W
open Ice (PV Slot Env FE Ev Op Opd Sx Tg gS sS)
theorem okPairs_all {ps : List PV} (h : Ice.okPairs ps = true) : ∀ p ∈ ps, ∀ q ∈ ps, Ice.okcF 12 p q = true := by
  intro p hp q hq
  exact List.all_eq_true.mp (List.all_eq_true.mp h p hp) q hq
section
variable {X : Cx} {G : Cfg} {n : Nat}
/-- the items, as data -/
theorem readsAll_of {pins : List (Addr × Obj)} {σ : L2.St} {H : Hp} {s : Shared} (I : Inv X pins σ H s) (hK : X.K = G.K) : ∀ {vs : List V} {ps : List PV} {us : List Value}, RepL G H vs ps → Vals vs us → (∀ p ∈ ps, Ice.okcF 12 p p = true) →
    ∃ as, ReadsAll s.heap us (ps.map (toD 12)) as
  | _, _, _, .nil, .nil, _ => ⟨_, .nil⟩
  | _, _, _, .cons a b, .cons c d, h => by
    obtain ⟨as, h1⟩ := reads_of I hK 12 _ _ _ (h _ List.mem_cons_self) a c
    obtain ⟨bs, h2⟩ := readsAll_of I hK b d fun p q => h p (List.mem_cons_of_mem _ q)
    exact ⟨_, .cons h1 h2⟩
theorem alikeAll_of {ps : List PV} (h : Ice.okPairs ps = true) : AlikeAll (ps.map (toD 12)) := by
  refine ⟨fun x hx y hy => ?_, fun x hx => ?_⟩
  · obtain ⟨p, hp, rfl⟩ := List.mem_map.mp hx
    obtain ⟨q, hq, rfl⟩ := List.mem_map.mp hy
    exact (ord_spec 12 p q (okPairs_all h p hp q hq)).1
  · obtain ⟨p, hp, rfl⟩ := List.mem_map.mp hx
    exact toD_ne (okPairs_all h p hp p hp)
theorem ltb_data {p q : PV} (h : Ice.okcF 12 p q = true) : dataLt (toD 12 p) (toD 12 q) = Ice.ltb p q := (ord_spec 12 p q h).2.1
theorem minD_of : ∀ (ps : List PV) (m : PV), Ice.okPairs (m :: ps) = true → minD (toD 12 m) (ps.map (toD 12)) = toD 12 (Ice.minL m ps) ∧ Ice.minL m ps ∈ m :: ps := by
  intro ps
  induction ps with
  | nil => intro m _; exact ⟨rfl, List.mem_cons_self⟩
  | cons p ps ih =>
    intro m h
    have hpm := okPairs_all h p (List.mem_cons_of_mem _ List.mem_cons_self) m List.mem_cons_self
    have e : minD (toD 12 m) ((p :: ps).map (toD 12)) = minD (toD 12 (if Ice.ltb p m then p else m)) (ps.map (toD 12)) := by
      unfold minD
      rw [List.map_cons, List.foldl_cons, ltb_data hpm]
      cases Ice.ltb p m <;> rfl
    have h2 : Ice.okPairs ((if Ice.ltb p m then p else m) :: ps) = true := by
      have hq := okPairs_all h
      refine List.all_eq_true.mpr fun x hx => List.all_eq_true.mpr fun y hy => hq x ?_ y ?_
      · rcases List.mem_cons.mp hx with rfl | hx
        · split
          · exact List.mem_cons_of_mem _ List.mem_cons_self
          · exact List.mem_cons_self
        · exact List.mem_cons_of_mem _ (List.mem_cons_of_mem _ hx)
      · rcases List.mem_cons.mp hy with rfl | hy
        · split
          · exact List.mem_cons_of_mem _ List.mem_cons_self
          · exact List.mem_cons_self
        · exact List.mem_cons_of_mem _ (List.mem_cons_of_mem _ hy)
    obtain ⟨i1, i2⟩ := ih _ h2
    refine ⟨e.trans i1, ?_⟩
    show Ice.minL (if Ice.ltb p m then p else m) ps ∈ _
    rcases List.mem_cons.mp i2 with z | z
    · rw [z]
      split
      · exact List.mem_cons_of_mem _ List.mem_cons_self
      · exact List.mem_cons_self
    · exact List.mem_cons_of_mem _ (List.mem_cons_of_mem _ z)
theorem maxD_of : ∀ (ps : List PV) (m : PV), Ice.okPairs (m :: ps) = true → maxD (toD 12 m) (ps.map (toD 12)) = toD 12 (Ice.maxL m ps) ∧ Ice.maxL m ps ∈ m :: ps := by
  intro ps
  induction ps with
  | nil => intro m _; exact ⟨rfl, List.mem_cons_self⟩
  | cons p ps ih =>
    intro m h
    have hpm := okPairs_all h m List.mem_cons_self p (List.mem_cons_of_mem _ List.mem_cons_self)
    have e : maxD (toD 12 m) ((p :: ps).map (toD 12)) = maxD (toD 12 (if Ice.ltb m p then p else m)) (ps.map (toD 12)) := by
      unfold maxD
      rw [List.map_cons, List.foldl_cons, ltb_data hpm]
      cases Ice.ltb m p <;> rfl
    have h2 : Ice.okPairs ((if Ice.ltb m p then p else m) :: ps) = true := by
      have hq := okPairs_all h
      refine List.all_eq_true.mpr fun x hx => List.all_eq_true.mpr fun y hy => hq x ?_ y ?_
      · rcases List.mem_cons.mp hx with rfl | hx
        · split
          · exact List.mem_cons_of_mem _ List.mem_cons_self
          · exact List.mem_cons_self
        · exact List.mem_cons_of_mem _ (List.mem_cons_of_mem _ hx)
      · rcases List.mem_cons.mp hy with rfl | hy
        · split
          · exact List.mem_cons_of_mem _ List.mem_cons_self
          · exact List.mem_cons_self
        · exact List.mem_cons_of_mem _ (List.mem_cons_of_mem _ hy)
    obtain ⟨i1, i2⟩ := ih _ h2
    refine ⟨e.trans i1, ?_⟩
    show Ice.maxL (if Ice.ltb m p then p else m) ps ∈ _
    rcases List.mem_cons.mp i2 with z | z
    · rw [z]
      split
      · exact List.mem_cons_of_mem _ List.mem_cons_self
      · exact List.mem_cons_self
    · exact List.mem_cons_of_mem _ (List.mem_cons_of_mem _ z)
/-- data tell values that can be ordered -/
theorem toD_inj : ∀ (k : Nat) (p q : PV), Ice.okcF k p p = true → Ice.okcF k q q = true → toD k p = toD k q → p = q := by
  intro k
  induction k with
  | zero =>
    intro p q hp hq e
    cases p <;> first
      | exact absurd (show false = true from hp) Bool.false_ne_true
      | (cases q <;> first
          | exact absurd (show false = true from hq) Bool.false_ne_true
          | (simp [toD] at e; done)
          | (simp [toD] at e; rw [e]))
  | succ k ih =>
    intro p q hp hq e
    have all : ∀ (ps qs : List PV), (∀ p ∈ ps, Ice.okcF k p p = true) → (∀ p ∈ qs, Ice.okcF k p p = true) → ps.map (toD k) = qs.map (toD k) → ps = qs := by
      intro ps
      induction ps with
      | nil => intro qs _ _ e; cases qs with
        | nil => rfl
        | cons q qs => simp at e
      | cons p ps ih2 => intro qs h1 h2 e; cases qs with
        | nil => simp at e
        | cons q qs =>
          rw [List.map_cons, List.map_cons] at e
          injection e with e1 e2
          rw [ih p q (h1 p List.mem_cons_self) (h2 q List.mem_cons_self) e1, ih2 qs (fun x hx => h1 x (List.mem_cons_of_mem _ hx)) (fun x hx => h2 x (List.mem_cons_of_mem _ hx)) e2]
    cases p <;> first
      | exact absurd (show false = true from hp) Bool.false_ne_true
      | (cases q <;> first
          | exact absurd (show false = true from hq) Bool.false_ne_true
          | (simp [toD] at e; done)
          | (simp only [toD] at e; injection e with e; rw [all _ _ (okAll_self hp) (okAll_self hq) e])
          | (simp [toD] at e; rw [e]))
theorem getD_of {B : Hp} : ∀ {vs : List V} {ps : List PV} {us : List Value} {i : Nat} {u : Value}, RepL G B vs ps → Vals vs us → us[i]? = some u → ∃ v p, ps[i]? = some p ∧ Rep G B v p ∧ RelV v u
  | _, _, _, _, _, .nil, .nil, h => by simp at h
  | _, _, _, 0, _, .cons a b, .cons c d, h => by simp at h; subst h; exact ⟨_, _, rfl, a, c⟩
  | _, _, _, i + 1, _, .cons a b, .cons c d, h => by
    obtain ⟨v, p, h1, h2, h3⟩ := getD_of (i := i) b d (by simpa using h)
    exact ⟨v, p, by simpa using h1, h2, h3⟩
theorem nx_min : Nx1 Ice.pMin := by intro p c; unfold Ice.pMin; (repeat' split) <;> (intro h; cases h)
theorem nx_max : Nx1 Ice.pMax := by intro p c; unfold Ice.pMax; (repeat' split) <;> (intro h; cases h)
theorem nx_sum : Nx1 Ice.pSum := by intro p c; unfold Ice.pSum; (repeat' split) <;> (intro h; cases h)
theorem nx_sorted : Nx1 Ice.pSorted := by intro p c; unfold Ice.pSorted; (repeat' split) <;> (intro h; cases h)
/-- one of the items comes out -/
theorem best_out {pins : List (Addr × Obj)} {σ : L2.St} {B H : Hp} {s : Shared} {Q : VK} {vs : List V} {ps : List PV} {its : List Value} {r : PV} {i : Nat} {v : Value} {h' : Heap} {tk : Nat} {bs : List Addr} (I : Inv X pins σ H s) (hK : X.K = G.K) (sb : Sub B H) (la : RepL G B vs ps) (rv : Vals vs its)
    (ok : ∀ p ∈ ps, Ice.okcF 12 p p = true) (hr : r ∈ ps) (hi : its[i]? = some v) (rd : Reads h' v (toD 12 r) bs) (hk : ∀ b o, s.heap.get? b = some o → h'.get? b = some o) (g : Gives G B H Q r false) :
    EP X pins σ Q v { s with heap := h', toks := tk } := by
  obtain ⟨y, p, h1, h2, h3⟩ := getD_of la rv hi
  have hp : p ∈ ps := List.mem_of_getElem? h1
  obtain ⟨as, ra⟩ := reads_of I hK 12 p y v (ok p hp) (h2.mono sb) h3
  have e := (PySem.Reads.unique (reads_keeps hk ra) _ _ rd).1
  have e := toD_inj 12 p r (ok p hp) (ok r hr) e
  subst e
  exact ⟨y, H, I.kept hk, h3, g.at sb h2⟩
/-- a list or a tuple of items -/
theorem seq_in {pins : List (Addr × Obj)} {σ : L2.St} {B H : Hp} {s : Shared} {x : V} {p : PV} {ps : List PV} {us : List Value} (g : XG G X n) (I : Inv X pins σ H s) (sb : Sub B H) (ox : Opn G B H x p) (e : Ice.seqOf p = some ps) (r : Vals [x] us) :
    ∃ (a : Addr) (vs : List V) (its : List Value), us = [.ref a] ∧ RepL G B vs ps ∧ Vals vs its ∧ its.length ≤ sizeLine ∧ (s.heap.IsList a its.toArray ∨ s.heap.IsTuple a its.toArray) := by
  cases p with
  | tup qs =>
    cases e
    obtain ⟨a, vs, rfl, ta, la⟩ := ox.tup
    obtain ⟨its, rv, ⟨o, ho, hc, k, hd⟩, hz⟩ := I.tuple (g.K ▸ sb.sqT ta)
    exact ⟨a, vs, its, Vals.ref1 r, la, rv, by rw [← rv.length]; exact hz, .inr ⟨o, ho, hc, k, hd⟩⟩
  | lst qs =>
    cases e
    obtain ⟨a, vs, rfl, ta, la⟩ := ox.lst sb
    obtain ⟨its, rv, hl, hz⟩ := I.list (SqL.of ta)
    exact ⟨a, vs, its, Vals.ref1 r, la, rv, by rw [← rv.length]; exact hz, .inl hl.isList⟩
  | _ => cases e
theorem depth_of (ps : List PV) : PyData.depthAll (ps.map (toD 12)) ≤ 12 := depthAll_le fun d hd => by
  obtain ⟨q, _, rfl⟩ := List.mem_map.mp hd
  exact toD_depth 12 q
theorem c_min (g : XG G X n) : CallR X (.builtin "min") (rC1 G Ice.pMin) := by
  intro pins s σ H xs us Q I r ⟨x, hx, B, p, q, m, sb, ox, e, gv⟩
  subst hx
  have un := g.room.units
  unfold Ice.pMin at e
  split at e
  · rename_i x0 ps' e1
    split at e
    · rename_i ok
      cases e
      obtain ⟨a, vs, its, rfl, la, rv, _, hl⟩ := seq_in g I sb ox e1 r
      obtain ⟨as, ra⟩ := readsAll_of I g.K (la.mono sb) rv fun p hp => okPairs_all ok p hp p hp
      obtain ⟨d1, d2⟩ := minD_of ps' x0 ok
      have dp := depth_of (x0 :: ps')
      have go : ∀ (i : Nat) v h' tk bs, its.toArray[i]? = some v → Reads h' v (minD (toD 12 x0) (ps'.map (toD 12))) bs → (∀ b o, s.heap.get? b = some o → h'.get? b = some o) →
          EP X pins σ Q v { s with heap := h', toks := tk } := fun i v h' tk bs hi rd hk => by
        rw [d1] at rd
        exact best_out I g.K sb la rv (fun p hp => okPairs_all ok p hp p hp) d2 (by simpa using hi) rd hk gv
      rcases hl with hl | hl
      · exact min_list_data (I.ok.hd g.calm) hl (by simpa using ra) (alikeAll_of ok) (by rw [List.map_cons] at dp; omega) go
      · exact min_tuple_data (I.ok.hd g.calm) hl (by simpa using ra) (alikeAll_of ok) (by rw [List.map_cons] at dp; omega) go
    · cases e
  · cases e
theorem c_max (g : XG G X n) : CallR X (.builtin "max") (rC1 G Ice.pMax) := by
  intro pins s σ H xs us Q I r ⟨x, hx, B, p, q, m, sb, ox, e, gv⟩
  subst hx
  have un := g.room.units
  unfold Ice.pMax at e
  split at e
  · rename_i x0 ps' e1
    split at e
    · rename_i ok
      cases e
      obtain ⟨a, vs, its, rfl, la, rv, _, hl⟩ := seq_in g I sb ox e1 r
      obtain ⟨as, ra⟩ := readsAll_of I g.K (la.mono sb) rv fun p hp => okPairs_all ok p hp p hp
      obtain ⟨d1, d2⟩ := maxD_of ps' x0 ok
      have dp := depth_of (x0 :: ps')
      have go : ∀ (i : Nat) v h' tk bs, its.toArray[i]? = some v → Reads h' v (maxD (toD 12 x0) (ps'.map (toD 12))) bs → (∀ b o, s.heap.get? b = some o → h'.get? b = some o) →
          EP X pins σ Q v { s with heap := h', toks := tk } := fun i v h' tk bs hi rd hk => by
        rw [d1] at rd
        exact best_out I g.K sb la rv (fun p hp => okPairs_all ok p hp p hp) d2 (by simpa using hi) rd hk gv
      rcases hl with hl | hl
      · exact max_list_data (I.ok.hd g.calm) hl (by simpa using ra) (alikeAll_of ok) (by rw [List.map_cons] at dp; omega) go
      · exact max_tuple_data (I.ok.hd g.calm) hl (by simpa using ra) (alikeAll_of ok) (by rw [List.map_cons] at dp; omega) go
    · cases e
  · cases e
theorem sumI_rep {B : Hp} : ∀ {vs : List V} {ps : List PV} {k : Int}, RepL G B vs ps → Ice.sumI ps = some k → ∃ ns : List Int, vs = ns.map V.int ∧ k = ns.sum
  | _, _, k, .nil, h => by cases h; exact ⟨[], rfl, rfl⟩
  | _, _, k, .cons (p := p) r t, h => by
    cases p with
    | int c =>
      have h : (Ice.sumI _).map (c + ·) = some k := h
      cases e : Ice.sumI _ with
      | none => rw [e] at h; cases h
      | some d =>
        rw [e] at h
        cases h
        obtain ⟨ns, h1, h2⟩ := sumI_rep t e
        cases r
        exact ⟨c :: ns, by rw [h1]; rfl, by rw [h2]; rfl⟩
    | _ => cases h
theorem c_sum (g : XG G X n) : CallR X (.builtin "sum") (rC1 G Ice.pSum) := by
  intro pins s σ H xs us Q I r ⟨x, hx, B, p, q, m, sb, ox, e, gv⟩
  subst hx
  unfold Ice.pSum at e
  split at e
  · rename_i ps e1
    split at e
    · rename_i k e2
      cases e
      cases p with
      | lst qs =>
        cases e1
        obtain ⟨a, vs, rfl, ta, la⟩ := ox.lst sb
        obtain ⟨ns, rfl, rfl⟩ := sumI_rep la e2
        exact cr_sum g.calm pins s σ H _ us Q I r ⟨a, ns, rfl, SqL.of ta, gv.at sb (.int _)⟩
      | tup qs =>
        cases e1
        obtain ⟨a, vs, rfl, ta, la⟩ := ox.tup
        obtain ⟨ns, rfl, rfl⟩ := sumI_rep la e2
        obtain ⟨its, rv, ⟨o, ho, hc, k, hd⟩, hz⟩ := I.tuple (g.K ▸ sb.sqT ta)
        rw [Vals.ref1 r]
        obtain ⟨ys, ey⟩ := rv.ints.allInts.items
        have hn : numsOf (intItems ys).toList = ns := by rw [← ey]; exact rv.ints.numsOf
        rw [nums_intItems] at hn
        refine ktm_sumG (xs := ys) (I.ok.hd g.calm) ⟨o, ho, hc, k, by rw [← ey]; exact hd⟩ fun h' tk t' hk => ?_
        rw [preSum_eq, List.take_of_length_le (by simp), hn]
        exact ⟨.int _, H, I.kept hk, ⟨_, rfl⟩, gv.at sb (.int _)⟩
      | _ => cases e1
    · cases e
  · cases e
/-! ### sorted -/
/-- the order of the library's keys -/
def leD : PV → PV → Bool := dataLe false (toD 12)
theorem leD_total : TotalLe leD := sortLe_total (listOrd itemOrd) false fun b => keyToks (toD 12 b)
theorem leD_ltb {p q : PV} (h : Ice.okcF 12 q p = true) : (!leD p q) = Ice.ltb q p := by
  unfold leD
  rw [dataLe_eq, ← ltb_data h]
  simp
def insQ (x : PV) : List PV → List PV
  | [] => [x]
  | y :: r => if (!leD x y) = true then y :: insQ x r else x :: y :: r
def sortQ : List PV → List PV
  | [] => []
  | x :: r => insQ x (sortQ r)
theorem insQ_mem (x z : PV) : ∀ l : List PV, z ∈ insQ x l ↔ z = x ∨ z ∈ l
  | [] => by simp [insQ]
  | y :: r => by
    unfold insQ
    split
    · rw [List.mem_cons, insQ_mem x z r, List.mem_cons]
      constructor
      · rintro (h | h | h)
        · exact .inr (.inl h)
        · exact .inl h
        · exact .inr (.inr h)
      · rintro (h | h | h)
        · exact .inr (.inl h)
        · exact .inl h
        · exact .inr (.inr h)
    · rw [List.mem_cons]
theorem sortQ_mem (z : PV) : ∀ l : List PV, z ∈ sortQ l ↔ z ∈ l
  | [] => by simp [sortQ]
  | x :: r => by
    show z ∈ insQ x (sortQ r) ↔ _
    rw [insQ_mem, sortQ_mem z r, List.mem_cons]
theorem insP_eq (x : PV) : ∀ l : List PV, (∀ y ∈ l, Ice.okcF 12 y x = true) → Ice.sortP.insS' x l = insQ x l
  | [], _ => rfl
  | y :: r, h => by
    unfold Ice.sortP.insS' insQ
    rw [leD_ltb (h y List.mem_cons_self), insP_eq x r fun z hz => h z (List.mem_cons_of_mem _ hz)]
theorem sortP_eq : ∀ l : List PV, Ice.okPairs l = true → Ice.sortP l = sortQ l
  | [], _ => rfl
  | x :: r, h => by
    have hr : Ice.okPairs r = true := List.all_eq_true.mpr fun a ha => List.all_eq_true.mpr fun b hb => okPairs_all h a (List.mem_cons_of_mem _ ha) b (List.mem_cons_of_mem _ hb)
    show Ice.sortP.insS' x (Ice.sortP r) = insQ x (sortQ r)
    rw [sortP_eq r hr]
    exact insP_eq x _ fun y hy => okPairs_all h y (List.mem_cons_of_mem _ ((sortQ_mem y r).mp hy)) x List.mem_cons_self
theorem insQ_sorted (x : PV) : ∀ l : List PV, l.Pairwise (fun a b => leD a b = true) → (insQ x l).Pairwise fun a b => leD a b = true
  | [], _ => List.pairwise_singleton _ _
  | y :: r, h => by
    rw [List.pairwise_cons] at h
    unfold insQ
    split
    · rename_i hxy
      rw [List.pairwise_cons]
      refine ⟨fun z hz => ?_, insQ_sorted x r h.2⟩
      rcases (insQ_mem x z r).mp hz with e | hz
      · subst e
        rcases leD_total.total y z with k | k
        · exact k
        · rw [k] at hxy; cases hxy
      · exact h.1 z hz
    · rename_i hxy
      have hxy : leD x y = true := by simpa using hxy
      rw [List.pairwise_cons]
      refine ⟨fun z hz => ?_, List.pairwise_cons.mpr h⟩
      rcases List.mem_cons.mp hz with e | hz
      · subst e; exact hxy
      · exact leD_total.trans _ _ _ hxy (h.1 z hz)
theorem insQ_filter (c x : PV) : ∀ l : List PV, (insQ x l).filter (sameRank leD c) = (x :: l).filter (sameRank leD c)
  | [] => rfl
  | y :: r => by
    unfold insQ
    split
    · rename_i hxy
      have ih := insQ_filter c x r
      by_cases hy : sameRank leD c y = true
      · have hx : ¬ sameRank leD c x = true := fun hx => by
          unfold sameRank at hx hy
          rw [Bool.and_eq_true] at hx hy
          rw [leD_total.trans _ _ _ hx.2 hy.1] at hxy
          cases hxy
        rw [List.filter_cons_of_pos hy, ih, List.filter_cons_of_neg hx, List.filter_cons_of_neg hx, List.filter_cons_of_pos hy]
      · rw [List.filter_cons_of_neg hy, ih]
        by_cases hx : sameRank leD c x = true
        · rw [List.filter_cons_of_pos hx, List.filter_cons_of_pos hx, List.filter_cons_of_neg hy]
        · rw [List.filter_cons_of_neg hx, List.filter_cons_of_neg hx, List.filter_cons_of_neg hy]
    · rfl
theorem sortQ_sorted : ∀ l : List PV, (sortQ l).Pairwise fun a b => leD a b = true
  | [] => .nil
  | x :: r => insQ_sorted x _ (sortQ_sorted r)
theorem sortQ_filter (c : PV) : ∀ l : List PV, (sortQ l).filter (sameRank leD c) = l.filter (sameRank leD c)
  | [] => rfl
  | x :: r => by
    show (insQ x (sortQ r)).filter _ = _
    rw [insQ_filter, List.filter_cons, List.filter_cons, sortQ_filter c r]
theorem sortP_merge {l : List PV} (h : Ice.okPairs l = true) : Ice.sortP l = l.mergeSort leD := by
  rw [sortP_eq l h]
  exact sort_unique leD_total (sortQ_sorted l) fun c => sortQ_filter c l
theorem sortable_of : ∀ {ps : List PV}, Ice.okPairs ps = true → ps.all Ice.okSort = true → Sortable (ps.map (toD 12))
  | [], _, _ => .inr fun d hd => by cases hd
  | p :: ps, h, hs => by
    have hp := okPairs_all h
    have hs := List.all_eq_true.mp hs
    cases p with
    | tup xs =>
      refine .inl fun d hd => ?_
      obtain ⟨q, hq, rfl⟩ := List.mem_map.mp hd
      have h1 := hp _ List.mem_cons_self q hq
      have h2 := hs q hq
      cases q with
      | tup ys =>
        cases ys with
        | nil => cases h2
        | cons y ys => exact ⟨_, _, rfl⟩
      | _ => exact absurd (show false = true from h1) Bool.false_ne_true
    | bl b =>
      refine .inr fun d hd => ?_
      obtain ⟨q, hq, rfl⟩ := List.mem_map.mp hd
      have h1 := hp _ List.mem_cons_self q hq
      cases q <;> first
        | exact absurd (show false = true from h1) Bool.false_ne_true
        | exact ⟨(fun z => by simp [toD] at z), fun xs z => by simp [toD] at z⟩
    | int b =>
      refine .inr fun d hd => ?_
      obtain ⟨q, hq, rfl⟩ := List.mem_map.mp hd
      have h1 := hp _ List.mem_cons_self q hq
      cases q <;> first
        | exact absurd (show false = true from h1) Bool.false_ne_true
        | exact ⟨(fun z => by simp [toD] at z), fun xs z => by simp [toD] at z⟩
    | str b =>
      refine .inr fun d hd => ?_
      obtain ⟨q, hq, rfl⟩ := List.mem_map.mp hd
      have h1 := hp _ List.mem_cons_self q hq
      cases q <;> first
        | exact absurd (show false = true from h1) Bool.false_ne_true
        | exact ⟨(fun z => by simp [toD] at z), fun xs z => by simp [toD] at z⟩
    | _ => exact absurd (show false = true from hp _ List.mem_cons_self _ List.mem_cons_self) Bool.false_ne_true
theorem each_of {B : Hp} : ∀ {vs : List V} {ps : List PV} {us : List Value}, RepL G B vs ps → Vals vs us → EachIs (fun u p => ∃ v, Rep G B v p ∧ RelV v u) us ps
  | _, _, _, .nil, .nil => .nil
  | _, _, _, .cons a b, .cons c d => .cons ⟨_, a, c⟩ (each_of b d)
theorem of_each {B : Hp} : ∀ {us : List Value} {ps : List PV}, EachIs (fun u p => ∃ v, Rep G B v p ∧ RelV v u) us ps → ∃ vs, RepL G B vs ps ∧ Vals vs us
  | _, _, .nil => ⟨[], .nil, .nil⟩
  | _, _, .cons ⟨v, a, c⟩ t => by
    obtain ⟨vs, h1, h2⟩ := of_each t
    exact ⟨v :: vs, .cons a h1, .cons c h2⟩
theorem each_reads {pins : List (Addr × Obj)} {σ : L2.St} {H : Hp} {s : Shared} (I : Inv X pins σ H s) (hK : X.K = G.K) : ∀ {vs : List V} {ps : List PV} {us : List Value}, RepL G H vs ps → Vals vs us → (∀ p ∈ ps, Ice.okcF 12 p p = true) →
    EachIs (fun v b => ∃ as, Reads s.heap v (toD 12 b) as) us ps
  | _, _, _, .nil, .nil, _ => .nil
  | _, _, _, .cons a b, .cons c d, h => .cons (reads_of I hK 12 _ _ _ (h _ List.mem_cons_self) a c) (each_reads I hK b d fun p q => h p (List.mem_cons_of_mem _ q))
section
variable {prog : Program} {w : World} {A : Around} {E : Value → Shared → Prop} {s : Shared}
/-- the items of a tuple, gathered -/
theorem gather_tup {l : Addr} {vs : List Value} {Q : List Value → Shared → Prop} (hl : s.heap.IsTuple l vs.toArray) (hz : vs.length ≤ sizeLine)
    (q : Q vs { s with heap := (s.heap.push (seqObj "list" #[] 0)).update s.heap.objs.size (Obj.mapSeq (· ++ vs.toArray)) }) : wpAny (model prog w) A (collect (.ref l)) Q E s := by
  obtain ⟨o, ho, hc, k, hd⟩ := id hl
  have hn : (s.heap.push (seqObj "list" #[] 0)).get? s.heap.objs.size = some (seqObj "list" #[] 0) := Heap.get?_push_size _ rfl
  have ho2 : (s.heap.push (seqObj "list" #[] 0)).get? l = some o := Heap.get?_push_of_some _ ho
  unfold collect
  refine wpAny_bind (wpAny_runValue (codeAny_builtin entry_proto_collect' (wpAny_bind (wpAny_newList (wpAny_pure ⟨Code.quiet_builtin _ (by decide +kernel), codeAny_builtin entry_list_iadd' ?_⟩)))))
  show wpAny (model prog w) _ (Builtin.List.listExtendWith (.ref s.heap.objs.size) (.ref l) (.ref s.heap.objs.size)) _ E { s with heap := s.heap.push (seqObj "list" #[] 0) }
  unfold Builtin.List.listExtendWith
  refine wpAny_bind (wpAny_typeOf (T := "tuple") ⟨o, ho2, hc⟩ ?_)
  rw [if_pos (by simp only [show (Value.type "tuple" == Value.type "tuple") = true from rfl, Bool.or_true])]
  refine wpAny_bind (listItems_at ho2 hd (wpAny_bind (listItems_at (xs := #[]) (n := 0) hn rfl ?_)))
  rw [if_neg (by simp)]
  refine wpAny_bind (listUpdate_at (xs := #[]) (n := 0) hn rfl (wpAny_pure (wpAny_bind (wpAny_load (get?_update_seq hn _) ?_))) (Nat.zero_le _) ?_)
  · show wpAny (model prog w) A (pure ((#[] : Array Value) ++ vs.toArray).toList) Q E _
    have e : ((#[] : Array Value) ++ vs.toArray).toList = vs := by simp
    rw [e]
    exact wpAny_pure q
  · show (#[] ++ vs.toArray : Array Value).size ≤ sizeLine + 1
    have e : (#[] ++ vs.toArray : Array Value).size = vs.length := by simp
    rw [e]
    exact Nat.le_succ_of_le hz
/-- sorted(t), t a tuple -/
theorem sorted_tup {l : Addr} {β : Type} {R : Value → β → Prop} {enc : β → PyData} {vs : List Value} {bs : List β} {Q : Value → Shared → Prop} (hl : s.heap.IsTuple l vs.toArray) (e : EachIs R vs bs) (er : EachIs (fun v b => ∃ as, Reads s.heap v (enc b) as) vs bs) (hal : AllAlike (bs.map enc)) (hk : Sortable (bs.map enc)) (hL : bs.length ≤ sizeLine)
    (hu : ∀ b, b ∈ bs → A.units + 2 + (enc b).depth < cLine) (h : ∀ out, out.length = bs.length → EachIs R out (bs.mergeSort (dataLe false enc)) → Q (.ref (s.heap.objs.size + 1)) { s with heap := sortedAll s.heap vs (List.toArray out) }) :
    wpAny (model prog w) A (call (.builtin "sorted") [.ref l]) Q E s := by
  have er2 : EachIs (fun v b => ∃ as, Reads (sortingHeap (copyHeap s.heap vs) (s.heap.objs.size + 1) vs) v (enc b) as) vs bs := er.mono fun _ _ ⟨as, r⟩ => ⟨as, PyProof.Rows.Reads.keeps (fun _ _ => sorting_copy_old) r⟩
  have S := SortsAt.data (prog := prog) (w := w) (A := A.in1.in1) (s := { s with heap := sortingHeap (copyHeap s.heap vs) (s.heap.objs.size + 1) vs }) (each_map (R := fun v d => ∃ as, Reads (sortingHeap (copyHeap s.heap vs) (s.heap.objs.size + 1) vs) v d as) enc er2) hal hk (bound_map hu)
  have hv : vs.length ≤ sizeLine := by rw [e.length]; exact hL
  refine call_function_entry_kw kind_sorted plain_sorted entry_sorted (args_sorted1 _) ?_
  unfold Builtin.«sorted»
  refine wpAny_bind (m := checkCount "sorted" 1 1 _) (wpAny_pure (wpAny_bind (gather_tup hl hv (wpAny_bind (wpAny_newList ?_ hv)))))
  have hs : ((s.heap.push (seqObj "list" #[] 0)).update s.heap.objs.size (Obj.mapSeq (· ++ vs.toArray))).objs.size = s.heap.objs.size + 1 := by rw [Heap.size_update, size_push']
  show wpAny _ _ _ _ _ { s with heap := copyHeap s.heap vs }
  rw [hs]
  refine wpAny_bind (wpAny_holding (wpAny_call_entry_kw slot_list_sort ⟨_, copyHeap_at s.heap vs, rfl⟩ entry_list_sort ?b (args_list_sort _)))
  case b =>
    refine wpAny_mono (list_sort_vals (s := { s with heap := copyHeap s.heap vs }) (P := fun f s' => f = .done (.ret .none) ∧ Q (.ref (s.heap.objs.size + 1)) s') (copyHeap_at s.heap vs) S hv ⟨rfl, h _ (by rw [sortVals_length false rfl]; exact e.length) (sortVals_data false e er2 hal)⟩) (fun f s' hf => ?_) fun _ _ z => z
    obtain ⟨rfl, hq⟩ := hf
    exact ⟨_, rfl, wpAny_pure ⟨_, rfl, hq⟩⟩
end
theorem c_sorted (g : XG G X n) : CallR X (.builtin "sorted") (rC1 G Ice.pSorted) := by
  intro pins s σ H xs us Q I r ⟨x, hx, B, p, q, m, sb, ox, e, gv⟩
  subst hx
  have un := g.room.units
  unfold Ice.pSorted at e
  split at e
  · rename_i ps e1
    split at e
    · rename_i ok
      cases e
      rw [Bool.and_eq_true, Bool.and_eq_true] at ok
      obtain ⟨⟨ok, os⟩, ol⟩ := ok
      have ol := of_decide_eq_true ol
      obtain ⟨a, vs, its, rfl, la, rv, hz, hl⟩ := seq_in g I sb ox e1 r
      have okp : ∀ p ∈ ps, Ice.okcF 12 p p = true := fun p hp => okPairs_all ok p hp p hp
      have er := each_reads I g.K (la.mono sb) rv okp
      have hal : AllAlike (ps.map (toD 12)) := fun d hd d' hd' => (alikeAll_of ok).1 d hd d' hd'
      have hu : ∀ b, b ∈ ps → X.A.units + 2 + (toD 12 b).depth < cLine := fun b _ => by have := toD_depth 12 b; omega
      have hL : ps.length ≤ sizeLine := by rw [← la.length, rv.length]; exact hz
      have go : ∀ out : List Value, out.length = ps.length → EachIs (fun u p => ∃ v, Rep G B v p ∧ RelV v u) out (ps.mergeSort (dataLe false (toD 12))) → EP X pins σ Q (.ref (s.heap.objs.size + 1)) { s with heap := sortedAll s.heap its (List.toArray out) } := fun out ho eo => by
        obtain ⟨ws, r1, r2⟩ := of_each eo
        obtain ⟨ep, he'⟩ := PyProof.Rows.sortedAll_at s.heap its out.toArray
        have e2 : Ice.sortP ps = ps.mergeSort (dataLe false (toD 12)) := sortP_merge ok
        have hn := I.hok.fresh (Nat.le_succ s.heap.objs.size)
        have hw : ws.length ≤ sizeLine := by rw [r2.length, ho]; exact hL
        exact ⟨.ref _, upd H (s.heap.objs.size + 1) (.lst ws), I.laid (t' := s.toks) (fun _ _ => PyProof.Rows.sortedAll_old) (Nat.le_succ _) ⟨hw, out, ep, r2, he'⟩, rfl, gv.lst sb (by rw [e2]; exact r1) hn⟩
      rcases hl with hl | hl
      · exact sorted_data hl (each_of la rv) er hal (sortable_of ok os) hL hu go
      · exact sorted_tup hl (each_of la rv) er hal (sortable_of ok os) hL hu go
    · cases e
  · cases e
end
def bMin : B1 := ⟨"min", "min", Ice.pMin, nx_min, rfl, c_min, bmem (by decide), by decide⟩
def bMax : B1 := ⟨"max", "max", Ice.pMax, nx_max, rfl, c_max, bmem (by decide), by decide⟩
def bSum : B1 := ⟨"sum", "sum", Ice.pSum, nx_sum, rfl, c_sum, bmem (by decide), by decide⟩
def bSorted : B1 := ⟨"sorted", "sorted", Ice.pSorted, nx_sorted, rfl, c_sorted, bmem (by decide), by decide⟩
end IceS
end
section
set_option Elab.async false
set_option linter.all false
set_option maxRecDepth 100000
/-! Certified code: zip of two of any kind; enumerate; min, max of two. -/
namespace IceS
open PySem hiding Env
open PySem.Spec PyProof.Rows L2 PySem.W
open Ice (PV Slot Env FE Ev Op Opd Sx Tg gS sS)

/-- what is walked: a list, a tuple, a text -/
inductive Src where
  | l (a : Addr) | t (a : Addr) | s (z : Str)
def Src.ok (K : PySem.W.Frag) (H : Hp) : Src → List V → Prop
  | .l a, xs => SqL K H a xs
  | .t a, xs => SqT K H a xs
  | .s z, xs => xs = z.cps.toList.map fun c => V.str ⟨#[c]⟩
def Src.on (h : Heap) (it i : Nat) : Src → Prop
  | .l a => h.IsListIter it a i
  | .t a => h.IsTupleIter it a i
  | .s z => ∃ t, h.IsStrIter it (strIterType z) z t i
def Src.fp (it : Addr) : Src → List Addr
  | .l a => [it, a]
  | .t a => [it, a]
  | .s _ => [it]
def Src.off (it : Addr) : Src → Prop
  | .l a => a ≠ it
  | .t a => a ≠ it
  | .s _ => True
def Src.v : Src → V
  | .l a => .ref a
  | .t a => .ref a
  | .s z => .str z
section
variable {X : Cx} {pins : List (Addr × Obj)} {σ : L2.St} {H : Hp} {s : Shared}
theorem Src.keep {src : Src} {h h' : Heap} {it i : Nat} (q : src.on h it i) (k : ∀ o, h.get? it = some o → h'.get? it = some o) : src.on h' it i := by
  cases src with
  | l a => exact Heap.IsListIter.at q k
  | t a => exact Heap.IsTupleIter.at q k
  | s z => obtain ⟨t, o, ho, r⟩ := q; exact ⟨t, o, k o ho, r⟩
theorem Src.obj {src : Src} {h : Heap} {it i : Nat} (q : src.on h it i) : ∃ o, h.get? it = some o ∧ ∀ v, o.data ≠ .cell v := by
  cases src with
  | l a => obtain ⟨o, ho, hc, hd⟩ := q; exact ⟨o, ho, fun v e => by rw [hd] at e; cases e⟩
  | t a => obtain ⟨o, ho, hc, hd⟩ := q; exact ⟨o, ho, fun v e => by rw [hd] at e; cases e⟩
  | s z => obtain ⟨t, o, ho, hc, hd⟩ := q; exact ⟨o, ho, fun v e => by rw [hd] at e; cases e⟩
/-- it gives its items one by one -/
theorem Src.draws {src : Src} {xs : List V} {it i : Nat} {A : Around} (hh : A.handled = none) (I : Inv X pins σ H s) (o : src.ok X.K H xs) (q : src.on s.heap it i) (n : src.off it) :
    ∃ (P : Nat → Value → Prop) (St : Nat → Heap → Prop), Draws X.prog X.w A it (src.fp it) xs.length P St ∧ St i s.heap ∧ (∀ j u, P j u → ∃ x, xs[j]? = some x ∧ RelV x u) ∧ ∀ j h, St j h → src.on h it j := by
  cases src with
  | l a =>
    obtain ⟨its, rv, p, hz⟩ := I.list o
    have D := Draws.list (prog := X.prog) (w := X.w) hh it a n its.toArray
    rw [List.size_toArray, ← rv.length] at D
    refine ⟨_, _, D, ⟨q, p.isList⟩, fun j u hu => ?_, fun j h st => st.1⟩
    have hu : its[j]? = some u := by simpa using hu
    have hj : j < xs.length := by
      rw [rv.length]
      obtain ⟨h, _⟩ := List.getElem?_eq_some_iff.mp hu
      exact h
    obtain ⟨u', h1, h2⟩ := rv.get (List.getElem?_eq_getElem hj)
    rw [hu] at h1
    cases h1
    exact ⟨_, List.getElem?_eq_getElem hj, h2⟩
  | t a =>
    obtain ⟨its, rv, p, hz⟩ := I.tuple o
    have D := Draws.tuple (prog := X.prog) (w := X.w) hh it a n its.toArray
    rw [List.size_toArray, ← rv.length] at D
    refine ⟨_, _, D, ⟨q, p⟩, fun j u hu => ?_, fun j h st => st.1⟩
    have hu : its[j]? = some u := by simpa using hu
    have hj : j < xs.length := by
      rw [rv.length]
      obtain ⟨h, _⟩ := List.getElem?_eq_some_iff.mp hu
      exact h
    obtain ⟨u', h1, h2⟩ := rv.get (List.getElem?_eq_getElem hj)
    rw [hu] at h1
    cases h1
    exact ⟨_, List.getElem?_eq_getElem hj, h2⟩
  | s z =>
    obtain ⟨t, q⟩ := q
    have D := Draws.text (prog := X.prog) (w := X.w) hh it z t
    have o : xs = z.cps.toList.map fun c => V.str ⟨#[c]⟩ := o
    have hl : xs.length = z.cps.size := by rw [o, List.length_map, Array.length_toList]
    rw [← hl] at D
    refine ⟨_, _, D, q, fun j u ⟨c, u', hc, hu⟩ => ?_, fun j h st => ⟨t, st⟩⟩
    subst hu
    refine ⟨.str ⟨#[c]⟩, ?_, u', rfl⟩
    rw [o, List.getElem?_map, Array.getElem?_toList, hc]
    rfl
end
/-- pairs of items -/
def Itm (K : PySem.W.Frag) (a b : Src) (xs ys : List V) : It :=
  ⟨fun i H => a.ok K H xs ∧ b.ok K H ys ∧ i < xs.length ∧ i < ys.length, fun i H v H' => ∃ T x y, v = .ref T ∧ H T = none ∧ H' = upd H T (.tup [x, y]) ∧ xs[i]? = some x ∧ ys[i]? = some y, fun i H => a.ok K H xs ∧ b.ok K H ys ∧ (xs.length ≤ i ∨ ys.length ≤ i)⟩
theorem turn_mix {P : Program} {w : World} {K : PySem.W.Frag} {elts : List Expr} {kk : Nat} {tpos : Pos} {z TI TO i1 i2 : Addr} {a b : Src} {xs ys : List V} (D : ZipSep2 z TI TO i1 i2 (a.fp i1) (b.fp i2)) (na : a.off i1) (nb : b.off i2) :
    Turn P w K (.Tuple elts kk tpos) (Itm K a b xs ys) [z, TI, TO, i1, i2] z (fun i h => IsZip h z TI TO .none ∧ IsTupOf2 h TI (.ref i1) (.ref i2) ∧ (∃ x y, IsTupOf2 h TO x y) ∧ a.on h i1 i ∧ b.on h i2 i ∧ i ≤ xs.length ∧ i ≤ ys.length) where
  mem := by simp
  obj := fun i h st c hc => by
    obtain ⟨hz, hTI, ⟨x, y, hTO⟩, q1, q2, _⟩ := st
    have e' : c = z ∨ c = TI ∨ c = TO ∨ c = i1 ∨ c = i2 := by simpa using hc
    rcases e' with q | q | q | q | q
    · rw [q]; exact ⟨_, hz, fun v q => nomatch q⟩
    · rw [q]; exact ⟨_, hTI, fun v q => nomatch q⟩
    · rw [q]; exact ⟨_, hTO, fun v q => nomatch q⟩
    · rw [q]; exact Src.obj q1
    · rw [q]; exact Src.obj q2
  keep := fun i h h' st k => by
    obtain ⟨hz, hTI, ⟨x, y, hTO⟩, h1, h2, l⟩ := st
    exact ⟨k z (by simp) _ hz, k TI (by simp) _ hTI, ⟨x, y, k TO (by simp) _ hTO⟩, Src.keep h1 fun o q => k i1 (by simp) o q, Src.keep h2 fun o q => k i2 (by simp) o q, l⟩
  item := by
    intro X hP hw hK hc i pins s σ H E I hf st hg
    subst hP hw hK
    obtain ⟨hz, hTI, ⟨x0, y0, hTO⟩, h1, h2, l1, l2⟩ := st
    obtain ⟨ox, oy, hx, hy⟩ := hg
    have hh : X.A.in1.handled = none := I.ok.hd hc
    obtain ⟨P1, S1, D1, s1, r1, k1⟩ := Src.draws hh I ox h1 na
    obtain ⟨P2, S2, D2, s2, r2, k2⟩ := Src.draws hh I oy h2 nb
    have hzl : z < s.heap.objs.size := Heap.lt_size hz
    refine wpAny_pyNext_zipD2_item D D1 D2 hz hTI hTO s1 s2 hx hy fun u1 u2 h' tk p1 p2 z' TO' h1' h2' hT hsz hk => ?_
    obtain ⟨x, ex, rx⟩ := r1 _ _ p1
    obtain ⟨y, ey, ry⟩ := r2 _ _ p2
    refine ⟨_, rfl, wpAny_letOwnedTupleGo_zip (s := { s with heap := h', toks := tk }) z' fun h'' z'' sb => ?_⟩
    have hT2 : h''.get? s.heap.objs.size = some { cls := .type "tuple", data := .seq #[u1, u2] } := (sb.2 _ (Nat.ne_of_gt hzl)).trans hT
    have new : ObjOk X.prog X.w (upd H s.heap.objs.size (.tup [x, y])) h'' s.heap.objs.size (.tup [x, y]) :=
      ⟨by show 2 ≤ sizeLine; decide, [u1, u2], .cons rx (.cons ry .nil), ⟨_, hT2, rfl, _, rfl⟩⟩
    have keepZ : ∀ b o, b ≠ z → h'.get? b = some o → h''.get? b = some o := fun b o hb q => (sb.2 b hb).trans q
    have I1 : Inv X pins σ (upd H s.heap.objs.size (.tup [x, y])) { s with heap := h'', toks := tk } :=
      I.turnedNew (ch := [z, TI, TO, i1, i2]) (fun c o hb q => keepZ c o (fun e => hb (by simp [e])) (hk c o (fun e => hb (by simp [e])) (fun e => hb (by simp [e])) (fun e => hb (by simp [e])) (fun e => hb (by simp [e])) q)) hf (Nat.le_refl _) new
    have nz1 : i1 ≠ z := fun e => D.zi1 e.symm
    have nz2 : i2 ≠ z := fun e => D.zi2 e.symm
    refine ⟨.ref s.heap.objs.size, _, I1, rfl, ⟨_, x, y, rfl, I.hok.fresh (Nat.le_refl _), rfl, ex, ey⟩, ⟨z'', keepZ TI _ D.TIz ?_, ⟨u1, u2, keepZ TO _ D.TOz TO'⟩, Src.keep (k1 _ _ h1') fun o q => keepZ i1 o nz1 q, Src.keep (k2 _ _ h2') fun o q => keepZ i2 o nz2 q, hx, hy⟩, fun c hc => ?_⟩
    · exact hk TI _ D.TIz D.TITO D.TIi1 D.TIi2 hTI
    · have hb' : c < s.heap.objs.size := by
        have e' : c = z ∨ c = TI ∨ c = TO ∨ c = i1 ∨ c = i2 := by simpa using hc
        rcases e' with q | q | q | q | q
        · rw [q]; exact hzl
        · rw [q]; exact Heap.lt_size hTI
        · rw [q]; exact Heap.lt_size hTO
        · obtain ⟨o, ho, _⟩ := Src.obj h1; rw [q]; exact Heap.lt_size ho
        · obtain ⟨o, ho, _⟩ := Src.obj h2; rw [q]; exact Heap.lt_size ho
      rw [upd_ne (Nat.ne_of_lt hb')]
      exact (hf c hc).1
  done := by
    intro X hP hw hK hc i pins s σ H E I hf st hg
    subst hP hw hK
    obtain ⟨hz, hTI, ⟨x0, y0, hTO⟩, h1, h2, l1, l2⟩ := st
    obtain ⟨ox, oy, he⟩ := hg
    have hh : X.A.in1.handled = none := I.ok.hd hc
    obtain ⟨P1, S1, D1, s1, r1, k1⟩ := Src.draws hh I ox h1 na
    obtain ⟨P2, S2, D2, s2, r2, k2⟩ := Src.draws hh I oy h2 nb
    refine wpAny_pyNext_zipD2_end D D1 D2 hz hTI hTO s1 s2 l1 l2 (by omega) fun h' tk hk => ?_
    exact ⟨rfl, I.turnedL (t' := tk) (ch := [z, TI, TO, i1, i2]) (fun c o hb q => hk c o (fun e => hb (by simp [e])) (fun e => hb (by simp [e])) (fun e => hb (by simp [e])) (fun e => hb (by simp [e])) q) hf⟩
  self := fun A i s Q E st h => wpAny_pyIter_zip st.1 h
/-- what stands behind the iterator's own cell -/
def Src.tl : Src → List Addr
  | .l a => [a]
  | .t a => [a]
  | .s _ => []
theorem Src.fp_eq (it : Addr) (c : Src) : c.fp it = it :: c.tl := by cases c <;> rfl
section
variable {X : Cx} {pins : List (Addr × Obj)} {σ : L2.St} {H : Hp} {s : Shared}
theorem Src.begins {c : Src} {xs : List V} {u : Value} (I : Inv X pins σ H s) (o : c.ok X.K H xs) (r : RelV c.v u) :
    ∃ (o1 : Obj) (P : Heap → Prop), Begins u o1 P ∧ P s.heap ∧ (∀ h it, h.get? it = some o1 → c.on h it 0) ∧ (∀ b ∈ c.tl, b < s.heap.objs.size) ∧ ∀ it, s.heap.objs.size ≤ it → c.off it := by
  cases c with
  | l a =>
    obtain ⟨its, rv, p, hz⟩ := I.list o
    cases (show u = Value.ref a from r)
    refine ⟨_, _, begins_list a its.toArray, p.isList, fun h it e => ⟨_, e, rfl, rfl⟩, fun b hb => ?_, fun it hi => ?_⟩
    · rw [List.mem_singleton.mp hb]; exact p.lt
    · exact Nat.ne_of_lt (Nat.lt_of_lt_of_le p.lt hi)
  | t a =>
    obtain ⟨its, rv, p, hz⟩ := I.tuple o
    cases (show u = Value.ref a from r)
    have hl : a < s.heap.objs.size := by obtain ⟨o1, e, _⟩ := id p; exact Heap.lt_size e
    refine ⟨_, _, begins_tuple a its.toArray, p, fun h it e => ⟨_, e, rfl, rfl⟩, fun b hb => ?_, fun it hi => ?_⟩
    · rw [List.mem_singleton.mp hb]; exact hl
    · exact Nat.ne_of_lt (Nat.lt_of_lt_of_le hl hi)
  | s z =>
    obtain ⟨t, q⟩ := (show ∃ t, u = Value.str z t from r)
    subst q
    exact ⟨_, _, begins_text z t, True.intro, fun h it e => ⟨t, _, e, rfl, rfl⟩, fun (b : Addr) (hb : b ∈ ([] : List Addr)) => absurd hb List.not_mem_nil, fun it _ => True.intro⟩
end
def iMix (K : PySem.W.Frag) (ta : TA) : TI := fun σ H R => ta σ H fun vs H1 => ∃ a b xs ys, vs = [Src.v a, Src.v b] ∧ a.ok K H1 xs ∧ b.ok K H1 ys ∧ R (Itm K a b xs ys) H1
theorem pi_mix {X : Cx} {e e2 : Expr} {ta : TA} {p pos tpos : Pos} {elts : List Expr} {kk : Nat} (hg : Gl X "zip") (hm : X.mg "zip" = none) (ha : PA X [e, e2] ta)
    (hs : starEach [e, e2] X.env = (false, eval e X.env) :: starEach [e2] X.env) (hpl : (backTo pos (starEach [e2] X.env)).any (·.1) = false) :
    PI X (.Tuple elts kk tpos) (.Call (.Name "zip" p) [e, e2] [] pos) (iMix X.K ta) := by
  refine ⟨fun pins s σ H R I h => ?_⟩
  refine Call_ (ld_blt I hg hm PyProof.Rows.boot_zip (PyProof.Rows.callWith_type1 (thn (ha.run pos pins s σ H _ I h) fun us s1 ⟨vs, H1, I1, r1, a, b, xs, ys, ex, oa, ob, q⟩ => ?_) hs hpl))
  subst ex
  obtain ⟨u1, u2, rfl, ra, rb⟩ := vals2 r1
  obtain ⟨o1, P1, B1, p1, n1, t1, f1⟩ := Src.begins I1 oa ra
  obtain ⟨o2, P2, B2, p2, n2, t2, f2⟩ := Src.begins I1 ob rb
  refine zip_begins2 B1 B2 p1 p2 fun h' hz hTI hTO h1 h2 hsz hk => wpAny_pyIter_zip hz ?_
  have I2 : Inv X pins σ H1 { s1 with heap := h' } := I1.kept (t' := s1.toks) hk
  have D := zip_sep2 t1 t2
  rw [← Src.fp_eq, ← Src.fp_eq] at D
  refine ⟨s1.heap.objs.size + 4, [s1.heap.objs.size + 4, s1.heap.objs.size + 2, s1.heap.objs.size + 3, s1.heap.objs.size, s1.heap.objs.size + 1], _, _, H1, rfl, I2, turn_mix (xs := xs) (ys := ys) D (f1 _ (Nat.le_refl _)) (f2 _ (Nat.le_succ _)), ⟨hz, hTI, ⟨_, _, hTO⟩, n1 _ _ h1, n2 _ _ h2, Nat.zero_le _, Nat.zero_le _⟩, fun c hc => ?_, q⟩
  have hle : s1.heap.objs.size ≤ c := by
    have e' : c = s1.heap.objs.size + 4 ∨ c = s1.heap.objs.size + 2 ∨ c = s1.heap.objs.size + 3 ∨ c = s1.heap.objs.size ∨ c = s1.heap.objs.size + 1 := by simpa using hc
    have h4 : s1.heap.objs.size ≤ s1.heap.objs.size + 4 := Nat.le_add_right _ _
    have h2 : s1.heap.objs.size ≤ s1.heap.objs.size + 2 := Nat.le_add_right _ _
    have h3 : s1.heap.objs.size ≤ s1.heap.objs.size + 3 := Nat.le_add_right _ _
    have h0 : s1.heap.objs.size ≤ s1.heap.objs.size + 1 := Nat.le_add_right _ _
    rcases e' with z | z | z | z | z <;> (rw [z]; first | exact h4 | exact h2 | exact h3 | exact h0 | exact Nat.le_refl _)
  exact I1.fpOk hle (I1.hok.fresh hle)
section
variable {G : Cfg} {X : Cx} {n : Nat} {C : Ctx} {F : FE} {W : Nat → Prop} {B1 H1 : Hp} {σ : L2.St} {ρ1 : Env} {L1 : Nat → List Addr}
/-- a value that is seen, as a source -/
theorem src_of {x : V} {p : PV} {ps : List PV} (s : Sub B1 H1) (r : Rep G B1 x p) (e : Ice.walkOf p = some ps) :
    ∃ (c : Src) (xs : List V), x = c.v ∧ RepL G B1 xs ps ∧ ∀ B' H', Sub B1 B' → Sub B' H' → c.ok G.K H' xs := by
  unfold Ice.walkOf at e
  split at e
  · cases e
    cases r with
    | tup t l => exact ⟨.t _, _, rfl, l, fun B' H' k1 k2 => k2.sqT (k1.sqT t)⟩
  · cases e
    cases r with
    | lst t l => exact ⟨.l _, _, rfl, l, fun B' H' k1 k2 => SqL.of (k2 _ _ (k1 _ _ t))⟩
  · cases e
    cases r with
    | str z hz =>
      refine ⟨.s z, z.cps.toList.map fun c => V.str ⟨#[c]⟩, rfl, ?_, fun _ _ _ _ => rfl⟩
      generalize z.cps.toList = l
      induction l with
      | nil => exact .nil
      | cons c l ih => exact .cons (.str ⟨#[c]⟩ (by rw [sizeLine_eq]; exact (by decide : 1 ≤ 16777216))) ih
  · cases e
theorem walk_mix {a b : Src} {vs us : List V} {ps qs : List PV} (h : ∀ B' H', Sub B1 B' → Sub B' H' → a.ok G.K H' vs) (k : ∀ B' H', Sub B1 B' → Sub B' H' → b.ok G.K H' us) (l : RepL G B1 vs ps) (m : RepL G B1 us qs) (s : Sub B1 H1) : Walk G B1 H1 ρ1 L1 (Itm G.K a b vs us) (Ice.zipP ps qs) := by
  intro σ B' H' ρ' L' σ' A i
  have ha := h B' H' A.ext.bb A.st.sub
  have hb := k B' H' A.ext.bb A.st.sub
  refine ⟨fun p hp => ?_, fun hi => ⟨ha, hb, by rw [l.length, m.length]; exact zipP_end hi⟩⟩
  obtain ⟨x, y, hx, hy, rfl⟩ := zipP_get hp
  obtain ⟨v, h1, h2⟩ := l.get hx
  obtain ⟨u, k1, k2⟩ := m.get hy
  have lt1 : i < vs.length := by obtain ⟨z, _⟩ := List.getElem?_eq_some_iff.mp h1; exact z
  have lt2 : i < us.length := by obtain ⟨z, _⟩ := List.getElem?_eq_some_iff.mp k1; exact z
  refine ⟨⟨ha, hb, lt1, lt2⟩, fun w H'' ⟨T, v', u', ew, hT, eH, e1, e2⟩ => ?_⟩
  rw [h1] at e1
  rw [k1] at e2
  cases e1
  cases e2
  subst ew eH
  exact pair_new A.st.sub hT (h2.mono A.ext.bb) (k2.mono A.ext.bb)
theorem imp_m {a b : Ev} : ∀ σ H R, tI G F W (Ice.itM a b) σ H R → iMix G.K (tEs G F W [a, b]) σ H R := by
  rintro σ H R ⟨B, ρ, L, S, h⟩
  refine ⟨B, ρ, L, S, ?_⟩
  have h := (show wpR W ((a F ρ).bind fun (p, _, ρ1) => (b F ρ1).bind fun (q, _, ρ2) => (Ice.R.of (Ice.zipW p q)).bind fun xs => Ice.R.ok (xs, (none : Option Nat), ρ2)) _ from h)
  show wpR W ((a F ρ).bind fun (p, _, ρ1) => (((b F ρ1).bind fun (q, _, ρ2) => Ice.R.ok ([q], ρ2)).bind fun (ps, ρ2) => Ice.R.ok (p :: ps, ρ2))) _
  cases ea : a F ρ with
  | exn c => rw [ea] at h; exact h
  | stuck => rw [ea] at h; exact h.elim
  | ok x =>
    obtain ⟨p, m, ρ1⟩ := x
    rw [ea] at h
    have h : wpR W ((b F ρ1).bind fun (q, _, ρ2) => (Ice.R.of (Ice.zipW p q)).bind fun xs => Ice.R.ok (xs, (none : Option Nat), ρ2)) _ := h
    show wpR W (((b F ρ1).bind fun (q, _, ρ2) => Ice.R.ok ([q], ρ2)).bind fun (ps, ρ2) => Ice.R.ok (p :: ps, ρ2)) _
    cases eb : b F ρ1 with
    | exn c => rw [eb] at h; exact h
    | stuck => rw [eb] at h; exact h.elim
    | ok y =>
      obtain ⟨q, m2, ρ2⟩ := y
      rw [eb] at h
      have h : wpR W ((Ice.R.of (Ice.zipW p q)).bind fun xs => Ice.R.ok (xs, (none : Option Nat), ρ2)) _ := h
      intro vs B2 H2 L2 A rl
      cases rl with
      | @cons v _ _ _ rp rl =>
        cases rl with
        | @cons u _ _ _ rq rl =>
          cases rl
          unfold Ice.zipW at h
          cases e1 : Ice.walkOf p with
          | none => rw [e1] at h; exact h.elim
          | some ps =>
            cases e2 : Ice.walkOf q with
            | none => rw [e1, e2] at h; exact h.elim
            | some qs =>
              rw [e1, e2] at h
              have h := (show ∀ J B1 H1 L1 ρ0, Aft G B H ρ L σ B1 H1 ρ0 L1 σ → LockR none ρ0 ρ2 → Walk G B1 H1 ρ2 L1 J (Ice.zipP ps qs) → R J H1 from h)
              obtain ⟨c, xs, rfl, l1, k1⟩ := src_of A.st.sub rp e1
              obtain ⟨d, ys, rfl, l2, k2⟩ := src_of A.st.sub rq e2
              exact ⟨c, d, xs, ys, rfl, k1 B2 H2 (Sub.refl _) A.st.sub, k2 B2 H2 (Sub.refl _) A.st.sub, h _ B2 H2 L2 ρ2 A rfl (walk_mix k1 k2 l1 l2 A.st.sub)⟩
end
def wM (a b : KE) : KI where
  d := Ice.itM a.d b.d
  chk C tg e := isTupE tg && match e with | .Call (.Name x _) [y, z] [] _ => seq x "zip" && isGl C x && chkL [a, b] C [y, z] | _ => false
  ok {G X n C F W} h tg e hc := by
    rw [Bool.and_eq_true] at hc
    obtain ⟨ht, hc⟩ := hc
    cases tg with
    | Tuple elts kk tpos =>
      split at hc
      · rename_i x p y z pos
        simp only [Bool.and_eq_true] at hc
        obtain ⟨⟨h1, h2⟩, h3⟩ := hc
        have e1 := seq_eq h1
        subst e1
        have st := chkL_star h3
        rw [List.all_cons, List.all_cons, Bool.and_eq_true, Bool.and_eq_true] at st
        have := pi_mix (X := X) (p := p) (pos := pos) (tpos := tpos) (elts := elts) (kk := kk) (isGl_ok h h2).1 (h.blt _ zip_mem) (pa_list h h3) (star_cons st.1 _ _) (star_any _ _ [z] (by rw [List.all_cons, st.2.1]; rfl))
        rw [h.K] at this
        exact ⟨this.imp imp_m, fun env x => rfl⟩
      · cases hc
    | _ => cases ht
end IceS
end
section
set_option Elab.async false
set_option linter.all false
set_option maxRecDepth 100000
/-! Certified code: enumerate of any; min, max of two; join. -/
namespace IceS
open PySem hiding Env
open PySem.Spec PyProof.Rows L2 PySem.W
open Ice (PV Slot Env FE Ev Op Opd Sx Tg gS sS)
abbrev enumObj (it : Addr) : Obj := { cls := .type "enumerate", data := .fields #[.none, .bool false, .ref it, rawInt 0, .none, .none] }
set_option maxHeartbeats 1000000 in
theorem enum_new1 {u : Value} {ob : Obj} {P : Heap → Prop} (B : Begins u ob P) :
    Meets (Builtin.«enumerate.__new__» ⟨[.type "enumerate", u], []⟩) (fun _ R st => P st.heap ∧ R (.ok (.ret (.ref (st.heap.push ob).objs.size))) { st with heap := (st.heap.push ob).push (enumObj st.heap.objs.size) }) :=
  .of_wp fun prog w A R st hh => by
    obtain ⟨heap0, gens0, drawn0, toks0, os0⟩ := st
    obtain ⟨hP, hR⟩ := hh
    have isSub := sub_enumerate
    have begun : ∀ {A2 : Around} {E2 : Value → Shared → Prop} {Q2 : Value → Shared → Prop}, Q2 (.ref heap0.objs.size) ⟨heap0.push ob, gens0, drawn0, toks0, os0⟩ → wpAny (model prog w) A2 (pyIter u) Q2 E2 ⟨heap0, gens0, drawn0, toks0, os0⟩ :=
      fun z => B.iter prog w _ _ ⟨heap0, gens0, drawn0, toks0, os0⟩ _ hP z
    wp_walk using begun
    refine wpAny_stack_any fun stk => wpAny_pure ?_
    split
    · rename_i cc _ _ _ _ _
      cases (cc == Value.type "enumerate") <;> (wp_walk using begun; exact ⟨_, rfl, hR⟩)
    · (wp_walk using begun; exact ⟨_, rfl, hR⟩)
section
variable {prog : Program} {w : World} {A : Around} {E : Value → Shared → Prop} {s : Shared}
theorem enum_call1 {u : Value} {ob : Obj} {P : Heap → Prop} {Q : Value → Shared → Prop} (B : Begins u ob P) (hP : P s.heap)
    (q : ∀ h', IsEnum h' (s.heap.objs.size + 1) s.heap.objs.size 0 .none → h'.get? s.heap.objs.size = some ob → (∀ b o, s.heap.get? b = some o → h'.get? b = some o) → Q (.ref (s.heap.objs.size + 1)) { s with heap := h' }) :
    wpAny (model prog w) A (call (.type "enumerate") [u]) Q E s := by
  refine callType_new F.called_enumerate (by decide) (F.typeCall_enumerate_1 _) (F.newCall_enumerate_1 _) (fun x => F.args_object_init_2 x _) F.entry_enumerate_new (enum_new1 B) ⟨hP, ?_⟩
  have sz : (s.heap.push ob).objs.size = s.heap.objs.size + 1 := Heap.size_push ..
  show _ ∧ _
  have top : ((s.heap.push ob).push (enumObj s.heap.objs.size)).get? (s.heap.push ob).objs.size = some (enumObj s.heap.objs.size) := Heap.get?_push_size _ rfl
  rw [sz] at top ⊢
  exact ⟨⟨_, top, rfl⟩, q _ top (Heap.get?_push_of_some _ (Heap.get?_push_size _ B.free)) fun b x e => Heap.get?_push_of_some _ (Heap.get?_push_of_some _ e)⟩
end
/-- items with their numbers -/
def Itn (K : PySem.W.Frag) (a : Src) (xs : List V) : It :=
  ⟨fun i H => a.ok K H xs ∧ i < xs.length, fun i H v H' => ∃ T x, v = .ref T ∧ H T = none ∧ H' = upd H T (.tup [.int (i : Nat), x]) ∧ xs[i]? = some x, fun i H => a.ok K H xs ∧ xs.length ≤ i⟩
theorem turn_num {P : Program} {w : World} {K : PySem.W.Frag} {elts : List Expr} {kk : Nat} {tpos : Pos} {e it : Addr} {a : Src} {xs : List V} (ne : e ≠ it) (nf : e ∉ a.fp it) (na : a.off it) :
    Turn P w K (.Tuple elts kk tpos) (Itn K a xs) [e, it] e (fun i h => (∃ old, IsEnum h e it ((i : Nat) : Int) old) ∧ a.on h it i ∧ i ≤ xs.length) where
  mem := by simp
  obj := fun i h st b hb => by
    obtain ⟨⟨old, he⟩, q, _⟩ := st
    have e' : b = e ∨ b = it := by simpa using hb
    rcases e' with z | z
    · rw [z]; exact ⟨_, he, fun v q => nomatch q⟩
    · rw [z]; exact Src.obj q
  keep := fun i h h' st k => by
    obtain ⟨⟨old, he⟩, q, l⟩ := st
    exact ⟨⟨old, k e (by simp) _ he⟩, Src.keep q fun o z => k it (by simp) o z, l⟩
  item := by
    intro X hP hw hK hc i pins s σ H E I hf st hg
    subst hP hw hK
    obtain ⟨⟨old, he⟩, hit, hl⟩ := st
    obtain ⟨ox, hx⟩ := hg
    have hh : X.A.in1.handled = none := I.ok.hd hc
    obtain ⟨P1, S1, D1, s1, r1, k1⟩ := Src.draws hh I ox hit na
    have hel : e < s.heap.objs.size := Heap.lt_size he
    refine wpAny_pyNext_enum_itemD D1 he s1 hx ne nf fun u h' tk p1 eo s1' hT hsz hk => ?_
    obtain ⟨x, ex, rx⟩ := r1 _ _ p1
    refine ⟨_, rfl, wpAny_letOwnedTupleGo_enum (s := { s with heap := h', toks := tk + 1 }) eo fun h'' he' sb => ?_⟩
    have hT2 : h''.get? s.heap.objs.size = some { cls := .type "tuple", data := .seq #[.int i tk, u] } := (sb.2 _ (Nat.ne_of_gt hel)).trans hT
    have new : ObjOk X.prog X.w (upd H s.heap.objs.size (.tup [.int (i : Nat), x])) h'' s.heap.objs.size (.tup [.int (i : Nat), x]) :=
      ⟨by show 2 ≤ sizeLine; decide, [.int i tk, u], .cons ⟨_, rfl⟩ (.cons rx .nil), ⟨_, hT2, rfl, _, rfl⟩⟩
    have keepE : ∀ b o, b ≠ e → h'.get? b = some o → h''.get? b = some o := fun b o hb q => (sb.2 b hb).trans q
    have I1 : Inv X pins σ (upd H s.heap.objs.size (.tup [.int (i : Nat), x])) { s with heap := h'', toks := tk + 1 } :=
      I.turnedNew (ch := [e, it]) (fun c o hb q => keepE c o (fun z => hb (by simp [z])) (hk c o (fun z => hb (by simp [z])) (fun z => hb (by simp [z])) q)) hf (Nat.le_refl _) new
    refine ⟨.ref s.heap.objs.size, _, I1, rfl, ⟨_, x, rfl, I.hok.fresh (Nat.le_refl _), rfl, ex⟩, ⟨⟨u, ?_⟩, Src.keep (k1 _ _ s1') fun o q => keepE it o (Ne.symm ne) q, hx⟩, fun c hc => ?_⟩
    · have e1 : ((i + 1 : Nat) : Int) = (i : Int) + 1 := by omega
      rw [e1]; exact he'
    · have hb' : c < s.heap.objs.size := by
        have e' : c = e ∨ c = it := by simpa using hc
        rcases e' with q | q
        · rw [q]; exact hel
        · obtain ⟨o, ho, _⟩ := Src.obj hit; rw [q]; exact Heap.lt_size ho
      rw [upd_ne (Nat.ne_of_lt hb')]
      exact (hf c hc).1
  done := by
    intro X hP hw hK hc i pins s σ H E I hf st hg
    subst hP hw hK
    obtain ⟨⟨old, he⟩, hit, hl⟩ := st
    obtain ⟨ox, hx⟩ := hg
    have hh : X.A.in1.handled = none := I.ok.hd hc
    obtain ⟨P1, S1, D1, s1, r1, k1⟩ := Src.draws hh I ox hit na
    have ei : i = xs.length := by omega
    subst ei
    exact wpAny_pyNext_enum_endD D1 he s1 fun h' eb => ⟨rfl, I.turnedL (t' := s.toks) (ch := [e, it]) (fun c o hb q => eb c o (fun z => hb (by simp [z])) q) hf⟩
  self := fun A i s Q E st h => by
    obtain ⟨⟨_, he⟩, _⟩ := st
    exact wpAny_pyIter_enum he h
def iNum (K : PySem.W.Frag) (ta : TA) : TI := fun σ H R => ta σ H fun vs H1 => ∃ a xs, vs = [Src.v a] ∧ a.ok K H1 xs ∧ R (Itn K a xs) H1
theorem pi_num {X : Cx} {e : Expr} {ta : TA} {p pos tpos : Pos} {elts : List Expr} {kk : Nat} (hg : Gl X "enumerate") (hm : X.mg "enumerate" = none) (ha : PA X [e] ta) (hs : starEach [e] X.env = (false, eval e X.env) :: starEach [] X.env) :
    PI X (.Tuple elts kk tpos) (.Call (.Name "enumerate" p) [e] [] pos) (iNum X.K ta) := by
  refine ⟨fun pins s σ H R I h => ?_⟩
  refine Call_ (ld_blt I hg hm boot_enumerate (PyProof.Rows.callWith_type1 (thn (ha.run pos pins s σ H _ I h) fun us s1 ⟨vs, H1, I1, r1, a, xs, ex, oa, q⟩ => ?_) hs rfl))
  subst ex
  obtain ⟨u, rfl, ra⟩ := vals1 r1
  obtain ⟨o1, P1, B1, p1, n1, t1, f1⟩ := Src.begins I1 oa ra
  refine enum_call1 B1 p1 fun h' he h1 hk => wpAny_pyIter_enum he ?_
  have I2 : Inv X pins σ H1 { s1 with heap := h' } := I1.kept (t' := s1.toks) hk
  refine ⟨s1.heap.objs.size + 1, [s1.heap.objs.size + 1, s1.heap.objs.size], _, _, H1, rfl, I2, turn_num (xs := xs) (a := a) (it := s1.heap.objs.size) (Nat.succ_ne_self _) ?_ (f1 _ (Nat.le_refl _)), ⟨⟨.none, he⟩, n1 _ _ h1, Nat.zero_le _⟩, fun b hb => ?_, q⟩
  · rw [Src.fp_eq]
    intro hm
    rcases List.mem_cons.mp hm with z | z
    · exact Nat.succ_ne_self _ z
    · exact absurd (t1 _ z) (by show ¬ s1.heap.objs.size + 1 < s1.heap.objs.size; omega)
  · have hle : s1.heap.objs.size ≤ b := by
      have e' : b = s1.heap.objs.size + 1 ∨ b = s1.heap.objs.size := by simpa using hb
      rcases e' with z | z
      · rw [z]; exact Nat.le_succ _
      · rw [z]; exact Nat.le_refl _
    exact I1.fpOk hle (I1.hok.fresh hle)
section
variable {G : Cfg} {X : Cx} {n : Nat} {C : Ctx} {F : FE} {W : Nat → Prop} {B1 H1 : Hp} {σ : L2.St} {ρ1 : Env} {L1 : Nat → List Addr}
theorem enumP_get : ∀ {xs : List PV} {k i : Nat} {p : PV}, (Ice.enumP k xs)[i]? = some p → ∃ x, xs[i]? = some x ∧ p = .tup [.int ((k + i : Nat) : Int), x]
  | [], k, i, p, h => by simp [Ice.enumP] at h
  | x :: xs, k, 0, p, h => by
    have h : some (PV.tup [.int k, x]) = some p := h
    cases h
    exact ⟨x, rfl, rfl⟩
  | x :: xs, k, i + 1, p, h => by
    have h : (Ice.enumP (k + 1) xs)[i]? = some p := h
    obtain ⟨y, h1, h2⟩ := enumP_get h
    exact ⟨y, by simpa using h1, by rw [h2]; congr 4; omega⟩
theorem enumP_len : ∀ {xs : List PV} {k : Nat}, (Ice.enumP k xs).length = xs.length
  | [], _ => rfl
  | x :: xs, k => by show (Ice.enumP (k + 1) xs).length + 1 = _; rw [enumP_len]; rfl
theorem walk_num {a : Src} {vs : List V} {ps : List PV} (h : ∀ B' H', Sub B1 B' → Sub B' H' → a.ok G.K H' vs) (l : RepL G B1 vs ps) (s : Sub B1 H1) : Walk G B1 H1 ρ1 L1 (Itn G.K a vs) (Ice.enumP 0 ps) := by
  intro σ B' H' ρ' L' σ' A i
  have ha := h B' H' A.ext.bb A.st.sub
  refine ⟨fun p hp => ?_, fun hi => ⟨ha, by rw [l.length]; rwa [enumP_len] at hi⟩⟩
  obtain ⟨x, hx, rfl⟩ := enumP_get hp
  obtain ⟨v, h1, h2⟩ := l.get hx
  have lt1 : i < vs.length := by obtain ⟨z, _⟩ := List.getElem?_eq_some_iff.mp h1; exact z
  refine ⟨⟨ha, lt1⟩, fun w H'' ⟨T, v', ew, hT, eH, e1⟩ => ?_⟩
  rw [h1] at e1
  cases e1
  subst ew eH
  have := pair_new A.st.sub hT (.int (i : Nat)) (h2.mono A.ext.bb)
  rwa [show ((0 + i : Nat) : Int) = (i : Nat) by omega]
theorem imp_num {a : Ev} : ∀ σ H R, tI G F W (Ice.itEn a) σ H R → iNum G.K (tEs G F W [a]) σ H R := by
  rintro σ H R ⟨B, ρ, L, S, h⟩
  refine ⟨B, ρ, L, S, ?_⟩
  have h := (show wpR W ((a F ρ).bind fun (p, _, ρ1) => (Ice.R.of (Ice.walkOf p)).bind fun xs => Ice.R.ok (Ice.enumP 0 xs, (none : Option Nat), ρ1)) _ from h)
  show wpR W ((a F ρ).bind fun (p, _, ρ1) => Ice.R.ok ([p], ρ1)) _
  cases ea : a F ρ with
  | exn c => rw [ea] at h; exact h
  | stuck => rw [ea] at h; exact h.elim
  | ok x =>
    obtain ⟨p, m, ρ1⟩ := x
    rw [ea] at h
    have h : wpR W ((Ice.R.of (Ice.walkOf p)).bind fun xs => Ice.R.ok (Ice.enumP 0 xs, (none : Option Nat), ρ1)) _ := h
    intro vs B2 H2 L2 A rl
    cases rl with
    | @cons v _ _ _ rp rl =>
      cases rl
      cases e1 : Ice.walkOf p with
      | none => rw [e1] at h; exact h.elim
      | some ps =>
        rw [e1] at h
        have h := (show ∀ J B1 H1 L1 ρ0, Aft G B H ρ L σ B1 H1 ρ0 L1 σ → LockR none ρ0 ρ1 → Walk G B1 H1 ρ1 L1 J (Ice.enumP 0 ps) → R J H1 from h)
        obtain ⟨c, xs, rfl, l1, k1⟩ := src_of A.st.sub rp e1
        exact ⟨c, xs, rfl, k1 B2 H2 (Sub.refl _) A.st.sub, h _ B2 H2 L2 ρ1 A rfl (walk_num k1 l1 A.st.sub)⟩
theorem enum_mem : ("enumerate" : Str) ∈ bNames := bmem (by decide)
end
def wEn (a : KE) : KI where
  d := Ice.itEn a.d
  chk C tg e := isTupE tg && match e with | .Call (.Name x _) [y] [] _ => seq x "enumerate" && isGl C x && chkL [a] C [y] | _ => false
  ok {G X n C F W} h tg e hc := by
    rw [Bool.and_eq_true] at hc
    obtain ⟨ht, hc⟩ := hc
    cases tg with
    | Tuple elts kk tpos =>
      split at hc
      · rename_i x p y pos
        simp only [Bool.and_eq_true] at hc
        obtain ⟨⟨h1, h2⟩, h3⟩ := hc
        have e1 := seq_eq h1
        subst e1
        have st := chkL_star h3
        rw [List.all_cons, Bool.and_eq_true] at st
        have := pi_num (X := X) (p := p) (pos := pos) (tpos := tpos) (elts := elts) (kk := kk) (isGl_ok h h2).1 (h.blt _ enum_mem) (pa_list h h3) (star_cons st.1 _ _)
        rw [h.K] at this
        exact ⟨this.imp imp_num, fun env x => rfl⟩
      · cases hc
    | _ => cases ht
/-! ### min, max of two whole numbers -/
section
variable {X : Cx} {G : Cfg} {n : Nat}
theorem nx_min2 : Nx2 Ice.pMin2 := by intro p q c; unfold Ice.pMin2; split <;> (intro h; cases h)
theorem nx_max2 : Nx2 Ice.pMax2 := by intro p q c; unfold Ice.pMax2; split <;> (intro h; cases h)
theorem c_min2 (g : XG G X n) : CallR X (.builtin "min") (rC2 G Ice.pMin2) := by
  intro pins s σ H xs us Q I r ⟨x, y, hx, B, p, q, o, m, sb, ox, oy, e, gv⟩
  subst hx
  unfold Ice.pMin2 at e
  split at e
  · cases e
    obtain rfl := ox.int
    obtain rfl := oy.int
    obtain ⟨u1, u2, rfl, ⟨t1, rfl⟩, ⟨t2, rfl⟩⟩ := vals2 r
    refine min_two_ints (I.ok.hd g.calm) fun h' tk hk => ?_
    split
    · exact ⟨.int _, H, I.kept hk, ⟨_, rfl⟩, gv.at sb (by rename_i z; rw [if_pos (show _ < _ from z)]; exact .int _)⟩
    · exact ⟨.int _, H, I.kept hk, ⟨_, rfl⟩, gv.at sb (by rename_i z; rw [if_neg (show ¬ _ < _ from z)]; exact .int _)⟩
  · cases e
theorem c_max2 (g : XG G X n) : CallR X (.builtin "max") (rC2 G Ice.pMax2) := by
  intro pins s σ H xs us Q I r ⟨x, y, hx, B, p, q, o, m, sb, ox, oy, e, gv⟩
  subst hx
  unfold Ice.pMax2 at e
  split at e
  · cases e
    obtain rfl := ox.int
    obtain rfl := oy.int
    obtain ⟨u1, u2, rfl, ⟨t1, rfl⟩, ⟨t2, rfl⟩⟩ := vals2 r
    refine max_two_ints (I.ok.hd g.calm) fun h' tk hk => ?_
    split
    · exact ⟨.int _, H, I.kept hk, ⟨_, rfl⟩, gv.at sb (by rename_i z; rw [if_pos (show _ < _ from z)]; exact .int _)⟩
    · exact ⟨.int _, H, I.kept hk, ⟨_, rfl⟩, gv.at sb (by rename_i z; rw [if_neg (show ¬ _ < _ from z)]; exact .int _)⟩
  · cases e
end
structure B2 where
  x : Str
  id : String
  f : PV → PV → Ice.Out
  nx : Nx2 f
  boot : bootBuiltins x = some (.builtin id)
  rule : ∀ {X : Cx} {G : Cfg} {n : Nat}, XG G X n → CallR X (.builtin id) (rC2 G f)
  mem : x ∈ bNames
  nn : x ≠ "__name__"
def kB2 (b : B2) (a c : KO) : KE where
  d := Ice.e2 b.f a.d c.d
  chk C e := match e with | .Call (.Name x _) [y, z] [] _ => seq x b.x && isGl C x && a.chk C y && notStar y && c.chk C z && notStar z | _ => false
  ok {G X n C F W} h e hc := by
    split at hc
    · rename_i x p y z pos
      simp only [Bool.and_eq_true] at hc
      obtain ⟨⟨⟨⟨⟨h1, h2⟩, h3⟩, h4⟩, h5⟩, h6⟩ := hc
      obtain ⟨gl, db⟩ := isGl_ok h h2
      have e1 := seq_eq h1
      subst e1
      exact both ((pe_callB (b.rule h.toXG) gl (h.blt _ b.mem) b.boot (pa_cons (a.ok h h3) (pa_cons (c.ok h h5) pa_nil (star_cons h6 _ _)) (star_cons h4 _ _)) b.nn db (star_cons h4 _ _) (star_any _ _ [z] (by rw [List.all_cons, h6]; rfl))).imp (imp_c2 b.nx)) rfl
    · cases hc
def kMin2 : KO → KO → KE := kB2 ⟨"min", "min", Ice.pMin2, nx_min2, rfl, c_min2, bmem (by decide), by decide⟩
def kMax2 : KO → KO → KE := kB2 ⟨"max", "max", Ice.pMax2, nx_max2, rfl, c_max2, bmem (by decide), by decide⟩
end IceS
end
section
set_option Elab.async false
set_option linter.all false
set_option maxRecDepth 100000
/-! Certified code: dict comprehensions. -/
namespace IceS
open PySem hiding Env
open PySem.Spec PyProof.Rows L2 PySem.W
open Ice (PV Slot Env FE Ev Op Opd Sx Tg gS sS)
theorem dPut_len {k v : PV} : ∀ {d d' : Ice.KVs}, Ice.dPut k v d = some d' → d'.length ≤ d.length + 1
  | [], d', h => by cases h; exact Nat.le_refl _
  | (a, b) :: r, d', h => by
    unfold Ice.dPut at h
    split at h
    · cases h; exact Nat.le_succ _
    · cases e : Ice.dPut k v r with
      | none => rw [e] at h; cases h
      | some x => rw [e] at h; cases h; exact Nat.succ_le_succ (dPut_len e)
    · cases h
section
variable {G : Cfg} {X : Cx} {n : Nat} {C : Ctx} {F : FE} {W : Nat → Prop}
/-- a new object that is nobody's stays so -/
theorem stay {B H B1 H1 : Hp} {ρ ρ1 : Env} {L L1 : Nat → List Addr} {σ σ1 : L2.St} {D : Addr} {o : HO} (A : Aft G B H ρ L σ B1 H1 ρ1 L1 σ1) (eD : H D = some o) (nD : B D = none) (nl : ∀ j, D ∉ L j) : H1 D = some o ∧ B1 D = none ∧ ∀ j, D ∉ L1 j := by
  refine ⟨A.ext.hh D _ eD fun ⟨j, hj, _⟩ => nl j hj, ?_, fun j hj => ?_⟩
  · cases q : B1 D with
    | none => rfl
    | some x =>
      rcases A.ext.nw D x q nD with z | ⟨j, z⟩
      · rw [eD] at z; cases z
      · exact absurd z (nl j)
  · rcases A.own j D hj with ⟨z, _⟩ | ⟨z, _⟩
    · exact nl j z
    · rw [eD] at z; cases z
/-- it is written -/
theorem write_new {B H B1 H1 H0 : Hp} {ρ ρ1 : Env} {L L1 : Nat → List Addr} {σ σ1 : L2.St} {D : Addr} {o : HO} (A : Aft G B H ρ L σ B1 H1 ρ1 L1 σ1) (hD : H D = none) (nD : B1 D = none) (nl : ∀ j, D ∉ L1 j) : Aft G B H ρ L σ B1 (upd H1 D o) ρ1 L1 σ1 := by
  refine ⟨?_, ?_, A.own, A.par⟩
  · refine ⟨A.st.len, fun b x e => ?_, fun j => ?_, A.st.dist⟩
    · have hb : b ≠ D := fun z => by rw [z, nD] at e; cases e
      rw [upd_ne hb]; exact A.st.sub b x e
    · refine (A.st.slot j).mono (Sub.refl _) (fun a ha => (A.st.own ⟨j, ha⟩).1) fun a ha x hx => ?_
      have hb : a ≠ D := fun z => nl j (z ▸ ha)
      rw [upd_ne hb]; exact hx
  · refine ⟨A.ext.bb, fun b x e nw => ?_, A.ext.nw, fun b e => A.ext.dm b (upd_dm b e)⟩
    rw [upd_ne (ne_of_none e hD)]
    exact A.ext.hh b x e nw
theorem imp_dc {it : Ice.It} {tg : Tg} {ws own : List Nat} {c : Option Ev} {ek ev : Ev} (hw : ∀ i ∈ ws, i ∈ own) :
    ∀ σ H Q, tE G F W (Ice.eDC own it tg c ek ev) σ H Q → tDc (tI G F W it) (tG G (fun _ => False) ws tg) (tTs G F c) (tE G F (fun _ => False) ek) (tE G F (fun _ => False) ev) own σ H Q := by
  rintro σ H Q ⟨B, ρ, L, S, h⟩
  have h := (show wpR W ((it F ρ).bind fun (xs, l, ρ1) => if Ice.plainS ρ1 own = true then ((Ice.compL own tg c (Ice.el2 ek ev) F xs ρ1).bind fun (ps, ρ2) => (Ice.finD ps).bind fun v => .ok (v, true, Ice.unlock l (Ice.restS own ρ1 ρ2))).calm else .stuck) _ from h).bind
  refine ⟨B, ρ, L, S, h.mono (fun _ h => h) ?_⟩
  rintro ⟨xs, l, ρ1⟩ _ h J B1 H1 L1 ρ0 A0 lk wk D hD
  have h : wpR W (if Ice.plainS ρ1 own = true then ((Ice.compL own tg c (Ice.el2 ek ev) F xs ρ1).bind fun (ps, ρ2) => (Ice.finD ps).bind fun v => .ok (v, true, Ice.unlock l (Ice.restS own ρ1 ρ2))).calm else .stuck) _ := h
  split at h
  · rename_i pl
    have h := h.calm.bind
    have S1 := lock_st A0.st lk
    have kds : ∀ j ∈ own, kd (gS (Ice.wipeS own ρ1) j) ≠ 3 := fun j hj => by rw [gS_wipeS, if_pos hj]; simp [kd]
    have Db : B1 D = none := S1.sub.no hD
    have Dl : ∀ i, D ∉ L1 i := fun i hi => by obtain ⟨_, o, z⟩ := S1.own ⟨i, hi⟩; rw [hD] at z; cases z
    have A1 := Aft.ext0 (wipe_st (own := own) S1) (Ext.new (o := HO.dK []) hD) (S1.sub.new hD)
    refine ⟨fun i m H' => m = xs.length - i ∧ i ≤ xs.length ∧ ∃ B' ρ' L' es kvs cnt, Aft G B1 H1 (Ice.wipeS own ρ1) (offL own L1) (wipe σ own) B' H' (Ice.wipeS own ρ') L' (wipe σ own) ∧ ρ'.length = ρ1.length ∧
      H' D = some (.dK es) ∧ RepK G B' es kvs ∧ (es.map (·.1)).Nodup ∧ kvs.length ≤ cnt ∧ B' D = none ∧ (∀ j, D ∉ L' j) ∧
      wpR (fun _ => False) (Ice.compL own tg c (Ice.el2 ek ev) F (xs.drop i) ρ') (fun (qs, ρ2) => wpR (fun _ => False) ((Ice.finDN (cnt + qs.length) qs kvs).bind fun v => .ok (v, true, Ice.unlock l (Ice.restS own ρ1 ρ2)))
        (fun (p, m, ρ1) => ∀ v B2 H2 L2, Aft G B H ρ L σ B2 H2 ρ1 L2 σ → Res G B2 H H2 v p m → Nb L2 v m → Q v H2)),
      ⟨_, rfl, Nat.zero_le _, B1, ρ1, _, [], [], 0, A1, rfl, upd_same, .nil, List.nodup_nil, Nat.le_refl _, Db, fun j hj => Dl j (offL_mem hj).2, ?_⟩, ?_⟩
    · refine h.mono (fun _ h => h) ?_
      rintro ⟨qs, ρ2⟩ _ h
      show wpR (fun _ => False) ((Ice.finDN (0 + qs.length) qs []).bind _) _
      rw [Nat.zero_add]
      exact h
    rintro i m H' ⟨rfl, hi, B', ρ', L', es, kvs, cnt, A, hl, eD, rl, nd, hc, nD, nl, h⟩
    by_cases hlt : i < xs.length
    · have hx : xs[i]? = some xs[i] := List.getElem?_eq_getElem hlt
      rw [List.drop_eq_getElem_cons hlt] at h
      have A' := block_back S1 pl A hl
      obtain ⟨go, yl⟩ := (wk σ B' H' _ _ σ A' i).1 _ hx
      refine .inr ⟨go, _, fun H2 w => ⟨xs.length - (i + 1), by omega, w⟩, fun x H'' hy => ?_⟩
      obtain ⟨B'', e1, s1, r1⟩ := yl x H'' hy
      have Ae := Aft.ext0 A.st e1 s1
      have A2 := A.trans Ae
      refine ⟨B'', Ice.wipeS own ρ', L', xs[i], A2.st, r1, (show wpR (fun _ => False) ((tg xs[i] (Ice.wipeS own ρ')).bind _) _ from h).bind.mono (fun _ h => h) ?_⟩
      intro ρ2 _ h σ2 B2 H2 L2 sb A3
      have hwp := wipe_but sb hw
      refine ⟨hwp, B2, ρ2, L2, A3.st, (show wpR (fun _ => False) ((Ice.cond? c F ρ2).bind _) _ from h).bind.mono (fun _ h => h) ?_⟩
      rintro ⟨k, ρ3⟩ _ h B3 H3 L3 A4
      have A5 := (A2.trans A3).trans A4
      obtain ⟨d1, d2, d3⟩ := stay (Ae.trans (A3.trans A4)) eD nD nl
      have len3 : ρ3.length = ρ1.length := by
        rw [← A5.st.len, sb.2, wipe_length]
        exact S1.len
      have rl3 : RepK G B3 es kvs := rl.mono ((e1.bb.trans A3.ext.bb).trans A4.ext.bb)
      cases k with
      | false =>
        rw [if_neg Bool.false_ne_true]
        have A6 := A5.wipe kds
        rw [hwp] at A6
        exact ⟨rfl, hlt, B3, ρ3, _, es, kvs, cnt, A6, len3, d1, rl3, nd, hc, d2, fun j hj => d3 j (offL_mem hj).2, h⟩
      | true =>
        rw [if_pos rfl]
        refine ⟨B3, ρ3, L3, A4.st, ?_⟩
        have h := (show wpR (fun _ => False) (((ek F ρ3).bind fun (p, _, ρ1) => (ev F ρ1).bind fun (q, _, ρ2) => Ice.R.ok ([PV.tup [p, q]], ρ2)).bind fun (ps, ρ3) => (Ice.compL own tg c (Ice.el2 ek ev) F (xs.drop (i + 1)) ρ3).bind fun (qs, ρ4) => .ok (ps ++ qs, ρ4)) _ from h).bind.bind
        refine h.mono (fun _ h => h) ?_
        rintro ⟨p, m, ρ4⟩ _ h y B4 H4 L4 A7 r nb
        obtain ⟨B5, A8, r5⟩ := A7.share r nb
        obtain ⟨f1, f2, f3⟩ := stay A8 d1 d2 d3
        refine ⟨B5, ρ4, L4, A8.st, ?_⟩
        have h := (show wpR (fun _ => False) ((ev F ρ4).bind fun (q, _, ρ2) => Ice.R.ok ([PV.tup [p, q]], ρ2)) _ from h).bind
        refine h.mono (fun _ h => h) ?_
        rintro ⟨q, m2, ρ5⟩ _ h z B6 H6 L6 A9 rz nbz
        obtain ⟨B7, A10, r7⟩ := A9.share rz nbz
        obtain ⟨g1, g2, g3⟩ := stay A10 f1 f2 f3
        have AA := (A5.trans A8).trans A10
        have rl7 := (rl3.mono A8.ext.bb).mono A10.ext.bb
        have h := (show wpR (fun _ => False) ((Ice.compL own tg c (Ice.el2 ek ev) F (xs.drop (i + 1)) ρ5).bind fun (qs, ρ4) => .ok ([PV.tup [p, q]] ++ qs, ρ4)) _ from h).bind
        have inv : ∀ qs ρ6, wpR (fun _ => False) ((Ice.finDN (cnt + ([PV.tup [p, q]] ++ qs).length) ([PV.tup [p, q]] ++ qs) kvs).bind fun v => .ok (v, true, Ice.unlock l (Ice.restS own ρ1 ρ6))) (fun (p, m, ρ1) => ∀ v B2 H2 L2, Aft G B H ρ L σ B2 H2 ρ1 L2 σ → Res G B2 H H2 v p m → Nb L2 v m → Q v H2) →
            cnt < Ice.LIM ∧ p.isKey = true ∧ ∃ kvs', Ice.dPut p q kvs = some kvs' ∧ wpR (fun _ => False) ((Ice.finDN (cnt + 1 + qs.length) qs kvs').bind fun v => .ok (v, true, Ice.unlock l (Ice.restS own ρ1 ρ6))) (fun (p, m, ρ1) => ∀ v B2 H2 L2, Aft G B H ρ L σ B2 H2 ρ1 L2 σ → Res G B2 H H2 v p m → Nb L2 v m → Q v H2) := fun qs ρ6 h => by
          have e1 : cnt + ([PV.tup [p, q]] ++ qs).length = cnt + 1 + qs.length := by rw [List.length_append, List.length_singleton]; omega
          rw [e1] at h
          have h : wpR (fun _ => False) ((if cnt + 1 + qs.length ≤ Ice.LIM then ((if p.isKey = true then (match Ice.dPut p q kvs with | some d' => Ice.puts qs d' | none => .stuck) else .stuck).bind fun d' => Ice.R.ok (PV.dct d')) else .stuck).bind fun v => .ok (v, true, Ice.unlock l (Ice.restS own ρ1 ρ6))) _ := h
          by_cases hz : cnt + 1 + qs.length ≤ Ice.LIM
          · rw [if_pos hz] at h
            by_cases hk : p.isKey = true
            · rw [if_pos hk] at h
              cases e : Ice.dPut p q kvs with
              | none => rw [e] at h; exact h.elim
              | some kvs' =>
                rw [e] at h
                refine ⟨by omega, hk, kvs', rfl, ?_⟩
                show wpR _ ((if cnt + 1 + qs.length ≤ Ice.LIM then (Ice.puts qs kvs').bind fun d' => Ice.R.ok (PV.dct d') else .stuck).bind _) _
                rw [if_pos hz]
                exact h
            · rw [if_neg hk] at h; exact h.elim
          · rw [if_neg hz] at h; exact h.elim
        obtain ⟨⟨qs0, ρ60⟩, _, h0⟩ := h.got fun c e => by rw [e] at h; exact h.elim
        obtain ⟨hcl, hkey, kvs', eput, _⟩ := inv qs0 ρ60 h0
        obtain ⟨kk, ey, ep⟩ := (Opn.old (H := H6) (r5.mono A10.ext.bb)).key hkey
        obtain ⟨kvs2, ep2, rl8⟩ := dPut_rep r7 rl7 nd
        rw [← ep, eput] at ep2
        cases ep2
        refine ⟨es, kk, ey, g1, by rw [rl.length, sizeLine_lim]; omega, rfl, hlt, B7, ρ5, offL own L6, putK es kk z, kvs', cnt + 1, ?_, ?_, upd_same, rl8, nodup_putK nd, by have := dPut_len eput; omega, g2, fun j hj => g3 j (offL_mem hj).2, ?_⟩
        · have A11 := AA.wipe kds
          rw [hwp] at A11
          exact write_new (H0 := H) A11 hD g2 fun j hj => g3 j (offL_mem hj).2
        · rw [← AA.st.len, sb.2, wipe_length]
          exact S1.len
        · refine h.mono (fun _ h => h) ?_
          rintro ⟨qs, ρ6⟩ _ h
          obtain ⟨_, _, kvs3, e3, h3⟩ := inv qs ρ6 h
          rw [eput] at e3
          cases e3
          exact h3
    · have e : i = xs.length := by omega
      subst e
      rw [List.drop_length] at h
      have A' := block_back S1 pl A hl
      have A3 := unlock_aft lk A'
      have AF := A0.trans A3
      refine .inl ⟨(wk σ B' H' _ _ σ A' _).2 (Nat.le_refl _), ?_⟩
      have h : wpR (fun _ => False) ((if cnt + 0 ≤ Ice.LIM then Ice.R.ok (PV.dct kvs) else .stuck).bind fun v => .ok (v, true, Ice.unlock l (Ice.restS own ρ1 ρ'))) _ := h
      split at h
      · exact (show ∀ v B2 H2 L2, Aft G B H ρ L σ B2 H2 (Ice.unlock l (Ice.restS own ρ1 ρ')) L2 σ → Res G B2 H H2 v (.dct kvs) true → Nb L2 v true → Q v H2 from h) (.ref D) B' H' _ AF (.new nD (A0.ext.dm D hD) (.dK eD rl)) fun _ a ea j hj => by
          cases ea
          exact nl j (offL_mem hj).2
      · exact h.elim
  · exact h.elim
end
end IceS
end
section
set_option Elab.async false
set_option linter.all false
set_option maxRecDepth 100000
/-! Certified code: dict comprehensions, checked; join. -/
namespace IceS
open PySem hiding Env
open PySem.Spec PyProof.Rows L2 PySem.W
open Ice (PV Slot Env FE Ev Op Opd Sx Tg gS sS)
open TL (tl joinL)
/-- {k: v for tg in it if c} -/
def kDC (own : List Nat) (it : KI) (tg : KG) (c : Option KE) (ek ev : KE) : KE where
  d := Ice.eDC own it.d tg.d (c.map (·.d)) ek.d ev.d
  chk C e := match e with | .DictComp kx vx [⟨t, i, ifs, 0⟩] scope _ => it.chk C t i && blkB C.N C.sc scope own && tg.chk (blkCtx C scope) t && chkC c (blkCtx C scope) ifs && ek.chk (blkCtx C scope) kx && ev.chk (blkCtx C scope) vx && subN tg.ws own | _ => false
  ok {G X n C F W} h e hc := by
    split at hc
    · rename_i kx vx t i ifs scope pos
      simp only [Bool.and_eq_true] at hc
      obtain ⟨⟨⟨⟨⟨⟨h1, h2⟩, h3⟩, h4⟩, h5⟩, h6⟩, h7⟩ := hc
      have ok := blkB_ok h2
      rw [← h.N, ← h.sc] at ok
      refine both ((pe_dc h.calm h.nd (it.ok h h1).1 ok (fun s H D cl fp => tg.ok (h.blk ok.uniq s H D cl fp) h3) (fun s H D cl fp => pts_ok (h.blk ok.uniq s H D cl fp) h4) (fun s H D cl fp => (ek.ok (h.blk ok.uniq s H D cl fp) h5).1) (fun s H D cl fp => (ev.ok (h.blk ok.uniq s H D cl fp) h6).1) ((it.ok h h1).2 _)).imp ?_) rfl
      rw [ownN_ix]
      exact imp_dc (subN_ok h7)
    · cases hc
section
variable {X : Cx}
theorem swD {kx vx : Expr} {gs : List Comprehension} {sc : Scope} {p q : Pos} {x : Str} {k : Nat} {ρ : PySem.Env} (e1 : ρ.scope.kind = .function) (e2 : ρ.scope.names.lookup x = some .local) (e3 : (q.line == p.line) = true)
    (e4 : (sc.names.any fun (m, z) => m == x && (z == .local || z == .cell)) = false) : swapsWith (.DictComp kx vx gs sc p) (some (.Name x q)) k ρ = pure true := by
  have f1 : ρ.kindOf x = some .local := e2
  have f2 : ρ.blockKind = .function := by unfold PySem.Env.blockKind; rw [e1]; rfl
  unfold swapsWith
  simp only [f2, f1, e4, Expr.pos, e3]
  rfl
/-- a dict comprehension under one name -/
theorem ps_dictNamed {j : Nat} {x : Str} {q p ps : Pos} {kx vx t it : Expr} {cs : List Expr} {sc : Scope} {own : List (Str × Nat)} {w : TI} {g : TG} {c : TT} {tk tv : TE} (calm : X.calm = true) (nd : X.N.Nodup) (ex : X.N[j]? = some x) (el : X.env.scope.names.lookup x = some .local)
    (sw : swapsWith (.DictComp kx vx [⟨t, it, cs, 0⟩] sc p) (some (.Name x q)) ps.line X.env = pure true) (pit : PI X t it w) (bk : BlkOk X.N X.env.scope sc own)
    (pt : ∀ (s : Shared) (H : Hp) (C : Addr) (l : List (Str × Addr)) (f : List Addr), PG (X.blk s H sc (compEnvC sc l C X.env) f) t g) (pc : ∀ (s : Shared) (H : Hp) (C : Addr) (l : List (Str × Addr)) (f : List Addr), PTs (X.blk s H sc (compEnvC sc l C X.env) f) cs c)
    (pk : ∀ (s : Shared) (H : Hp) (C : Addr) (l : List (Str × Addr)) (f : List Addr), PE (X.blk s H sc (compEnvC sc l C X.env) f) kx tk) (pv : ∀ (s : Shared) (H : Hp) (C : Addr) (l : List (Str × Addr)) (f : List Addr), PE (X.blk s H sc (compEnvC sc l C X.env) f) vx tv)
    (fs : ∀ x, foldedSetIterable it X.env x = pure x) : PS X (.Assign [.Name x q] (.DictComp kx vx [⟨t, it, cs, 0⟩] sc p) ps) (tAsg (tDc w g c tk tv (own.map (·.2))) (gName j)) := by
  constructor
  intro pins s σ H D I h
  rw [exec_Assign_Name_used _ _ _ _ sw]
  refine wpAny_bind (wpAny_standAt (wpAny_bind ?_))
  rw [arm_evalThenUse_DictComp]
  have h : tDc w g c tk tv (own.map (·.2)) σ H (fun v H1 => gName j v σ H1 D.nx) := h
  refine wpAny_bind (thn (dc_core (Qf := fun _ s2 => SP X pins D .next s2) calm nd I pit bk pt pc pk pv fs h fun L C s2 m H2 I2 qq hn f => ?_) fun _ s2 hq => wpAny_pure (wpAny_pure hq))
  show wpAny _ _ (assign (.Name x q) X.env (.ref L)) _ _ _
  refine wpAny_assign_Name (store_ok2 (v := V.ref L) I2 nd ex (.inl el) rfl (fun s3 I3 ⟨a, sb, ha⟩ => ?_) (.inr el))
  have ne : C ≠ a := by
    rcases ha with z | z
    · rw [z]; exact f.2.1
    · exact fun e => f.2.2.2.2.1 x a z e.symm
  exact ⟨m, hn.sameBut sb ne, fun h3 sb3 => ⟨_, H2, I3.turned (t' := s3.toks) (fun b o hb e => (sb3.2 b hb).trans e) f.1 f.2.1 f.2.2.2.1 f.2.2.2.2.1 f.2.2.2.2.2, qq⟩⟩
end
theorem noName {sc : Scope} {x : Str} (h : (!(sc.names.any fun y => seq y.1 x && (match y.2 with | .local => true | .cell => true | _ => false))) = true) : (sc.names.any fun (n, k) => n == x && (k == .local || k == .cell)) = false := by
  refine Bool.eq_false_iff.mpr fun z => ?_
  obtain ⟨⟨y, k⟩, hy, e⟩ := List.any_eq_true.mp z
  have e : (y == x && (k == .local || k == .cell)) = true := e
  rw [Bool.and_eq_true] at e
  have q := not_tt h
  rw [List.any_eq_true.mpr ⟨(y, k), hy, ?_⟩] at q
  · cases q
  · show (seq y x && _) = true
    have : y = x := by simpa using e.1
    subst this
    rw [seq_self]
    cases k <;> first | rfl | exact absurd e.2 (by decide)
/-- x = {k: v for tg in it if c}, on one line -/
def mAsgD (i : Nat) (own : List Nat) (it : KI) (tg : KG) (c : Option KE) (ek ev : KE) : KS where
  d := Ice.sAsg i (Ice.eDC own it.d tg.d (c.map (·.d)) ek.d ev.d)
  chk C s := match s with
    | .Assign [.Name x py] (.DictComp kx vx [⟨t, j, ifs, 0⟩] scope pos) _ => isLoc C i x && (match C.sc.kind with | .function => true | _ => false) && Nat.beq py.line pos.line && !(scope.names.any fun y => seq y.1 x && (match y.2 with | .local => true | .cell => true | _ => false)) &&
        it.chk C t j && blkB C.N C.sc scope own && tg.chk (blkCtx C scope) t && chkC c (blkCtx C scope) ifs && ek.chk (blkCtx C scope) kx && ev.chk (blkCtx C scope) vx && subN tg.ws own
    | _ => false
  ok {G X n C F W} h st hc := by
    split at hc
    · rename_i x py kx vx t j ifs scope pos spos
      simp only [Bool.and_eq_true] at hc
      obtain ⟨⟨⟨⟨⟨⟨⟨⟨⟨⟨h01, h02⟩, h03⟩, h04⟩, h1⟩, h2⟩, h3⟩, h4⟩, h5⟩, h6⟩, h7⟩ := hc
      have ok := blkB_ok h2
      rw [← h.N, ← h.sc] at ok
      obtain ⟨e1, e2⟩ := isLoc_ok h h01
      have hk : X.env.scope.kind = .function := by
        rw [h.sc]
        split at h02
        · assumption
        · cases h02
      have sw := swD (kx := kx) (vx := vx) (gs := [⟨t, j, ifs, 0⟩]) (p := pos) (q := py) (x := x) (k := spos.line) (ρ := X.env) hk e2 (by rw [Nat.eq_of_beq_eq_true h03]; exact beq_self_eq_true _) (noName h04)
      refine (ps_dictNamed h.calm h.nd e1 e2 sw (it.ok h h1).1 ok (fun s H D cl fp => tg.ok (h.blk ok.uniq s H D cl fp) h3) (fun s H D cl fp => pts_ok (h.blk ok.uniq s H D cl fp) h4) (fun s H D cl fp => (ek.ok (h.blk ok.uniq s H D cl fp) h5).1) (fun s H D cl fp => (ev.ok (h.blk ok.uniq s H D cl fp) h6).1) ((it.ok h h1).2 _)).imp ?_
      intro D σ H q
      have q := imp_asg D σ H q
      show tDc _ _ _ _ _ ((ownN X.N own).map (·.2)) σ H _
      rw [ownN_ix]
      exact imp_dc (subN_ok h7) σ H _ q
    · cases hc
/-! join -/
section
variable {G : Cfg} {X : Cx} {n : Nat} {F : FE} {W : Nat → Prop}
theorem strs_of {B : Hp} : ∀ {vs : List V} {ps : List PV} {ss : List (List Nat)}, RepL G B vs ps → Ice.strsOf ps = some ss → ∃ ys : List Str, vs = ys.map V.str ∧ ss = ys.map tl
  | [], [], ss, _, e => by cases e; exact ⟨[], rfl, rfl⟩
  | v :: vs, p :: ps, ss, .cons r rl, e => by
    cases r with
    | str x hx =>
      have e : (Ice.strsOf ps).map (x.cps.toList :: ·) = some ss := e
      cases q : Ice.strsOf ps with
      | none => rw [q] at e; cases e
      | some s2 =>
        rw [q] at e
        cases e
        obtain ⟨ys, rfl, rfl⟩ := strs_of rl q
        exact ⟨x :: ys, rfl, rfl⟩
    | _ => cases e
theorem joinS_eq (sep : List Nat) : ∀ ss : List (List Nat), Ice.joinS sep ss = joinL sep ss
  | [] => rfl
  | [_] => rfl
  | a :: b :: r => by
    show a ++ sep ++ Ice.joinS sep (b :: r) = a ++ (sep ++ joinL sep (b :: r))
    rw [joinS_eq sep (b :: r), List.append_assoc]
theorem joinS_len (sep : List Nat) : ∀ ss : List (List Nat), (Ice.joinS sep ss).length ≤ (ss.map List.length).sum + ss.length * sep.length
  | [] => Nat.zero_le _
  | [a] => by show a.length ≤ [a.length].sum + _; simp
  | a :: b :: r => by
    have := joinS_len sep (b :: r)
    show (a ++ sep ++ Ice.joinS sep (b :: r)).length ≤ _
    rw [List.length_append, List.length_append]
    simp only [List.map_cons, List.sum_cons, List.length_cons, Nat.succ_mul, Nat.add_mul] at this ⊢
    omega
theorem nx_joinO (sep : List Nat) (xs : List PV) (c : Nat) : Ice.joinO sep xs ≠ .exn c := by unfold Ice.joinO; (repeat' split) <;> (intro h; cases h)
theorem nx_join : Nx2 Ice.pJoin := by
  intro p q c
  unfold Ice.pJoin
  split
  · exact nx_joinO _ _ c
  · exact nx_joinO _ _ c
  · intro h; cases h
def rJoin (G : Cfg) : V → List V → Hp → VK → Prop := fun x xs H Q => ∃ y, xs = [y] ∧ rP2 G Ice.pJoin x y H Q
theorem joinO_ok {B : Hp} {x : Str} {vs : List V} {ps : List PV} {r : PV} {m : Bool} (la : RepL G B vs ps) (e : Ice.joinO x.cps.toList ps = .ok (r, m)) :
    ∃ ys : List Str, vs = ys.map V.str ∧ (ys.map (·.length)).sum + ys.length * x.length ≤ 16777216 ∧ m = false ∧ Rep G B (.str (Txt.join x ys)) r := by
  unfold Ice.joinO at e
  split at e
  · rename_i ss hs
    obtain ⟨ys, rfl, rfl⟩ := strs_of la hs
    split at e
    · rename_i hl
      cases e
      have hz : (ys.map (·.length)).sum + ys.length * x.length ≤ 16777216 := by
        have el : ((ys.map tl).map List.length) = ys.map (·.length) := by
          rw [List.map_map]
          exact List.map_congr_left fun y _ => rfl
        rw [el, List.length_map] at hl
        exact hl
      refine ⟨ys, rfl, hz, rfl, ?_⟩
      have ej : tl (Txt.join x ys) = Ice.joinS x.cps.toList (ys.map tl) := by
        rw [TL.join_eq, TL.tl_join, joinS_eq]
      have hn := joinS_len x.cps.toList (ys.map tl)
      have := Rep.str (G := G) (B := B) (Txt.join x ys) (by
        rw [sizeLine_lim]
        have : (tl (Txt.join x ys)).length = (Txt.join x ys).length := rfl
        rw [← this, ej]
        exact Nat.le_trans hn hl)
      have e2 : (Txt.join x ys).cps.toList = Ice.joinS x.cps.toList (ys.map tl) := ej
      rw [e2] at this
      exact this
    · cases e
  · cases e
theorem Opn.strV {B H : Hp} {x : V} {l : List Nat} (h : Opn G B H x (.str l)) : ∃ s : Str, x = .str s ∧ l = s.cps.toList := by
  cases h with
  | old r => cases r with | str s _ => exact ⟨s, rfl, rfl⟩
  | own o => cases o
theorem mt_glue (g : XG G X n) : MtR X "str.join" (rJoin G) := by
  rintro pins s σ H x xs v us Q I rx rs ⟨y, rfl, B, p, q, r, m, sb, ox, oy, e, gv⟩
  unfold Ice.pJoin at e
  split at e
  · obtain ⟨z, rfl, rfl⟩ := Opn.strV ox
    obtain ⟨a, vs, rfl, ta, la⟩ := oy.lst sb
    obtain ⟨ys, rfl, hz, rfl, rp⟩ := joinO_ok la e
    exact mt_join pins s σ H _ _ v us Q I rx rs ⟨z, a, ys, rfl, rfl, .inl (SqL.of ta), hz, gv.at sb rp⟩
  · obtain ⟨z, rfl, rfl⟩ := Opn.strV ox
    obtain ⟨a, vs, rfl, ta, la⟩ := oy.tup
    obtain ⟨ys, rfl, hz, rfl, rp⟩ := joinO_ok la e
    exact mt_join pins s σ H _ _ v us Q I rx rs ⟨z, a, ys, rfl, rfl, .inr (g.K ▸ (sb.sqT ta)), hz, gv.at sb rp⟩
  · cases e
theorem ty_strV {B H : Hp} {x : V} {p : PV} (o : Opn G B H x p) (h : Ice.isStr p = true) : tyV G.K "str" x H := by
  cases p with
  | str l =>
    obtain ⟨z, rfl, _⟩ := Opn.strV o
    rfl
  | _ => cases h
end
/-- a.join(b) -/
def kJoin (a b : KO) : KE where
  d := Ice.e2g Ice.isStr Ice.pJoin a.d b.d
  chk C e := match e with | .Call (.Attribute o m ap) [x] [] cp => a.chk C o && seq m "join" && b.chk C x && notStar x && plainAt o && Nat.beq ap.endLine cp.line | _ => false
  ok {G X n C F W} h e hc := by
    split at hc
    · rename_i o m ap x cp
      simp only [Bool.and_eq_true] at hc
      obtain ⟨⟨⟨⟨⟨h1, h2⟩, h3⟩, h4⟩, h5⟩, h6⟩ := hc
      have em := seq_eq h2
      subst em
      have hl : (ap.endLine == cp.line) = true := by rw [Nat.eq_of_beq_eq_true h6]; exact beq_self_eq_true _
      have := pe_bm (X := X) (r := rJoin G) PySem.F.plainAttrs_str PySem.F.slot_str_join PySem.F.type_str_join (mt_glue h.toXG) (a.ok h h1) (pa_cons (b.ok h h3) pa_nil (star_cons h4 _ _)) (cpos := cp) (apos := ap) (plainAt_ok h5 _ _) (few1 h4 _ _) hl (star_cons h4 _ _) rfl
      rw [h.K] at this
      refine both (this.imp ?_) rfl
      intro σ H Q q
      refine tO_mono (imp2g nx_join σ H Q q) fun v H1 ⟨⟨B, p, s1, o1, l1⟩, q⟩ => ⟨ty_strV o1 l1, tO_mono q fun w H2 q => ⟨w, rfl, q⟩⟩
    · cases hc
end IceS
end
section
set_option Elab.async false
set_option linter.all false
set_option maxRecDepth 100000
/-! Certified code: tuples made here, their index. -/
namespace IceS
open PySem hiding Env
open PySem.Spec PyProof.Rows L2 PySem.W
open Ice (PV Slot Env FE Ev Op Opd Sx Tg gS sS)
/-! index of a tuple -/
section
variable {G : Cfg} {X : Cx} {n : Nat} {F : FE} {W : Nat → Prop}
theorem nx_indexT : Nx2 Ice.pIndexT := by intro p q c; unfold Ice.pIndexT; (repeat' split) <;> (intro h; cases h)
def rIdxT (G : Cfg) : V → List V → Hp → VK → Prop := fun x xs H Q => ∃ y, xs = [y] ∧ rP2 G Ice.pIndexT x y H Q
theorem mt_idxT (g : XG G X n) : MtR X "tuple.index" (rIdxT G) := by
  intro pins s σ H x xs v us Q I rx rs ⟨y, exs, B, p, q, r, m, sb, ox, oy, e, gv⟩
  subst exs
  obtain ⟨u, rfl, ry⟩ := vals1 rs
  have hp : ∃ ps, p = .tup ps := by
    unfold Ice.pIndexT at e
    cases p with
    | tup ps => exact ⟨ps, rfl⟩
    | _ => cases e
  obtain ⟨ps, rfl⟩ := hp
  obtain ⟨a, vs, rfl, ta, la⟩ := ox.tup
  cases rx
  unfold Ice.pIndexT at e
  have e : (match Ice.indexL q ps with | some (some k) => Ice.old (.int k) | _ => .stuck) = .ok (r, m) := e
  split at e
  · rename_i k hk
    cases e
    obtain ⟨all, sp⟩ := indexL_spec hk
    obtain ⟨⟨pk, hpk, ek⟩, no⟩ := sp k rfl
    obtain ⟨its, rv, hT, hlen⟩ := I.tuple (g.K ▸ sb.sqT ta)
    obtain ⟨⟨cls, dd, data, sl⟩, ho, hc, nn, hd⟩ := hT
    simp only at hc hd
    subst hc hd
    have un := g.room.units
    have la' := la.mono sb
    have len : its.length = ps.length := by rw [← rv.length, la.length]
    have hkl : k < ps.length := by
      obtain ⟨h, _⟩ := List.getElem?_eq_some_iff.mp hpk
      exact h
    have hj : k < its.toArray.size := by rw [List.size_toArray, len]; exact hkl
    have hsl := sizeLine_eq
    have lv := la.length
    refine call_meets PySem.F.slot_tuple_index ⟨_, ho, rfl⟩ PySem.F.entry_tuple_index (PySem.F.args_tuple_index_2 _ _)
      (SeqAt.tuple_index2_found a its.toArray nn dd sl u (fun j => match ps[j]? with | some p => (Ice.peq p q).getD false | none => false) k hj (Nat.zero_le _) (by omega) (by simp only [hpk, ek]; rfl) (fun m' hm _ hmk => ?_)) ⟨ho, fun j hj' => ?_, ?_⟩
    · have hml : m' < ps.length := by rw [← len]; simpa using hm
      have hx : ps[m']? = some ps[m'] := List.getElem?_eq_getElem hml
      simp only [hx, no m' _ hmk hx]
      rfl
    · have hjl : j < ps.length := by rw [← len]; simpa using hj'
      have hx : ps[j]? = some ps[j] := List.getElem?_eq_getElem hjl
      obtain ⟨c, hc⟩ := all j _ hx
      obtain ⟨vj, hv, rj⟩ := la'.get hx
      obtain ⟨uj, hu, ruj⟩ := rv.get hv
      have eu : its.toArray[j] = uj := by
        obtain ⟨hl, e⟩ := List.getElem?_eq_some_iff.mp hu
        simpa using e
      rw [eu]
      simp only [hx, hc]
      exact (eq3 I g.K 12 X.A.in1 (by show X.A.units + 1 + 12 < cLine; omega) _ q c hc vj y uj u rj (oy.rep sb) ruj ry).eq
    · exact ⟨.int k, H, I.tok _, ⟨_, rfl⟩, gv.at sb (.int _)⟩
  · cases e
theorem call_tupX : CallR X (.type "tuple") (fun xs H Q => ∃ p ys, xs = [.ref p] ∧ SqL X.K H p ys ∧ ∀ l o, o.dict = none → H l = none → Q (.ref l) (upd H l (.frz o (.tup ys)))) := by
  intro pins s σ H xs us Q I r ⟨p, ys, exs, hq, q⟩
  subst exs
  obtain ⟨u, rfl, rx⟩ := vals1 r
  cases rx
  obtain ⟨its, rv, pl, hz⟩ := I.list hq
  have hl := rv.length
  refine call_tuple_list pl.isList (fun h2 kp => ?_) (by simp only [List.size_toArray] <;> omega)
  have J : Inv X pins σ H { s with heap := h2 } := I.kept (t' := s.toks) kp
  exact ⟨.ref h2.objs.size, _, J.laid (t' := s.toks) (o := .frz { cls := .type "tuple", data := .seq its.toArray } (.tup ys)) (fun b o e => Heap.get?_push_of_some _ e) (Nat.le_refl _) ⟨Heap.get?_push_size _ rfl, hz, its, rv, IsTup.new _ _⟩, rfl, q _ _ rfl (J.hok.fresh (Nat.le_refl _))⟩
def rCatX (K : PySem.W.Frag) : R2 := fun x y H Q => ∃ a b xs ys oy, x = .ref a ∧ y = .ref b ∧ SqT K H a xs ∧ H b = some (.frz oy (.tup ys)) ∧ ys ≠ [] ∧ xs.length + ys.length ≤ sizeLine ∧ (xs = [] → Q (.ref b) H) ∧ ∀ p o, o.dict = none → H p = none → Q (.ref p) (upd H p (.frz o (.tup (xs ++ ys))))
theorem op_catX : OpR X (binaryOp .Add) (rCatX X.K) := by
  intro pins s σ H x y v u Q I rx ry ⟨a, b, xs, ys, oy, ex, ey, ta, tb, hy, hz, q1, q2⟩
  subst ex ey
  cases rx
  cases ry
  obtain ⟨its, r1, p1, _⟩ := I.tuple ta
  obtain ⟨its2, r2, p2, _⟩ := I.tuple (show SqT X.K H b ys from .inl (.inr ⟨_, tb⟩))
  by_cases hx : xs = []
  · subst hx
    cases r1
    exact cat_tup0 p1 p2 ⟨.ref b, H, I, rfl, q1 rfl⟩
  · refine HT.cat_tup p1 p2 (fun z => hx (r1.nil_iff.mp z)) (fun z => absurd (r2.nil_iff.mp z) hy) (fun _ => ?_) (by rw [← r1.length, ← r2.length]; exact hz)
    exact ⟨.ref s.heap.objs.size, _, I.laid (t' := s.toks) (o := .frz { cls := .type "tuple", data := .seq (its ++ its2).toArray } (.tup (xs ++ ys))) (fun b o e => Heap.get?_push_of_some _ e) (Nat.le_refl _) ⟨Heap.get?_push_size _ rfl, by rw [List.length_append]; exact hz, _, r1.append r2, IsTup.new _ _⟩, rfl, q2 _ _ rfl (I.hok.fresh (Nat.le_refl _))⟩
/-- the name's tuple -/
theorem slot_tup {B H : Hp} {ρ : Env} {L : Nat → List Addr} {σ : L2.St} {i : Nat} {xs : List PV} (S : StR G B σ H ρ L) (h : gS ρ i = .val (.tup xs) ∨ gS ρ i = .xt xs) : ∃ a vs, σ[i]? = some (some (.ref a)) ∧ SqT G.K B a vs ∧ RepL G B vs xs := by
  have s := S.slot i
  rcases h with h | h
  · rw [h] at s
    generalize hx : gσ σ i = x at s
    generalize L i = l at s
    cases s with
    | val r => cases r with | tup t rl => exact ⟨_, _, gσ_some hx, t, rl⟩
  · rw [h] at s
    generalize hx : gσ σ i = x at s
    generalize L i = l at s
    cases s with
    | xt h1 h2 h3 => exact ⟨_, _, gσ_some hx, .inl (.inr ⟨_, h1⟩), h3⟩
theorem imp_cat {i : Nat} {d : Op} (hK : X.K = G.K) : ∀ σ H Q, tE G F W (Ice.eCatT i d) σ H Q → tOp (rCatX X.K) (tVar i) (tCB (fun xs H Q => ∃ p ys, xs = [.ref p] ∧ SqL X.K H p ys ∧ ∀ l o, o.dict = none → H l = none → Q (.ref l) (upd H l (.frz o (.tup ys)))) (tCons (tO G F W d) tNil)) σ H Q := by
  rintro σ H Q ⟨B, ρ, L, S, h⟩
  have key : ∃ xs, (gS ρ i = .val (.tup xs) ∨ gS ρ i = .xt xs) ∧ wpR W ((d F ρ).bind fun (y, ρ1) => (Ice.deref ρ1 y).bind fun q => match q with
      | .lst ys => if (!ys.isEmpty && decide (xs.length + ys.length ≤ Ice.LIM)) = true then Ice.R.ok (PV.tup (xs ++ ys), true, ρ1) else .stuck
      | _ => .stuck) (fun (p, n, ρ1) => ∀ v B1 H1 L1, Aft G B H ρ L σ B1 H1 ρ1 L1 σ → Res G B1 H H1 v p n → Nb L1 v n → Q v H1) := by
    unfold Ice.eCatT at h
    split at h
    · exact ⟨_, .inl (by assumption), h⟩
    · exact ⟨_, .inr (by assumption), h⟩
    · exact h.elim
  obtain ⟨xs, hs, h⟩ := key
  obtain ⟨a, vs, ev, ta, la⟩ := slot_tup S hs
  refine ⟨_, ev, B, ρ, L, S, h.bind.mono (fun _ h => h) ?_⟩
  rintro ⟨y, ρ1⟩ _ h w B1 H1 L1 A1 r1
  obtain ⟨q, e1, h⟩ := (show wpR W ((Ice.deref ρ1 y).bind _) _ from h).bind.got fun _ => deref_nx
  have oq := r1.opn A1.st e1
  cases q with
  | lst ys =>
    have h : wpR W (if (!ys.isEmpty && decide (xs.length + ys.length ≤ Ice.LIM)) = true then Ice.R.ok (PV.tup (xs ++ ys), true, ρ1) else .stuck) _ := h
    by_cases hc : (!ys.isEmpty && decide (xs.length + ys.length ≤ Ice.LIM)) = true
    · rw [if_pos hc] at h
      rw [Bool.and_eq_true] at hc
      obtain ⟨hne, hl⟩ := hc
      have hl := of_decide_eq_true hl
      obtain ⟨b, ws, rfl, tb, lb⟩ := oq.lst A1.st.sub
      refine ⟨b, ws, rfl, SqL.of tb, fun l o ho hn => ?_⟩
      have s2 : Sub B (upd H1 l (.frz o (.tup ws))) := (A1.ext.bb.trans A1.st.sub).trans (fun b x e => by rw [upd_ne (ne_of_none e hn)]; exact e)
      have wne : ws ≠ [] := fun z => by
        subst z
        cases lb
        cases hne
      have A2 : Aft G B H ρ L σ (upd B1 l (.frz o (.tup ws))) (upd H1 l (.frz o (.tup ws))) ρ1 L1 σ := A1.trans (Aft.ext0 A1.st (Ext.newV A1.st.sub hn) A1.st.sub.upd2)
      have sb1 : Sub B1 (upd B1 l (.frz o (.tup ws))) := Sub.updB (A1.st.sub.no hn)
      refine ⟨a, l, vs, ws, o, rfl, rfl, by rw [hK]; exact s2.sqT ta, upd_same, wne, by rw [sizeLine_lim, la.length, lb.length]; exact hl, fun z => ?_, fun p o2 ho2 hn2 => ?_⟩
      · subst z
        have ex : xs = [] := by cases la; rfl
        subst ex
        exact (show ∀ v B1 H1 L1, Aft G B H ρ L σ B1 H1 ρ1 L1 σ → Res G B1 H H1 v (.tup ([] ++ ys)) true → Nb L1 v true → Q v H1 from h) _ _ _ _ A2 (.xt upd_same ho (lb.mono sb1)) fun _ b' e j hj => by
          cases e
          obtain ⟨z, _⟩ := A2.st.own ⟨j, hj⟩
          rw [upd_same] at z; cases z
      · have A3 := A2.trans (Aft.ext0 A2.st (Ext.newV (o := .frz o2 (.tup (vs ++ ws))) A2.st.sub hn2) A2.st.sub.upd2)
        have sb2 : Sub (upd B1 l (.frz o (.tup ws))) (upd (upd B1 l (.frz o (.tup ws))) p (.frz o2 (.tup (vs ++ ws)))) := Sub.updB (A2.st.sub.no hn2)
        refine (show ∀ v B1 H1 L1, Aft G B H ρ L σ B1 H1 ρ1 L1 σ → Res G B1 H H1 v (.tup (xs ++ ys)) true → Nb L1 v true → Q v H1 from h) _ _ _ _ A3 (.xt upd_same ho2 ((((la.mono A1.ext.bb).append lb).mono sb1).mono sb2)) fun _ b' e j hj => ?_
        cases e
        obtain ⟨z, _⟩ := A3.st.own ⟨j, hj⟩
        rw [upd_same] at z; cases z
    · rw [if_neg hc] at h; exact h.elim
  | _ => exact h.elim
/-- a method of a tuple that is known to the object -/
def tIxT (r : V → List V → Hp → VK → Prop) (to : TE) (t : TA) : TE := fun σ H Q => to σ H fun x H1 => (∃ a o xs, x = .ref a ∧ H1 a = some (.frz o (.tup xs)) ∧ o.dict = none) ∧ t σ H1 fun xs H2 => r x xs H2 Q
theorem pe_tupM {o e : Expr} {to : TE} {t : TA} {ap cp : Pos} {r : V → List V → Hp → VK → Prop} (hm : MtR X "tuple.index" r) (ho : PE X o to) (ha : PA X [e] t) (hb : attributeBase o "index" X.env (eval o X.env) = eval o X.env)
    (hf : ((backTo cp (starEach [e] X.env)).all (fun x => !x.1) && (backToKw cp (keywordEach [] X.env)).all (fun x => x.1.isSome) && decide ([e].length + ([] : List Keyword).length + (if ([] : List Keyword).isEmpty then 0 else 1) < 30)) = true)
    (hl : (ap.endLine == cp.line) = true) (hs : starEach [e] X.env = (false, eval e X.env) :: starEach [] X.env) : PE X (.Call (.Attribute o "index" ap) [e] [] cp) (tIxT r to t) := by
  constructor
  intro pins s σ H Q I h
  refine wpAny_Call_method_late hb hf hl rfl (thn (ho.run pins s σ H _ I h) fun v s1 ⟨x, H1, I1, r1, ⟨a, oa, xs, ea, ha1, hd⟩, q1⟩ => ?_)
  subst ea
  cases r1
  obtain ⟨g1, _, its, _, ob, g2, g3, _⟩ := I1.hok a _ ha1
  rw [g1] at g2
  cases g2
  refine ⟨"tuple", "tuple.index", PySem.F.plainAttrs_tuple, PySem.F.slot_tuple_index, PySem.F.type_tuple_index, ⟨_, g1, g3⟩, fun b eb => by cases eb; exact ⟨_, g1, hd⟩, ?_⟩
  have hA := ha.run cp pins s1 σ H1 _ I1 q1
  rw [hs] at hA ⊢
  refine Calls.callWith_builtin (by rfl) (Calls.evalArgs_plain ?_)
  exact thn hA fun us s2 ⟨vs, H2, I2, r2, q2⟩ => hm pins s2 σ H2 (.ref a) vs (.ref a) us Q I2 (show RelV (.ref a) (Value.ref a) from rfl) r2 q2
theorem imp_ixT {i : Nat} {b : Op} : ∀ σ H Q, tE G F W (Ice.eIxT i b) σ H Q → tIxT (rIdxT G) (tVar i) (tCons (tO G F W b) tNil) σ H Q := by
  rintro σ H Q ⟨B, ρ, L, S, h⟩
  have key : ∃ xs, gS ρ i = .xt xs ∧ wpR W ((b F ρ).bind fun (y, ρ1) => (Ice.deref ρ1 y).bind fun q => (Ice.pIndexT (.tup xs) q).bind fun (v, n) => Ice.R.ok (v, n, ρ1)) (fun (p, n, ρ1) => ∀ v B1 H1 L1, Aft G B H ρ L σ B1 H1 ρ1 L1 σ → Res G B1 H H1 v p n → Nb L1 v n → Q v H1) := by
    unfold Ice.eIxT at h
    split at h
    · exact ⟨_, by assumption, h⟩
    · exact h.elim
  obtain ⟨xs, hs, h⟩ := key
  have s := S.slot i
  rw [hs] at s
  generalize hx : gσ σ i = x at s
  generalize L i = l at s
  cases s with
  | xt h1 h2 h3 =>
    rename_i a vs o
    refine ⟨_, gσ_some hx, ⟨a, o, vs, rfl, S.sub _ _ h1, h2⟩, B, ρ, L, S, h.bind.mono (fun _ h => h) ?_⟩
    rintro ⟨y, ρ1⟩ _ h w B1 H1 L1 A1 r1
    obtain ⟨q, e1, h⟩ := (show wpR W ((Ice.deref ρ1 y).bind _) _ from h).bind.got fun _ => deref_nx
    obtain ⟨⟨r, m⟩, e3, h⟩ := (show wpR W ((Ice.pIndexT (.tup xs) q).bind _) _ from h).bind.got (nx_indexT _ q)
    exact ⟨w, rfl, B1, .tup xs, q, r, m, A1.st.sub, .old (Rep.xt (A1.ext.bb _ _ h1) (h3.mono A1.ext.bb)), r1.opn A1.st e1, e3, gives_of A1 h⟩
end
/-- t + tuple(a list) -/
def kCatT (i : Nat) (d : KO) : KE where
  d := Ice.eCatT i d.d
  chk C e := match e with | .BinOp x o' (.Call (.Name f _) [y] [] _) _ => opIs .Add o' && nameIs (isVar C i) x && seq f "tuple" && isGl C f && d.chk C y && notStar y | _ => false
  ok {G X n C F W} h e hc := by
    split at hc
    · rename_i x o' f p y cp pos
      simp only [Bool.and_eq_true] at hc
      obtain ⟨⟨⟨⟨⟨h1, h2⟩, h3⟩, h4⟩, h5⟩, h6⟩ := hc
      obtain ⟨gl, db⟩ := isGl_ok h h4
      have e3 := seq_eq h3
      subst e3
      rw [← opIs_ok h1]
      obtain ⟨z, zp, rfl, hz⟩ := nameIs_ok h2
      obtain ⟨g1, g2, g3, g4⟩ := isVar_ok h hz
      exact both ((pe_op op_catX (pe_var g1 g2 g3 g4) (pe_callTy call_tupX gl (h.blt _ tTuple.mem) tTuple.boot (pa_cons (d.ok h h5) pa_nil (star_cons h6 _ _)) tTuple.nn db (star_cons h6 _ _) rfl)).imp (imp_cat h.K)) rfl
    · cases hc
/-- t.index(b), a tuple made here -/
def kIxT (i : Nat) (b : KO) : KE where
  d := Ice.eIxT i b.d
  chk C e := match e with | .Call (.Attribute o m ap) [x] [] cp => nameIs (isVar C i) o && seq m "index" && b.chk C x && notStar x && plainAt o && Nat.beq ap.endLine cp.line | _ => false
  ok {G X n C F W} h e hc := by
    split at hc
    · rename_i o m ap x cp
      simp only [Bool.and_eq_true] at hc
      obtain ⟨⟨⟨⟨⟨h1, h2⟩, h3⟩, h4⟩, h5⟩, h6⟩ := hc
      have em := seq_eq h2
      subst em
      have hl : (ap.endLine == cp.line) = true := by rw [Nat.eq_of_beq_eq_true h6]; exact beq_self_eq_true _
      obtain ⟨z, zp, rfl, hz⟩ := nameIs_ok h1
      obtain ⟨g1, g2, g3, g4⟩ := isVar_ok h hz
      exact both ((pe_tupM (mt_idxT h.toXG) (pe_var g1 g2 g3 g4) (pa_cons (b.ok h h3) pa_nil (star_cons h4 _ _)) (plainAt_ok h5 _ _) (few1 h4 _ _) hl (star_cons h4 _ _)).imp imp_ixT) rfl
    · cases hc
end IceS
namespace IceS
open PySem hiding Env
open PySem.Spec PyProof.Rows L2 PySem.W
open Ice (PV Slot Env FE Ev Op Opd Sx Tg gS sS)
/-! a comprehension under a name that a block below shares -/
theorem sw_cell {e : Expr} {x : Str} {p : Pos} {l : Nat} {ρ : PySem.Env} (h : ρ.scope.names.lookup x = some .cell) : swapsWith e (some (.Name x p)) l ρ = pure false := by
  have f1 : ρ.kindOf x = some .cell := h
  have f2 : (some NameKind.cell == some NameKind.local) = false := by decide
  unfold swapsWith
  cases e <;> first | rfl | (simp only [f1, f2, Bool.and_false, Bool.false_and])
def isCel (C : Ctx) (x : Str) : Bool := match lkS x C.sc.names with | some .cell => true | _ => false
theorem isCel_ok {G : Cfg} {X : Cx} {n : Nat} {C : Ctx} {F : FE} {W : Nat → Prop} (h : CtxOk G X n C F W) {x : Str} (e : isCel C x = true) : X.env.scope.names.lookup x = some .cell := by
  unfold isCel at e
  rw [h.sc, ← lkS_lookup]
  split at e
  · assumption
  · cases e
def mAsgK (i : Nat) (k : KE) : KS where
  d := Ice.sAsg i k.d
  chk C s := match s with | .Assign [.Name x _] e _ => isSto C i x && k.chk C e && isCel C x | _ => false
  ok {G X n C F W} h st hc := by
    split at hc
    · simp only [Bool.and_eq_true] at hc
      obtain ⟨⟨h1, h2⟩, h3⟩ := hc
      obtain ⟨e1, e2, e3⟩ := isSto_ok h h1
      exact (ps_set h.nd e1 e2 (k.ok h h2).1 (sw_cell (isCel_ok h h3)) e3).imp imp_asg
    · cases hc
end IceS
end
section
set_option Elab.async false
set_option linter.all false
set_option maxRecDepth 100000
/-! Certified code: a list of lists that nobody else holds: its lists read, and changed. -/
namespace IceS
open PySem hiding Env
open PySem.Spec PyProof.Rows L2 PySem.W
open Ice (PV Slot Env FE Ev Op Opd Sx Tg gS sS)
section
variable {G : Cfg} {X : Cx} {n : Nat} {C : Ctx} {F : FE} {W : Nat → Prop} {B H : Hp} {σ : L2.St} {ρ : Env} {L : Nat → List Addr}
theorem subs_len {as : List Addr} {xss : List (List PV)} (h : SubsR G B H as xss) : as.length = xss.length := by
  induction h with
  | nil => rfl
  | cons _ _ _ _ ih => rw [List.length_cons, List.length_cons, ih]
theorem subs_get {as : List Addr} {xss : List (List PV)} (h : SubsR G B H as xss) : ∀ {m : Nat} {ys : List PV}, xss[m]? = some ys → ∃ b vs, as[m]? = some b ∧ B b = none ∧ H b = some (.lst vs) ∧ RepL G B vs ys := by
  induction h with
  | nil => intro m ys e; simp at e
  | @cons b vs ps as xss h1 h2 rl t ih =>
    intro m ys e
    cases m with
    | zero => simp at e; subst e; exact ⟨b, vs, rfl, h1, h2, rl⟩
    | succ m => exact ih (by simpa using e)
theorem subs_put {b : Addr} {o : HO} {zs : List PV} {vs : List V} (hb : B b = none) (ho : upd H b o b = some (.lst vs)) (rl : RepL G B vs zs) {as : List Addr} {xss : List (List PV)} (h : SubsR G B H as xss) : as.Nodup → ∀ {m : Nat}, as[m]? = some b → SubsR G B (upd H b o) as (xss.set m zs) := by
  induction h with
  | nil => intro _ m e; simp at e
  | @cons c ws ps as xss h1 h2 r2 t ih =>
    intro nd m e
    rw [List.nodup_cons] at nd
    cases m with
    | zero =>
      simp at e
      subst e
      refine .cons hb ho rl (t.mono (Sub.refl _) (fun a q => (t.some a q).1) fun a q x e => ?_)
      have : a ≠ c := fun z => nd.1 (z ▸ q)
      rw [upd_ne this]; exact e
    | succ m =>
      have e : as[m]? = some b := by simpa using e
      have : c ≠ b := fun z => nd.1 (z ▸ List.mem_of_getElem? e)
      exact .cons h1 (by rw [upd_ne this]; exact h2) r2 (ih nd.2 e)
theorem StR.two (S : StR G B σ H ρ L) {i : Nat} {xss : List (List PV)} (h : gS ρ i = .ow2 xss ∨ gS ρ i = .lk2 xss) : ∃ a as, gσ σ i = some (.ref a) ∧ L i = a :: as ∧ B a = none ∧ H a = some (.lst (as.map .ref)) ∧ SubsR G B H as xss ∧ (a :: as).Nodup := by
  have s := S.slot i
  generalize hx : gσ σ i = x at s
  generalize hL : L i = l at s
  rcases h with h | h
  · rw [h] at s
    cases s with
    | ow2 h1 h2 h3 h4 => exact ⟨_, _, rfl, rfl, h1, h2, h3, h4⟩
  · rw [h] at s
    cases s with
    | lk2 h1 h2 h3 h4 => exact ⟨_, _, rfl, rfl, h1, h2, h3, h4⟩
theorem at2_spec {s : Slot} {q : PV} {xs : List (List PV)} {m : Nat} (h : Ice.at2 s q = some (xs, m)) : s = .ow2 xs ∧ ∃ j, q = .int j ∧ Ice.ixOf xs.length j = some m := by
  unfold Ice.at2 at h
  split at h
  · rename_i ys j
    cases e : Ice.ixOf ys.length j with
    | none => rw [e] at h; cases h
    | some k => rw [e] at h; cases h; exact ⟨rfl, j, rfl, e⟩
  · cases h
theorem own2_ok {α : Type} {i : Nat} {x : Ice.R α} {W : Nat → Prop} {P : α → Prop} (h : wpR W (Ice.own2 i ρ x) P) : (∃ xss, gS ρ i = .ow2 xss) ∧ wpR W x P := by
  have h : wpR W (match gS ρ i with | .ow2 _ => x | _ => .stuck) P := h
  split at h
  · rename_i xss hs; exact ⟨⟨xss, hs⟩, h⟩
  · exact h.elim
theorem at_ref {as : List Addr} {xs : List (List PV)} {j : Int} {m : Nat} {b : Addr} (sr : as.length = xs.length) (hj : Ice.ixOf xs.length j = some m) (hb : as[m]? = some b) : atI (as.map V.ref) j = some (.ref b) := by
  unfold atI
  rw [List.length_map, sr, show ixN xs.length j = some m from hj]
  simp [hb]
/-- the list at a[k] -/
theorem imp_s2 (hK : X.K = G.K) {f : PV → Ice.Out} (nx : Nx1 f) {i : Nat} {k : Op} : ∀ σ H Q, tE G F W (Ice.eS2 f i k) σ H Q → tOp (rIxL X.K) (tVar i) (tO G F W k) σ H fun v H1 => rP1 G f v H1 Q := by
  rintro σ H Q ⟨B, ρ, L, S, h⟩
  obtain ⟨⟨xss, hs⟩, h⟩ := own2_ok (show wpR W (Ice.own2 i ρ _) _ from h)
  obtain ⟨a, as, hx, _⟩ := S.two (.inl hs)
  refine ⟨.ref a, gσ_some hx, B, ρ, L, S, h.bind.mono (fun _ h => h) ?_⟩
  rintro ⟨x, ρ1⟩ _ h w B1 H1 L1 A1 r1
  obtain ⟨q, e1, h⟩ := (show wpR W ((Ice.deref ρ1 x).bind _) _ from h).bind.got fun _ => deref_nx
  have h2 : wpR W (match Ice.at2 (gS ρ1 i) q with | some (xs, m) => (match xs[m]? with | some ys => (f (.lst ys)).bind fun (v, m) => Ice.R.ok (v, m, ρ1) | none => .stuck) | none => .stuck) _ := h
  clear h
  cases hat : Ice.at2 (gS ρ1 i) q with
  | none => rw [hat] at h2; exact h2.elim
  | some xm =>
    obtain ⟨xs, m⟩ := xm
    rw [hat] at h2
    obtain ⟨hs1, j, rfl, hj⟩ := at2_spec hat
    obtain ⟨a1, as1, hx1, hL1, hb, ha, sr, nd⟩ := A1.st.two (.inl hs1)
    rw [hx] at hx1
    cases hx1
    have h : wpR W (match xs[m]? with | some ys => (f (.lst ys)).bind fun (v, m) => Ice.R.ok (v, m, ρ1) | none => .stuck) _ := h2
    clear h2
    cases hy : xs[m]? with
    | none => rw [hy] at h; exact h.elim
    | some ys =>
      rw [hy] at h
      obtain ⟨b, vs, hbn, hbB, hbH, rl⟩ := subs_get sr hy
      obtain rfl := (r1.opn A1.st e1).int
      obtain ⟨⟨r, mm⟩, e2, h⟩ := (show wpR W ((f (.lst ys)).bind _) _ from h).bind.got (nx _)
      exact ⟨a, as1.map .ref, j, .ref b, rfl, rfl, SqL.of ha, at_ref (subs_len sr) hj hbn, B1, .lst ys, r, mm, A1.st.sub, .own (.lst hbH rl), e2, gives_of A1 h⟩
theorem tOp_mono {r : R2} {ta : TE} {k : Op} {i : Nat} {σ : L2.St} {H : Hp} {Q Q' : VK} (h : tOp (rIxL X.K) (tVar i) (tO G F W k) σ H Q) (q : ∀ v H, Q v H → Q' v H) : tOp (rIxL X.K) (tVar i) (tO G F W k) σ H Q' := by
  obtain ⟨x, hx, h⟩ := h
  exact ⟨x, hx, tO_mono h fun y H2 ⟨p, xs, j, v, e1, e2, e3, e4, e5⟩ => ⟨p, xs, j, v, e1, e2, e3, e4, q _ _ e5⟩⟩
theorem Res.from {H1 : Hp} {p : Addr} {o : HO} {B' H' : Hp} {v : V} {r : PV} {m : Bool} (h : Res G B' (upd H1 p o) H' v r m) : Res G B' H1 H' v r m := by
  cases h with
  | old h => exact .old h
  | new h1 h2 h3 => exact .new h1 (upd_dm _ h2) h3
  | xt h1 h2 h3 => exact .xt h1 h2 h3
theorem nil_of {x : V} {H1 : Hp} {Q : VK} (h : rP1 G Ice.pNil x H1 Q) : ∀ p, H1 p = none → rP2 G Ice.pEq x (.ref p) (upd H1 p (.lst [])) Q := by
  intro a ha
  obtain ⟨B, p, r, m, sb, op, e, gv⟩ := h
  refine ⟨B, p, .lst [], r, m, sb.new ha, ?_, .own (.lst upd_same .nil), e, fun v B' H' ex s res => gv v B' H' ((Ext.new ha).trans ex (fun _ z => z.elim) fun _ z => z.elim) s res.from⟩
  cases op with
  | old r => exact .old r
  | own o => exact .own (o.mono (Sub.refl _) fun o' e => by rw [upd_ne (ne_of_none e ha)]; exact e)
theorem nx_nil : Nx1 Ice.pNil := fun p c => nx_eq p _ c
end
/-- min(a[k]) -/
def kMinS (i : Nat) (k : KO) : KE where
  d := Ice.eS2 Ice.pMin i k.d
  chk C e := match e with | .Call (.Name x _) [.Subscript (.Name z _) y _] [] _ => seq x "min" && isGl C x && isVar C i z && k.chk C y && notSl y | _ => false
  ok {G X n C F W} h e hc := by
    split at hc
    · rename_i x p z pz y ps pos
      simp only [Bool.and_eq_true] at hc
      obtain ⟨⟨⟨⟨h1, h2⟩, h3⟩, h4⟩, h5⟩ := hc
      obtain ⟨gl, db⟩ := isGl_ok h h2
      have e1 := seq_eq h1
      subst e1
      obtain ⟨g1, g2, g3, g4⟩ := isVar_ok h h3
      refine both ((pe_callB (bMin.rule h.toXG) gl (h.blt _ bMin.mem) bMin.boot (pa_cons (pe_ix ix_list (pe_var g1 g2 g3 g4) (k.ok h h4) (plainIx_of h5)) pa_nil rfl) bMin.nn db rfl rfl).imp ?_) rfl
      intro σ H Q q
      exact tOp_mono (r := rIxL X.K) (ta := tVar i) (imp_s2 h.K bMin.nx σ H Q q) fun v H1 q => ⟨v, rfl, q⟩
    · cases hc
/-- a[k] == [] -/
def kNilS (i : Nat) (k : KO) : KE where
  d := Ice.eS2 Ice.pNil i k.d
  chk C e := match e with | .Compare (.Subscript (.Name z _) y _) [o'] [.List [] _] _ => cmpIs .Eq o' && isVar C i z && k.chk C y && notSl y | _ => false
  ok {G X n C F W} h e hc := by
    split at hc
    · rename_i z pz y ps o' pl pos
      simp only [Bool.and_eq_true] at hc
      obtain ⟨⟨⟨h1, h2⟩, h3⟩, h4⟩ := hc
      rw [← cmpIs_ok h1]
      obtain ⟨g1, g2, g3, g4⟩ := isVar_ok h h2
      have I : ∀ σ H Q, tE G F W (Ice.eS2 Ice.pNil i k.d) σ H Q → tOp (rP2 G Ice.pEq) (tOp (rIxL X.K) (tVar i) (tO G F W k.d)) (tLst tNil) σ H Q := fun σ H Q q =>
        tOp_mono (r := rIxL X.K) (ta := tVar i) (imp_s2 h.K nx_nil σ H Q q) fun v H1 q => ⟨Nat.zero_le _, nil_of q⟩
      exact ⟨(pe_cmpR (o_eq h.toXG) (pe_ix ix_list (pe_var g1 g2 g3 g4) (k.ok h h3) (plainIx_of h4)) (pe_lst pa_nil) rfl).imp I, (pt_cmpR (o_eq h.toXG) (pe_ix ix_list (pe_var g1 g2 g3 g4) (k.ok h h3) (plainIx_of h4)) (pe_lst pa_nil) rfl).imp (tst_of I)⟩
    · cases hc
end IceS
end
section
set_option Elab.async false
set_option linter.all false
set_option maxRecDepth 100000
/-! Certified code: a list of lists that nobody else holds: its lists changed. -/
namespace IceS
open PySem hiding Env
open PySem.Spec PyProof.Rows L2 PySem.W
open Ice (PV Slot Env FE Ev Op Opd Sx Tg gS sS)
section
variable {G : Cfg} {X : Cx} {n : Nat} {C : Ctx} {F : FE} {W : Nat → Prop} {B H B1 H1 B2 H2 : Hp} {σ : L2.St} {ρ ρ0 ρ2 : Env} {L L1 L2' : Nat → List Addr} {i : Nat}
/-- left alone for a while -/
theorem StR.lk2 {xs : List (List PV)} (S : StR G B σ H ρ L) (h : gS ρ i = .ow2 xs) : StR G B σ H (sS ρ i (.lk2 xs)) L := by
  have hi : i < ρ.length := gS_lt (by rw [h]; intro z; cases z)
  refine ⟨by rw [sS_len]; exact S.len, S.sub, fun j => ?_, S.dist⟩
  by_cases hj : j = i
  · subst hj
    rw [gS_same hi]
    have s := S.slot j
    rw [h] at s
    generalize gσ σ j = x at s ⊢
    generalize L j = l at s ⊢
    cases s with
    | ow2 h1 h2 h3 h4 => exact .lk2 h1 h2 h3 h4
  · rw [gS_ne (fun z => hj z.symm)]; exact S.slot j
/-- behind it, one of its lists written -/
theorem two_aft {xs ys : List (List PV)} {m : Nat} {b : Addr} {as : List Addr} {a : Addr} {zs : List PV} {vs : List V} {o : HO} (A : Aft G B1 H1 (sS ρ0 i (.lk2 xs)) L1 σ B2 H2 ρ2 L2' σ) (h0 : gS ρ0 i = .ow2 xs) (h2 : gS ρ2 i = .lk2 ys)
    (hx : gσ σ i = some (.ref a)) (hL : L2' i = a :: as) (hb : B2 a = none) (ha : H2 a = some (.lst (as.map .ref))) (sr : SubsR G B2 H2 as ys) (nd : (a :: as).Nodup) (hm : as[m]? = some b) (b1 : b ∈ L1 i) (ho : upd H2 b o b = some (.lst vs)) (rl : RepL G B2 vs zs) :
    Aft G B1 H1 ρ0 L1 σ B2 (upd H2 b o) (sS ρ2 i (.ow2 (ys.set m zs))) L2' σ := by
  have hi0 : i < ρ0.length := gS_lt (by rw [h0]; intro z; cases z)
  have hi : i < ρ2.length := gS_lt (by rw [h2]; intro z; cases z)
  have bm : b ∈ as := List.mem_of_getElem? hm
  have bL : b ∈ L2' i := by rw [hL]; exact List.mem_cons_of_mem _ bm
  have nb : B2 b = none := (A.st.own ⟨i, bL⟩).1
  have ab : a ≠ b := fun z => (List.nodup_cons.mp nd).1 (z ▸ bm)
  have wr : ∀ c, Wr (sS ρ0 i (.lk2 xs)) L1 c → Wr ρ0 L1 c := fun c ⟨j, q1, q2, q3⟩ => by
    by_cases hj : j = i
    · subst hj; rw [gS_same hi0] at q3; exact absurd rfl q3
    · rw [gS_ne (fun z => hj z.symm)] at q2 q3; exact ⟨j, q1, q2, q3⟩
  have wb : Wr ρ0 L1 b := ⟨i, b1, by rw [h0]; simp [kd], by rw [h0]; simp [kd]⟩
  refine ⟨⟨by rw [sS_len]; exact A.st.len, fun c x e => ?_, fun j => ?_, A.st.dist⟩, ⟨A.ext.bb, fun c x e nw => ?_, A.ext.nw, fun c e => A.ext.dm c (upd_dm c e)⟩, fun j c hc => ?_, fun j hj => ?_⟩
  · have : c ≠ b := fun z => by rw [z, nb] at e; cases e
    rw [upd_ne this]; exact A.st.sub _ _ e
  · by_cases hj : j = i
    · subst hj
      rw [gS_same hi, hx, hL]
      exact .ow2 hb (by rw [upd_ne ab]; exact ha) (subs_put nb ho rl sr (List.nodup_cons.mp nd).2 hm) nd
    · rw [gS_ne (fun z => hj z.symm)]
      refine (A.st.slot j).mono (Sub.refl _) (fun c q => (A.st.own ⟨j, q⟩).1) fun c q x e => ?_
      have : c ≠ b := fun z => hj (A.st.dist j i b (z ▸ q) bL)
      rw [upd_ne this]; exact e
  · have : c ≠ b := fun z => nw (z ▸ wb)
    rw [upd_ne this]
    exact A.ext.hh c x e fun z => nw (wr c z)
  · by_cases hj : j = i
    · subst hj
      rcases A.own j c hc with ⟨q, _⟩ | ⟨q, _⟩
      · exact .inl ⟨q, by rw [gS_same hi, h0]; rfl⟩
      · exact .inr ⟨q, by rw [gS_same hi]; simp [kd]⟩
    · rcases A.own j c hc with ⟨q, w⟩ | ⟨q, w⟩
      · exact .inl ⟨q, by rw [gS_ne (fun z => hj z.symm), w, gS_ne (fun z => hj z.symm)]⟩
      · exact .inr ⟨q, by rw [gS_ne (fun z => hj z.symm)]; exact w⟩
  · have hji : j ≠ i := fun z => by subst z; rw [h0] at hj; simp [kd] at hj
    obtain ⟨w1, w2⟩ := A.par j (by rw [gS_ne (fun z => hji z.symm)]; exact hj)
    exact ⟨by rw [gS_ne (fun z => hji z.symm)]; exact w1, w2⟩
theorem map_ref_inj : ∀ {as bs : List Addr}, as.map V.ref = bs.map V.ref → as = bs
  | [], [], _ => rfl
  | [], _ :: _, h => by simp at h
  | _ :: _, [], h => by simp at h
  | a :: as, b :: bs, h => by
    simp only [List.map_cons, List.cons.injEq] at h
    obtain ⟨h1, h2⟩ := h
    cases h1
    rw [map_ref_inj h2]
/-- one list changed, by one value -/
def r2M (G : Cfg) (f : PV → PV → Ice.R (PV × PV)) : V → List V → Hp → VK → Prop := fun x xs H Q => ∃ B b ps v r w zs, Sub B H ∧ x = .ref b ∧ xs = [v] ∧ B b = none ∧ ObjR G B H b (.lst ps) ∧ Rep G B v r ∧ f r (.lst ps) = .ok (w, .lst zs) ∧
  ∀ o vs, upd H b o b = some (.lst vs) → RepL G B vs zs → Q .non (upd H b o)
theorem imp_sub2 (hK : X.K = G.K) {f : PV → PV → Ice.R (PV × PV)} (nx : ∀ r p c, f r p ≠ .exn c) {k : Op} {v : Ev} : ∀ D σ H, tS G F W (Ice.sSub2 f i k v) D σ H → tDrop (tBM G.K "list" (r2M G f) (tOp (rIxL X.K) (tVar i) (tO G F W k)) (tCons (tE G F W v) tNil)) D σ H := by
  rintro D σ H ⟨B, ρ, L, S, h⟩
  obtain ⟨⟨xss, hs⟩, h⟩ := own2_ok (show wpR W (Ice.own2 i ρ _) _ from h)
  obtain ⟨a, as, hx, _⟩ := S.two (.inl hs)
  refine ⟨.ref a, gσ_some hx, B, ρ, L, S, h.bind.mono (fun _ h => h) ?_⟩
  rintro ⟨x, ρ1⟩ _ h w B1 H1 L1 A1 r1
  obtain ⟨q, e1, h⟩ := (show wpR W ((Ice.deref ρ1 x).bind _) _ from h).bind.got fun _ => deref_nx
  have h2 : wpR W (match Ice.at2 (gS ρ1 i) q with
    | some (xs, m) => (v F (sS ρ1 i (.lk2 xs))).bind fun (p, _, ρ2) => match gS ρ2 i with
      | .lk2 ys => match ys[m]? with
        | some y => (f p (.lst y)).bind fun (_, z) => match z with
          | .lst zs => Ice.R.ok (Ice.Flow.nx, sS ρ2 i (.ow2 (ys.set m zs)))
          | _ => .stuck
        | none => .stuck
      | _ => .stuck
    | none => .stuck) _ := h
  clear h
  cases hat : Ice.at2 (gS ρ1 i) q with
  | none => rw [hat] at h2; exact h2.elim
  | some xm =>
    obtain ⟨xs, m⟩ := xm
    rw [hat] at h2
    obtain ⟨hs1, j, rfl, hj⟩ := at2_spec hat
    obtain ⟨a1, as1, hx1, hL1, hb, ha, sr, nd⟩ := A1.st.two (.inl hs1)
    rw [hx] at hx1
    cases hx1
    obtain rfl := (r1.opn A1.st e1).int
    have hm : m < xs.length := by
      unfold Ice.ixOf at hj
      split at hj
      · split at hj
        · cases hj; omega
        · cases hj
      · split at hj
        · cases hj; omega
        · cases hj
    obtain ⟨b, vs, hbn, hbB, hbH, rl⟩ := subs_get sr (List.getElem?_eq_getElem hm)
    refine ⟨a, as1.map .ref, j, .ref b, rfl, rfl, SqL.of ha, at_ref (subs_len sr) hj hbn, .inl ⟨rfl, vs, SqL.of hbH⟩, B1, sS ρ1 i (.lk2 xs), L1, A1.st.lk2 hs1, (show wpR W ((v F (sS ρ1 i (.lk2 xs))).bind _) _ from h2).bind.mono (fun _ h => h) ?_⟩
    rintro ⟨p, mm, ρ2⟩ _ h y B2 H2 L2 A2 r nb
    obtain ⟨B3, A3, r3⟩ := A2.share r nb
    have h3 : wpR W (match gS ρ2 i with
      | .lk2 ys => match ys[m]? with
        | some y => (f p (.lst y)).bind fun (_, z) => match z with
          | .lst zs => Ice.R.ok (Ice.Flow.nx, sS ρ2 i (.ow2 (ys.set m zs)))
          | _ => .stuck
        | none => .stuck
      | _ => .stuck) _ := h
    clear h
    cases hs2 : gS ρ2 i with
    | lk2 ys =>
      rw [hs2] at h3
      obtain ⟨a2, as2, hx2, hL2, hb2, ha2, sr2, nd2⟩ := A3.st.two (.inr hs2)
      rw [hx] at hx2
      cases hx2
      have nw : ¬ Wr (sS ρ1 i (.lk2 xs)) L1 a := fun ⟨j', q1, _, q3⟩ => by
        have : j' = i := A1.st.dist j' i a q1 (by rw [hL1]; exact List.mem_cons_self)
        subst this
        rw [gS_same (gS_lt (by rw [hs1]; intro z; cases z))] at q3
        exact q3 rfl
      have e2 := A3.ext.hh a _ ha nw
      rw [ha2] at e2
      have eas : as2 = as1 := map_ref_inj (by injection e2 with e2; injection e2)
      subst eas
      have h4 : wpR W (match ys[m]? with
        | some y => (f p (.lst y)).bind fun (_, z) => match z with
          | .lst zs => Ice.R.ok (Ice.Flow.nx, sS ρ2 i (.ow2 (ys.set m zs)))
          | _ => .stuck
        | none => .stuck) _ := h3
      clear h3
      cases hy : ys[m]? with
      | none => rw [hy] at h4; exact h4.elim
      | some y0 =>
        rw [hy] at h4
        obtain ⟨b2, vs2, hbn2, hbB2, hbH2, rl2⟩ := subs_get sr2 hy
        rw [hbn] at hbn2
        cases hbn2
        obtain ⟨⟨w', z⟩, e3, h5⟩ := (show wpR W ((f p (.lst y0)).bind _) _ from h4).bind.got (nx p _)
        cases z with
        | lst zs =>
          have bL1 : b ∈ L1 i := by rw [hL1]; exact List.mem_cons_of_mem _ (List.mem_of_getElem? hbn)
          exact ⟨B3, b, y0, y, p, w', zs, A3.st.sub, rfl, rfl, hbB2, .lst hbH2 rl2, r3, e3, fun o vs' ho rl' =>
            (show Fin D G B H ρ L σ (.nx, sS ρ2 i (.ow2 (ys.set m zs))) from h5).nx (A1.trans (two_aft A3 hs1 hs2 hx hL2 hb2 ha2 sr2 nd2 hbn bL1 ho rl'))⟩
        | _ => exact h5.elim
    | _ => rw [hs2] at h3; exact h3.elim
end
/-- a change of a list by one value -/
structure M2 where
  m : Str
  id : String
  f : PV → PV → Ice.R (PV × PV)
  nx : ∀ r p c, f r p ≠ .exn c
  slot : PySem.Slot "list" m id
  ty : typeOf (.builtin id) = pure (.type "method_descriptor")
  rule : ∀ {X : Cx} {G : Cfg}, MtR X id (r2M G f)
/-- a[k].m(v) -/
def mSub2 (M : M2) (i : Nat) (k : KO) (v : KE) : KS where
  d := Ice.sSub2 M.f i k.d v.d
  chk C s := match s with | .Expr (.Call (.Attribute (.Subscript (.Name x _) y _) m ap) [e] [] cp) _ => isVar C i x && k.chk C y && notSl y && seq m M.m && v.chk C e && notStar e && Nat.beq ap.endLine cp.line | _ => false
  ok {G X n C F W} h st hc := by
    split at hc
    · rename_i x px y py m ap e cp pos
      simp only [Bool.and_eq_true] at hc
      obtain ⟨⟨⟨⟨⟨⟨h1, h2⟩, h3⟩, h4⟩, h5⟩, h6⟩, h7⟩ := hc
      obtain ⟨e1, e2, e3, e4⟩ := isVar_ok h h1
      have em := seq_eq h4
      subst em
      have hl : (ap.endLine == cp.line) = true := by rw [Nat.eq_of_beq_eq_true h7]; exact beq_self_eq_true _
      have := pe_bm (X := X) (r := r2M G M.f) PySem.F.plainAttrs_list M.slot M.ty M.rule (pe_ix ix_list (pe_var (pos := px) e1 e2 e3 e4) (k.ok h h2) (plainIx_of h3) (pos := py)) (pa_cons (v.ok h h5).1 pa_nil (star_cons h6 _ _)) (cpos := cp) (apos := ap) rfl (few1 h6 _ _) hl (star_cons h6 _ _) rfl
      refine (ps_expr this rfl).imp fun D σ H q => ?_
      have z := imp_sub2 (X := X) h.K M.nx D σ H q
      rw [← h.K] at z
      exact z
    · cases hc
section
variable {G : Cfg} {X : Cx}
theorem m2_app : MtR X "list.append" (r2M G Ice.mApp) := by
  intro pins s σ H x xs v us Q I rx rs ⟨B, b, ps, y, r, w, zs, sb, ex, exs, hb, ob, rp, e, k⟩
  subst ex exs
  cases ob with
  | @lst vs _ ha la =>
    have e : (if ps.length + 1 ≤ Ice.LIM then Ice.R.ok (PV.non, PV.lst (ps ++ [r])) else .stuck) = .ok (w, .lst zs) := e
    split at e
    · rename_i hl
      cases e
      exact mt_append pins s σ H _ _ v us Q I rx rs ⟨b, vs, y, rfl, rfl, ha, by rw [la.length, sizeLine_lim]; omega, k _ _ upd_same (la.append (.cons rp .nil))⟩
    · cases e
theorem ints_rep {B : Hp} : ∀ {vs : List V} {ps : List PV} {ns : List Int}, RepL G B vs ps → Ice.intsOf ps = some ns → vs = ns.map V.int ∧ ps = ns.map PV.int
  | [], [], _, _, e => by cases e; exact ⟨rfl, rfl⟩
  | _ :: vs, _ :: ps, ns, .cons r rl, e => by
    cases r with
    | int i =>
      have e : (Ice.intsOf ps).map (i :: ·) = some ns := e
      cases q : Ice.intsOf ps with
      | none => rw [q] at e; cases e
      | some ms =>
        rw [q] at e
        cases e
        obtain ⟨rfl, rfl⟩ := ints_rep rl q
        exact ⟨rfl, rfl⟩
    | _ => cases e
theorem repl_ints {B : Hp} : ∀ ns : List Int, RepL G B (ns.map V.int) (ns.map PV.int)
  | [] => .nil
  | n :: ns => .cons (.int n) (repl_ints ns)
theorem before_idx {kk : Int} : ∀ (ns : List Int) (m : Nat), m < ns.idxOf kk → ns[m]? ≠ some kk := by
  intro ns
  induction ns with
  | nil => intro m h; simp at h
  | cons a ns ih =>
    intro m h e
    rw [List.idxOf_cons] at h
    by_cases q : a = kk
    · simp [q] at h
    · simp only [beq_eq_false_iff_ne.mpr q] at h
      cases m with
      | zero => simp at e; exact q e
      | succ m => exact ih m (by simpa using h) (by simpa using e)
theorem m2_rem : MtR X "list.remove" (r2M G Ice.mRem) := by
  intro pins s σ H x xs v us Q I rx rs ⟨B, b, ps, y, r, w, zs, sb, ex, exs, hb, ob, rp, e, k⟩
  subst ex exs
  cases ob with
  | @lst vs _ ha la =>
    unfold Ice.mRem at e
    have e : (match r, Ice.intsOf ps with | .int k, some ns => if k ∈ ns then Ice.R.ok (PV.non, PV.lst ((ns.erase k).map .int)) else .stuck | _, _ => .stuck) = .ok (w, .lst zs) := e
    split at e
    · rename_i kk ns hn _
      split at e
      · rename_i hk
        cases e
        obtain ⟨rfl, rfl⟩ := ints_rep la hn
        cases rp
        have hj := List.idxOf_lt_length_iff.mpr hk
        refine mt_remove pins s σ H _ _ v us Q I rx rs ⟨b, ns, kk, ns.idxOf kk, rfl, rfl, ha, ?_, fun m' hm' e' => ?_, ?_⟩
        · rw [List.getElem?_eq_getElem hj, List.getElem_idxOf]
        · exact before_idx ns m' hm' e'
        · have e4 : ns.eraseIdx (ns.idxOf kk) = ns.erase kk := (List.erase_eq_eraseIdx_of_idxOf rfl).symm
          rw [e4]
          exact k _ _ upd_same (repl_ints _)
      · cases e
    · cases e
theorem nx_mRem (r : PV) : ∀ p c, Ice.mRem r p ≠ .exn c := by intro p c; unfold Ice.mRem; (repeat' split) <;> (intro h; cases h)
end
def mApp : M2 := ⟨"append", "list.append", Ice.mApp, nx_mApp, PySem.F.slot_list_append, PySem.F.type_list_append, m2_app⟩
def mRem : M2 := ⟨"remove", "list.remove", Ice.mRem, nx_mRem, PySem.F.slot_list_remove, PySem.F.type_list_remove, m2_rem⟩
end IceS
end
section
set_option Elab.async false
set_option linter.all false
set_option maxRecDepth 100000
/-! Certified code: a list of new lists under a name. -/
namespace IceS
open PySem hiding Env
open PySem.Spec PyProof.Rows L2 PySem.W
open Ice (PV Slot Env FE Ev Op Opd Sx Tg gS sS)
section
variable {G : Cfg} {X : Cx} {n : Nat} {C : Ctx} {F : FE} {W : Nat → Prop}
theorem subs_stay {B H B1 H1 : Hp} {ρ ρ1 : Env} {L L1 : Nat → List Addr} {σ σ1 : L2.St} {as : List Addr} {xss : List (List PV)} (A : Aft G B H ρ L σ B1 H1 ρ1 L1 σ1) (sr : SubsR G B H as xss) (nl : ∀ c ∈ as, ∀ j, c ∉ L j) : SubsR G B1 H1 as xss ∧ ∀ c ∈ as, ∀ j, c ∉ L1 j := by
  refine ⟨sr.mono A.ext.bb (fun c hc => ?_) fun c hc o e => ?_, fun c hc => ?_⟩
  · obtain ⟨h1, o, h2⟩ := sr.some c hc
    exact (stay A h2 h1 (nl c hc)).2.1
  · exact (stay A e (sr.some c hc).1 (nl c hc)).1
  · obtain ⟨h1, o, h2⟩ := sr.some c hc
    exact (stay A h2 h1 (nl c hc)).2.2
theorem subs_snoc {B H : Hp} {b : Addr} {vs : List V} {ps : List PV} (h1 : B b = none) (h2 : H b = some (.lst vs)) (rl : RepL G B vs ps) : ∀ {as : List Addr} {xss : List (List PV)}, SubsR G B H as xss → SubsR G B H (as ++ [b]) (xss ++ [ps])
  | _, _, .nil => .cons h1 h2 rl .nil
  | _, _, .cons a1 a2 a3 t => .cons a1 a2 a3 (subs_snoc h1 h2 rl t)
theorem lists_map : ∀ xss : List (List PV), Ice.lists (xss.map .lst) = some xss
  | [] => rfl
  | xs :: xss => by
    show (Ice.lists (xss.map .lst)).map (xs :: ·) = _
    rw [lists_map xss]; rfl
theorem imp_two {i : Nat} {it : Ice.It} {tg : Tg} {ws own : List Nat} {el : Ev} (hw : ∀ i ∈ ws, i ∈ own) :
    ∀ E σ H, tS G F W (Ice.sAsg2 i own it tg el) E σ H → tAsg (tLc (tI G F W it) (tG G (fun _ => False) ws tg) (tTs G F none) (tE G F (fun _ => False) el) own) (gName i) E σ H := by
  rintro E σ H ⟨B, ρ, L, S, h⟩
  have h := (show wpR W (((it F ρ).bind fun (xs, l, ρ1) => if Ice.plainS ρ1 own = true then ((Ice.compL own tg none (Ice.elFr el) F xs ρ1).bind fun (ps, ρ2) => (Ice.finL ps).bind fun v => .ok (v, true, Ice.unlock l (Ice.restS own ρ1 ρ2))).calm else .stuck).bind fun (p, _, ρ1) => match gS ρ1 i, p with
    | .un, .lst xs => (Ice.R.of (Ice.lists xs)).bind fun yss => Ice.R.ok (Ice.Flow.nx, sS ρ1 i (.ow2 yss))
    | _, _ => .stuck) _ from h).bind.bind
  refine ⟨B, ρ, L, S, h.mono (fun _ h => h) ?_⟩
  rintro ⟨xs, l, ρ1⟩ _ h J B1 H1 L1 ρ0 A0 lk wk D hD
  have h : wpR W (if Ice.plainS ρ1 own = true then ((Ice.compL own tg none (Ice.elFr el) F xs ρ1).bind fun (ps, ρ2) => (Ice.finL ps).bind fun v => .ok (v, true, Ice.unlock l (Ice.restS own ρ1 ρ2))).calm else .stuck) (fun (p, _, ρ1) => wpR W (match gS ρ1 i, p with
    | .un, .lst xs => (Ice.R.of (Ice.lists xs)).bind fun yss => Ice.R.ok (Ice.Flow.nx, sS ρ1 i (.ow2 yss))
    | _, _ => .stuck) (Fin E G B H ρ L σ)) := h
  split at h
  · rename_i pl
    have h := h.calm.bind
    have S1 := lock_st A0.st lk
    have kds : ∀ j ∈ own, kd (gS (Ice.wipeS own ρ1) j) ≠ 3 := fun j hj => by rw [gS_wipeS, if_pos hj]; simp [kd]
    have Db : B1 D = none := S1.sub.no hD
    have Dl : ∀ i, D ∉ L1 i := fun i hi => by obtain ⟨_, o, z⟩ := S1.own ⟨i, hi⟩; rw [hD] at z; cases z
    have A1 := Aft.ext0 (wipe_st (own := own) S1) (Ext.new (o := HO.lst []) hD) (S1.sub.new hD)
    refine ⟨fun i' m H' => m = xs.length - i' ∧ i' ≤ xs.length ∧ ∃ B' ρ' L' as xss, Aft G B1 H1 (Ice.wipeS own ρ1) (offL own L1) (wipe σ own) B' H' (Ice.wipeS own ρ') L' (wipe σ own) ∧ ρ'.length = ρ1.length ∧
      H' D = some (.lst (as.map .ref)) ∧ SubsR G B' H' as xss ∧ (D :: as).Nodup ∧ (∀ c ∈ as, H1 c = none) ∧ B' D = none ∧ (∀ j, D ∉ L' j) ∧ (∀ c ∈ as, ∀ j, c ∉ L' j) ∧
      wpR (fun _ => False) (Ice.compL own tg none (Ice.elFr el) F (xs.drop i') ρ') (fun (qs, ρ2) => wpR (fun _ => False) ((Ice.finL (xss.map .lst ++ qs)).bind fun v => .ok (v, true, Ice.unlock l (Ice.restS own ρ1 ρ2)))
        (fun (p, _, ρ1) => wpR W (match gS ρ1 i, p with
          | .un, .lst xs => (Ice.R.of (Ice.lists xs)).bind fun yss => Ice.R.ok (Ice.Flow.nx, sS ρ1 i (.ow2 yss))
          | _, _ => .stuck) (Fin E G B H ρ L σ))),
      ⟨_, rfl, Nat.zero_le _, B1, ρ1, _, [], [], A1, rfl, upd_same, .nil, by simp, by simp, Db, fun j hj => Dl j (offL_mem hj).2, by simp, h⟩, ?_⟩
    rintro i' m H' ⟨rfl, hi, B', ρ', L', as, xss, A, hl, eD, sr, nd, fr, nD, nl, nla, h⟩
    by_cases hlt : i' < xs.length
    · have hx : xs[i']? = some xs[i'] := List.getElem?_eq_getElem hlt
      rw [List.drop_eq_getElem_cons hlt] at h
      have A' := block_back S1 pl A hl
      obtain ⟨go, yl⟩ := (wk σ B' H' _ _ σ A' i').1 _ hx
      refine .inr ⟨go, _, fun H2 w => ⟨xs.length - (i' + 1), by omega, w⟩, fun x H'' hy => ?_⟩
      obtain ⟨B'', e1, s1, r1⟩ := yl x H'' hy
      have Ae := Aft.ext0 A.st e1 s1
      have A2 := A.trans Ae
      refine ⟨B'', Ice.wipeS own ρ', L', xs[i'], A2.st, r1, (show wpR (fun _ => False) ((tg xs[i'] (Ice.wipeS own ρ')).bind _) _ from h).bind.mono (fun _ h => h) ?_⟩
      intro ρ2 _ h σ2 B2 H2 L2 sb A3
      have hwp := wipe_but sb hw
      refine ⟨hwp, B2, ρ2, L2, A3.st, (show wpR (fun _ => False) ((Ice.cond? none F ρ2).bind _) _ from h).bind.mono (fun _ h => h) ?_⟩
      rintro ⟨k, ρ3⟩ hk h B3 H3 L3 A4
      cases hk
      have A5 := (A2.trans A3).trans A4
      have AA := Ae.trans (A3.trans A4)
      obtain ⟨d1, d2, d3⟩ := stay AA eD nD nl
      obtain ⟨s3, n3⟩ := subs_stay AA sr nla
      have len3 : ρ2.length = ρ1.length := by
        rw [← A5.st.len, sb.2, wipe_length]
        exact S1.len
      rw [if_pos rfl]
      refine ⟨B3, ρ2, L3, A4.st, ?_⟩
      have h := (show wpR (fun _ => False) (((el F ρ2).bind fun (p, n, ρ1) => match p, n with
        | .lst ys, true => Ice.R.ok ([PV.lst ys], ρ1)
        | _, _ => .stuck).bind fun (ps, ρ3) => (Ice.compL own tg none (Ice.elFr el) F (xs.drop (i' + 1)) ρ3).bind fun (qs, ρ4) => .ok (ps ++ qs, ρ4)) _ from h).bind.bind
      refine h.mono (fun _ h => h) ?_
      rintro ⟨p, mm, ρ4⟩ _ h y B4 H4 L4 A7 r nb
      have h2 : wpR (fun _ => False) (match p, mm with
        | .lst ys, true => Ice.R.ok ([PV.lst ys], ρ4)
        | _, _ => .stuck) (fun (ps, ρ3) => wpR (fun _ => False) ((Ice.compL own tg none (Ice.elFr el) F (xs.drop (i' + 1)) ρ3).bind fun (qs, ρ4) => .ok (ps ++ qs, ρ4)) (fun (qs, ρ2) => wpR (fun _ => False) ((Ice.finL (xss.map .lst ++ qs)).bind fun v => .ok (v, true, Ice.unlock l (Ice.restS own ρ1 ρ2)))
        (fun (p, _, ρ1) => wpR W (match gS ρ1 i, p with
          | .un, .lst xs => (Ice.R.of (Ice.lists xs)).bind fun yss => Ice.R.ok (Ice.Flow.nx, sS ρ1 i (.ow2 yss))
          | _, _ => .stuck) (Fin E G B H ρ L σ)))) := h
      clear h
      cases r with
      | old _ => cases p <;> exact h2.elim
      | xt _ _ _ => exact h2.elim
      | @new b _ b1 b2 b3 =>
        cases b3 with
        | dK _ _ => exact h2.elim
        | @lst vs ys bH bR =>
          have h := (show wpR (fun _ => False) ((Ice.compL own tg none (Ice.elFr el) F (xs.drop (i' + 1)) ρ4).bind fun (qs, ρ4) => .ok ([PV.lst ys] ++ qs, ρ4)) _ from h2).bind
          obtain ⟨f1, f2, f3⟩ := stay A7 d1 d2 d3
          obtain ⟨s4, n4⟩ := subs_stay A7 s3 n3
          have bnl := nb rfl b rfl
          have bD : b ≠ D := fun z => by rw [z, d1] at b2; cases b2
          have bas : b ∉ as := fun z => by
            obtain ⟨_, o, w⟩ := s3.some b z
            rw [b2] at w; cases w
          have bH1 : H1 b = none := A5.ext.dm b b2
          have A9 := A5.trans A7
          have hz : (as.map V.ref).length < sizeLine := by
            obtain ⟨⟨qs, ρ5⟩, _, h⟩ := h.got fun c e => by rw [e] at h; exact h.elim
            have h : wpR (fun _ => False) ((if (xss.map PV.lst ++ ([PV.lst ys] ++ qs)).length ≤ Ice.LIM then Ice.R.ok (PV.lst (xss.map .lst ++ ([PV.lst ys] ++ qs))) else .stuck).bind fun v => .ok (v, true, Ice.unlock l (Ice.restS own ρ1 ρ5))) _ := h
            split at h
            · rename_i hl
              rw [List.length_append, List.length_append, List.length_singleton, List.length_map] at hl
              rw [List.length_map, subs_len s4, sizeLine_lim]
              omega
            · exact h.elim
          refine ⟨as.map .ref, f1, hz, rfl, hlt, B4, ρ4, offL own L4, as ++ [b], xss ++ [ys], ?_, ?_, by rw [upd_same, List.map_append]; rfl, ?_, ?_, fun c hc => ?_, f2, fun j hj => f3 j (offL_mem hj).2, fun c hc j hj => ?_, ?_⟩
          · have A10 := A9.wipe kds
            rw [hwp] at A10
            exact write_new (H0 := H) A10 hD f2 fun j hj => f3 j (offL_mem hj).2
          · rw [← A9.st.len, sb.2, wipe_length]
            exact S1.len
          · refine (subs_snoc b1 bH bR s4).mono (Sub.refl _) (fun c hc => ?_) fun c hc o e => ?_
            · rcases List.mem_append.mp hc with q | q
              · exact (s4.some c q).1
              · rw [List.mem_singleton.mp q]; exact b1
            · have : c ≠ D := by
                rcases List.mem_append.mp hc with q | q
                · exact fun z => (List.nodup_cons.mp nd).1 (z ▸ q)
                · rw [List.mem_singleton.mp q]; exact bD
              rw [upd_ne this]; exact e
          · rw [List.nodup_cons] at nd ⊢
            refine ⟨fun z => ?_, ?_⟩
            · rcases List.mem_append.mp z with q | q
              · exact nd.1 q
              · exact bD (List.mem_singleton.mp q).symm
            · rw [List.nodup_append]
              exact ⟨nd.2, by simp, fun c hc d hd z => bas (by rw [List.mem_singleton.mp hd] at z; exact z ▸ hc)⟩
          · rcases List.mem_append.mp hc with q | q
            · exact fr c q
            · rw [List.mem_singleton.mp q]; exact bH1
          · rcases List.mem_append.mp hc with q | q
            · exact n4 c q j (offL_mem hj).2
            · rw [List.mem_singleton.mp q] at hj
              exact bnl j (offL_mem hj).2
          · refine h.mono (fun _ h => h) ?_
            rintro ⟨qs, ρ5⟩ _ h
            have h : wpR (fun _ => False) ((Ice.finL (xss.map .lst ++ ([PV.lst ys] ++ qs))).bind fun v => .ok (v, true, Ice.unlock l (Ice.restS own ρ1 ρ5))) _ := h
            rw [← List.append_assoc] at h
            rw [List.map_append]
            exact h
    · have e : i' = xs.length := by omega
      subst e
      rw [List.drop_length] at h
      have A' := block_back S1 pl A hl
      have A3 := unlock_aft lk A'
      have AF := A0.trans A3
      refine .inl ⟨(wk σ B' H' _ _ σ A' _).2 (Nat.le_refl _), ?_⟩
      have h : wpR (fun _ => False) ((Ice.finL (xss.map .lst ++ [])).bind fun v => .ok (v, true, Ice.unlock l (Ice.restS own ρ1 ρ'))) _ := h
      rw [List.append_nil] at h
      unfold Ice.finL at h
      split at h
      · have h : wpR W (match gS (Ice.unlock l (Ice.restS own ρ1 ρ')) i, PV.lst (xss.map .lst) with
          | .un, .lst xs => (Ice.R.of (Ice.lists xs)).bind fun yss => Ice.R.ok (Ice.Flow.nx, sS (Ice.unlock l (Ice.restS own ρ1 ρ')) i (.ow2 yss))
          | _, _ => .stuck) (Fin E G B H ρ L σ) := h
        generalize Ice.unlock l (Ice.restS own ρ1 ρ') = ρf at h AF A3
        cases hs : gS ρf i with
        | un =>
          rw [hs] at h
          have h : wpR W ((Ice.R.of (Ice.lists (xss.map .lst))).bind fun yss => Ice.R.ok (Ice.Flow.nx, sS ρf i (.ow2 yss))) (Fin E G B H ρ L σ) := h
          rw [lists_map] at h
          have h : Fin E G B H ρ L σ (.nx, sS ρf i (.ow2 xss)) := h
          show E.nx (σ.set i (some (.ref D))) H'
          have lenf := AF.st.len
          by_cases hi : i < ρf.length
          · have hi' : i < σ.length := by rw [lenf]; exact hi
            refine h.nx (AF.put (l := D :: as) hi (by simp) (fun j hj => gσ_ne (fun z => hj z.symm)) (by rw [gσ_same hi']; exact .ow2 nD eD sr nd) (fun c hc j _ hj => ?_) (by rw [hs]; simp [kd]) (by simp [kd]) fun c hc => ?_)
            · rcases List.mem_cons.mp hc with q | q
              · rw [q] at hj; exact nl j (offL_mem hj).2
              · exact nla c q j (offL_mem hj).2
            · rcases List.mem_cons.mp hc with q | q
              · rw [q]; exact .inl (A0.ext.dm D hD)
              · exact .inl (A0.ext.dm c (fr c q))
          · have hi' : ¬ i < σ.length := by rw [lenf]; exact hi
            rw [List.set_eq_of_length_le (by omega)]
            rw [sS_out hi] at h
            exact h.nx AF
        | _ => rw [hs] at h; exact h.elim
      · exact h.elim
  · exact h.elim
end
/-- a = [[..] for tg in it], on one line: lists that nobody else holds -/
def mAsg2 (i : Nat) (own : List Nat) (it : KI) (tg : KG) (el : KE) : KS where
  d := Ice.sAsg2 i own it.d tg.d el.d
  chk C s := match s with
    | .Assign [.Name x py] (.ListComp elt [⟨t, j, [], 0⟩] scope pos) _ => isLoc C i x && (match C.sc.kind with | .function => true | _ => false) && Nat.beq py.line pos.line && !(scope.names.any fun y => seq y.1 x && (match y.2 with | .local => true | .cell => true | _ => false)) &&
        it.chk C t j && blkB C.N C.sc scope own && tg.chk (blkCtx C scope) t && el.chk (blkCtx C scope) elt && subN tg.ws own
    | _ => false
  ok {G X n C F W} h st hc := by
    split at hc
    · rename_i x py elt t j scope pos spos
      simp only [Bool.and_eq_true] at hc
      obtain ⟨⟨⟨⟨⟨⟨⟨⟨h01, h02⟩, h03⟩, h04⟩, h1⟩, h2⟩, h3⟩, h5⟩, h6⟩ := hc
      have ok := blkB_ok h2
      rw [← h.N, ← h.sc] at ok
      obtain ⟨e1, e2⟩ := isLoc_ok h h01
      have hk : X.env.scope.kind = .function := by
        rw [h.sc]
        split at h02
        · assumption
        · cases h02
      have sw := sw_true (elt := elt) (gs := [⟨t, j, [], 0⟩]) (pos := pos) (py := py) (y := x) (l := spos.line) (env := X.env) hk e2 (by rw [Nat.eq_of_beq_eq_true h03]; exact beq_self_eq_true _) (noName h04)
      refine (ps_setLc h.calm h.nd e1 e2 sw (it.ok h h1).1 ok (fun s H D cl fp => tg.ok (h.blk ok.uniq s H D cl fp) h3) (fun s H D cl fp => pts_ok (c := none) (h.blk ok.uniq s H D cl fp) rfl) (fun s H D cl fp => (el.ok (h.blk ok.uniq s H D cl fp) h5).1) ((it.ok h h1).2 _)).imp ?_
      intro D σ H q
      have z := imp_two (subN_ok h6) D σ H q
      show tLc _ _ _ _ ((ownN X.N own).map (·.2)) σ H _
      rw [ownN_ix]
      exact z
    · cases hc
end IceS
end
section
set_option Elab.async false
set_option linter.all false
set_option maxRecDepth 100000
/-! Certified code: a[b], c = v, w; a tuple turned round. -/
namespace IceS
open PySem hiding Env
open PySem.Spec PyProof.Rows L2 PySem.W
open Ice (PV Slot Env FE Ev Op Opd Sx Tg gS sS)
section
variable {G : Cfg} {X : Cx} {n : Nat} {C : Ctx} {F : FE} {W : Nat → Prop}
theorem nx_tgS (i j : Nat) : ∀ p ρ c, Ice.tgS i j p ρ ≠ .exn c := by
  intro p ρ c h
  unfold Ice.tgS at h
  split at h
  · rename_i q _
    cases e : Ice.chg i (Ice.mSet q p) ρ with
    | ok x => rw [e] at h; cases h
    | exn c' => exact chg_nx (nx_mSet q p) e
    | stuck => rw [e] at h; cases h
  · cases h
theorem imp_gs {i j : Nat} : ∀ v σ H Q, tG G W [] (Ice.tgS i j) v σ H Q → gSub (tVar i) (tVar j) (rSet G) v σ H Q := by
  rintro v σ H Q ⟨B, ρ, L, p, S, rp, h⟩
  have key : ∃ q, gS ρ j = .val q ∧ wpR W ((Ice.chg i (Ice.mSet q p) ρ).bind fun (_, ρ1) => Ice.R.ok ρ1) (fun ρ1 => ∀ σ' B' H' L', SameBut [] σ σ' → Aft G B H ρ L σ B' H' ρ1 L' σ' → Q σ' H') := by
    unfold Ice.tgS at h
    split at h
    · exact ⟨_, by assumption, h⟩
    · exact h.elim
  obtain ⟨q, hq, h⟩ := key
  obtain ⟨⟨v', ρ3⟩, e2, h⟩ := h.bind.got fun _ => chg_nx (nx_mSet q p)
  obtain ⟨p1, p', s', e3, rfl, alt⟩ := chg_spec e2
  obtain ⟨a, hx, hL, hb, ho⟩ := S.mine (i := i) (p := p1) (alt.imp (fun z => z.1) fun z => z.1)
  have vn := mSet_non e3
  subst vn
  have s := S.slot j
  rw [hq] at s
  generalize hy : gσ σ j = y at s
  generalize L j = l at s
  cases s with
  | val rq => exact ⟨_, gσ_some hx, _, gσ_some hy, B, a, p1, q, p, p', S.sub, rfl, hb, ho, .old rq, rp, e3, fun o' ob => (show ∀ σ' B' H' L', SameBut [] σ σ' → Aft G B H ρ L σ B' H' (sS ρ i s') L' σ' → Q σ' H' from h) σ _ _ _ ⟨fun _ _ => rfl, rfl⟩ ((Aft.refl S).write alt hx hL hb ob)⟩
end
end IceS
namespace IceS
open PySem hiding Env
open PySem.Spec PyProof.Rows L2 PySem.W
open Ice (PV Slot Env FE Ev Op Opd Sx Tg gS sS)
/-- a target a[b], b a name -/
def mGS (i j : Nat) : KG where
  d := Ice.tgS i j
  ws := []
  nx := nx_tgS i j
  chk C e := match e with | .Subscript (.Name x _) (.Name y _) _ => isVar C i x && isVar C j y | _ => false
  ok {G X n C F W} h e hc := by
    split at hc
    · rename_i x px y py ps
      simp only [Bool.and_eq_true] at hc
      obtain ⟨h1, h2⟩ := hc
      obtain ⟨e1, e2, e3, e4⟩ := isVar_ok h h1
      obtain ⟨f1, f2, f3, f4⟩ := isVar_ok h h2
      exact (pg_sub (pe_var e1 e2 e3 e4) (pe_var f1 f2 f3 f4) (set_any h.toXG)).imp imp_gs
    · cases hc
theorem sw_sub {o y t2 v1 v2 : Expr} {ps p p2 : Pos} {kk k2} (env : PySem.Env) : swappedStores [.Tuple [.Subscript o y ps, t2] kk p] (.Tuple [v1, v2] k2 p2) env = pure none := by
  unfold swappedStores
  simp only [List.length_cons, List.length_nil, List.filterMap_cons, List.filterMap_nil]
  repeat' split
  all_goals first
    | rfl
    | (simp_all; done)
/-- a[b], c = v, w -/
def mTgX (t : KG) (k : KE) : KS where
  d := Ice.sTg t.d k.d
  chk C s := match s with | .Assign [.Tuple [.Subscript o y ps, t2] kk p] (.Tuple [v1, v2] k2 p2) _ => t.chk C (.Tuple [.Subscript o y ps, t2] kk p) && k.chk C (.Tuple [v1, v2] k2 p2) | _ => false
  ok {G X n C F W} h st hc := by
    split at hc
    · rename_i o y ps t2 kk p v1 v2 k2 p2 pos
      simp only [Bool.and_eq_true] at hc
      obtain ⟨h1, h2⟩ := hc
      exact (ps_asg (pos := pos) (k.ok h h2).1 (t.ok h h1) (show swapsWithSole [.Tuple [.Subscript o y ps, t2] kk p] (.Tuple [v1, v2] k2 p2) pos.line X.env = pure false from noSwap_ok (e := .Tuple [v1, v2] k2 p2) rfl (some (.Tuple [.Subscript o y ps, t2] kk p)) pos.line X.env) (sw_sub X.env) rfl).imp imp_tgS
    · cases hc
end IceS
end
section
set_option Elab.async false
set_option linter.all false
set_option maxRecDepth 100000
/-! Certified code: a tuple turned round. -/
namespace IceS
open PySem hiding Env
open PySem.Spec PyProof.Rows L2 PySem.W
open Ice (PV Slot Env FE Ev Op Opd Sx Tg gS sS)
theorem back_ends (n : Nat) : Builtin.Slice.sliceAdjust none none (-1) (n : Int) = ((n : Int) - 1, -1) := by
  unfold Builtin.Slice.sliceAdjust
  simp
theorem back_many (n : Nat) : Builtin.Slice.slicePlaces ((n : Int) - 1) (-1) (-1) = n := by
  unfold Builtin.Slice.slicePlaces
  have h1 : ¬ ((-1 : Int) > 0) := by decide
  rw [if_neg h1]
  by_cases h : (n : Int) - 1 > -1
  · rw [if_pos h, show (- -1 : Int) = 1 by decide, Int.ediv_one]; omega
  · rw [if_neg h]; omega
theorem fm_congr {α β : Type} {f g : α → Option β} : ∀ (l : List α), (∀ k ∈ l, f k = g k) → l.filterMap f = l.filterMap g
  | [], _ => rfl
  | a :: l, h => by rw [List.filterMap_cons, List.filterMap_cons, h a (List.mem_cons_self ..), fm_congr l fun k hk => h k (List.mem_cons_of_mem _ hk)]
theorem back_pick (xs : Array Value) : ((List.range xs.size).filterMap fun (k : Nat) => xs[((xs.size : Int) - 1 + (k : Int) * (-1)).toNat]?).toArray = xs.toList.reverse.toArray := by
  have e : ((List.range xs.size).filterMap fun (k : Nat) => xs[((xs.size : Int) - 1 + (k : Int) * (-1)).toNat]?) = ((List.range xs.size).map fun k => xs.size - 1 - k).filterMap (xs[·]?) := by
    rw [List.filterMap_map]
    refine fm_congr _ fun k hk => ?_
    have := List.mem_range.mp hk
    show xs[_]? = xs[xs.size - 1 - k]?
    congr 1
    omega
  rw [e, krv_range, List.filterMap_reverse, krv_all]
section
variable {prog : Program} {w : World} {A : Around} {E : Value → Shared → Prop} {s : Shared}
theorem back_applied {sl : Addr} {vs : Value} {n : Nat} {Q : Int × Int × Nat → Shared → Prop} (hs : s.heap.IsSliceOf sl .none .none vs) (pv : IsPart vs (some (-1))) (h : Q ((n : Int) - 1, -1, n) s) : wpAny (model prog w) A (Builtin.Slice.sliceApplied (.ref sl) (pure (n : Int))) Q E s := by
  obtain ⟨ob, g1, g2, g3⟩ := id hs
  unfold Builtin.Slice.sliceApplied Builtin.Slice.sliceFields
  refine wpAny_bind (wpAny_bind (wpAny_field g1 g3 (x := .none) rfl (wpAny_bind (wpAny_field g1 g3 (x := .none) rfl (wpAny_bind (wpAny_field g1 g3 (x := vs) rfl (wpAny_pure ?_)))))))
  refine wpAny_bind (HT.slicePart_ pv ?_)
  show wpAny _ _ (if ((-1 : Int) == 0) = true then _ else _) _ _ s
  rw [if_neg (by decide)]
  refine wpAny_bind (slicePart_none (wpAny_bind (slicePart_none (wpAny_bind (wpAny_pure ?_)))))
  show wpAny _ _ (match Builtin.Slice.sliceAdjust none none (-1) (n : Int) with | (x, y) => pure (x, (-1 : Int), Builtin.Slice.slicePlaces x y (-1))) _ _ s
  rw [back_ends n]
  show wpAny _ _ (pure ((n : Int) - 1, (-1 : Int), Builtin.Slice.slicePlaces ((n : Int) - 1) (-1) (-1))) _ _ s
  rw [back_many]
  exact wpAny_pure h
theorem get_back {t sl : Addr} {items : Array Value} {vs : Value} {Q : Value → Shared → Prop} (ht : IsTup s.heap t items) (hs : s.heap.IsSliceOf sl .none .none vs) (pv : IsPart vs (some (-1)))
    (h : Q (.ref s.heap.objs.size) { s with heap := s.heap.push { cls := .type "tuple", data := .seq items.toList.reverse.toArray } }) (hz : items.size ≤ sizeLine) : wpAny (model prog w) A (getItem (.ref t) (.ref sl)) Q E s := by
  have fits : sizeOk (.seq items.toList.reverse.toArray) := by
    show items.toList.reverse.toArray.size ≤ sizeLine
    rw [List.size_toArray, List.length_reverse, Array.length_toList]
    exact hz
  obtain ⟨ob, g1, g2, g3⟩ := id hs
  have tsl : s.TypeIs (.ref sl) "slice" := ⟨ob, g1, g2⟩
  unfold getItem
  try with_reducible refine wpAny_holding ?_
  first | refine wpAny_bind (wpAny_pure ?_) | skip
  refine wpAny_bind (wpAny_sequenceKey ht.typeIs (by decide) ?_)
  refine wpAny_bind (wpAny_callSpecial?_slot (name := Str.ofString "__getitem__") ht.typeIs PyProof.Rows.slot_tuple_getitem (wpAny_call_entry PyProof.Rows.slot_tuple_getitem ht.typeIs entry_tuple_getitem ?_ (args_tuple_getitem _ _)))
  show wpAny _ _ (Builtin.Tuple.tupleItemsOf (.ref t) >>= _) _ _ s
  refine wpAny_bind (tupleItemsOf_ ht (wpAny_bind (wpAny_typeOf tsl ?_)))
  rw [if_pos (by decide)]
  refine wpAny_bind (back_applied (n := items.size) hs pv ?_)
  have no : ¬ ((((items.size : Int) - 1) == 0 && (-1 : Int) == 1 && items.size == items.size) = true) := by
    intro q
    rw [Bool.and_eq_true, Bool.and_eq_true] at q
    exact absurd q.1.2 (by decide)
  show wpAny _ _ (if (((items.size : Int) - 1) == 0 && (-1 : Int) == 1 && items.size == items.size) = true then _ else _) _ _ s
  rw [if_neg no, back_pick]
  first
    | exact wpAny_bind (m := Builtin.Tuple.tupleExact _) (wpAny_newObj_type (wpAny_pure ⟨_, rfl, wpAny_pure h⟩) fits)
    | exact wpAny_bind (m := Builtin.Tuple.tupleExact _) (wpAny_newObj_type (wpAny_bind (wpAny_pure (wpAny_pure ⟨_, rfl, wpAny_pure h⟩))) fits)
    | exact wpAny_bind (wpAny_bind (m := Builtin.Tuple.tupleExact _) (wpAny_newObj_type (wpAny_pure (wpAny_pure ⟨_, rfl, wpAny_pure h⟩)) fits))
    | exact wpAny_bind (wpAny_bind (m := Builtin.Tuple.tupleExact _) (wpAny_newObj_type (wpAny_pure ⟨_, rfl, wpAny_pure h⟩) fits))
end
section
variable {X : Cx} {G : Cfg} {n : Nat} {C : Ctx} {F : FE} {W : Nat → Prop}
def tRevT (K : PySem.W.Frag) (te : TE) : TE := fun σ H Q => te σ H fun x H1 => ∃ a xs, x = .ref a ∧ SqT K H1 a xs ∧ ∀ p, H1 p = none → Q (.ref p) (upd H1 p (.tup xs.reverse))
theorem pe_revT {e : Expr} {te : TE} {k : Nat} {p1 p2 p3 pos : Pos} (he : PE X e te) : PE X (.Subscript e (.Slice none none (some (.UnaryOp .USub (.Constant (.int 1) k p1) p2)) p3) pos) (tRevT X.K te) := by
  constructor
  intro pins s σ H Q I h
  refine Subscript_ (thn (he.run pins s σ H _ I h) fun v s1 ⟨x, H1, I1, r1, a, xs, ex, hx, q⟩ => ?_)
  subst ex
  cases r1
  have st : PO X (some (.UnaryOp .USub (.Constant (.int 1) k p1) p2)) (tPart (tUn (rU fun i => .int (-i)) (tC (.int 1)))) := po_some (pe_un un_neg pe_int)
  refine wpAny_Slice (thn (po_none.run pins s1 σ H1 (fun o Z => o = none ∧ Z = H1) I1 ⟨rfl, rfl⟩) fun vl s2 ⟨lo, H2, I2, pl, el, z2⟩ => ?_)
  subst el z2
  refine thn (po_none.run pins s2 σ H2 (fun o Z => o = none ∧ Z = H2) I2 ⟨rfl, rfl⟩) fun vu s3 ⟨hi, H3, I3, pu, eu, z3⟩ => ?_
  subst eu z3
  refine thn (st.run pins s3 σ H3 (fun o Z => o = some (-1) ∧ Z = H3) I3 ⟨1, rfl, -1, rfl, rfl, rfl⟩) fun vs s4 ⟨o, H4, I4, ps, eo, z4⟩ => ?_
  subst eo z4
  cases pl
  cases pu
  have I5 : Inv X pins σ H4 { s4 with heap := s4.heap.push { cls := .type "slice", data := .fields #[.none, .none, vs] } } := I4.kept (t' := s4.toks) fun b ob q => Heap.get?_push_of_some _ q
  obtain ⟨its, r, ht, hz⟩ := I5.tuple hx
  have hl := r.length
  show wpAny (model X.prog X.w) X.A (subscriptTail e (.Slice none none (some (.UnaryOp .USub (.Constant (.int 1) k p1) p2)) p3) (.ref a) (.ref s4.heap.objs.size)) (EP X pins σ Q) X.xe { s4 with heap := s4.heap.push { cls := .type "slice", data := .fields #[.none, .none, vs] } }
  refine tail_any (ops := [.ref a, .ref s4.heap.objs.size]) ht.typeIs (PyProof.Rows.slot_tuple_getitem.lookup) ?_ (by with_unfolding_all rfl)
  refine get_back ht (Heap.IsSliceOf.new _ .none .none vs) ps ?_ (by rw [List.size_toArray]; omega)
  refine ⟨.ref _, _, I5.laid (t' := s4.toks) (o := .tup xs.reverse) (fun b ob q => Heap.get?_push_of_some _ q) (Nat.le_refl _) ?_, rfl, q _ (I5.hok.fresh (Nat.le_refl _))⟩
  exact ⟨by rw [List.length_reverse]; exact hz, _, r.reverse, IsTup.new _ _⟩
theorem nx_revT : Nx1 Ice.pRevT := by intro p c; unfold Ice.pRevT; split <;> (intro h; cases h)
theorem imp_revT {a : Op} : ∀ σ H Q, tE G F W (Ice.e1 Ice.pRevT a) σ H Q → tRevT G.K (tO G F W a) σ H Q := fun σ H Q h => tO_mono (imp1 nx_revT σ H Q h) fun v H1 ⟨B, p, r, m, sb, ox, e, gv⟩ => by
  cases p with
  | tup ps =>
    cases e
    obtain ⟨a, vs, rfl, ta, la⟩ := ox.tup
    exact ⟨a, vs, rfl, sb.sqT ta, fun q hq => gv.tup sb la.rev hq⟩
  | _ => cases e
end
/-- t[::-1], a tuple -/
def kRevT (a : KO) : KE where
  d := Ice.e1 Ice.pRevT a.d
  chk C e := match e with | .Subscript x (.Slice none none (some (.UnaryOp .USub (.Constant (.int 1) _ _) _)) _) _ => a.chk C x | _ => false
  ok {G X n C F W} h e hc := by
    split at hc
    · rename_i x k p1 p2 p3 pos
      have := pe_revT (X := X) (a.ok h hc) (pos := pos) (p1 := p1) (p2 := p2) (p3 := p3) (k := k)
      rw [h.K] at this
      exact both (this.imp imp_revT) rfl
    · cases hc
end IceS
end
section
set_option Elab.async false
set_option linter.all false
set_option maxRecDepth 100000
/-! The end of a row. -/
namespace IceS
open PySem hiding Env
open PySem.Spec PyProof.Rows L2
open Ice (PV Slot Env FE Ev Op Opd Sx Tg gS sS)
/-- the statement at a place of the text -/
def nth (p : Program) (i : Nat) : Stmt := (p.main.body[i]?).getD (.Pass ⟨0, 0, 0, 0⟩)

/-- what the written part says of a def -/
structure DF (K : PySem.W.Frag) (x : Str) (st : Stmt) (ps : List Str) : Prop where
  ex : ∃ (f : Addr) (od an : Option Addr) (sl : Array (Option Value)) (kV doc pm cd ct : Value), PySem.W.nsIn K mainGlobals x = some (some (.ref f)) ∧
    K.lookup f = some ⟨.type "function", od, .func (PySem.W.fnOf x x (C8.fnArgs st) (C8.fnBody st) (C8.fnScope st) .none kV doc pm an cd ct), sl⟩ ∧ PySem.W.codeIn K cd x = true ∧ PySem.W.keepIn K (.ref f) = true
  bind : ∀ (kV doc pm : Value) (an : Option Addr) (cdv ct : Value) (us : List Value), us.length = ps.length → bindArgs (PySem.W.fnOf x x (C8.fnArgs st) (C8.fnBody st) (C8.fnScope st) .none kV doc pm an cdv ct) ⟨us, []⟩ = pure (ps.zip us)
/-- .. of an error class -/
structure XF (K : PySem.W.Frag) (x : Str) : Prop where
  ex : ∃ (a : Addr) (bmB : List Value) (B newId initId : String), ExcBaseFacts B newId initId bmB ∧ PySem.W.nsIn K mainGlobals x = some (some (.ref a)) ∧ PySem.W.excIn K a bmB newId = true ∧ PySem.W.keepIn K (.ref a) = true ∧
    PySem.W.subIn K (.ref a) (.type "BaseException") = some true ∧ PySem.W.typeIn K (.ref a) = some (.type "type")
def addrOf (K : PySem.W.Frag) (x : Str) : Option Addr := match PySem.W.nsIn K mainGlobals x with
  | some (some (.ref f)) => some f
  | _ => none
def Prg.cfg (p : Prg) (K : PySem.W.Frag) : Cfg where
  K := K
  fnA i := (p.rows.find? fun r => r.id == i).bind fun r => addrOf K r.x
  exA c := (p.ge.find? fun e => e.2 == c).bind fun e => addrOf K e.1
/-- names and numbers answer to one another -/
def Prg.one (p : Prg) : Bool := (p.rows.all fun r => p.rows.all fun s => seq r.x s.x == (r.id == s.id)) && (p.ge.all fun r => p.ge.all fun s => seq r.1 s.1 == (r.2 == s.2)) && (p.rows.all fun r => Nat.ble r.k.np r.k.N.length && C8.scC r.k.N (r.k.N.take r.k.np) (C8.fnScope r.st))
section
variable {K : PySem.W.Frag} {mg : Str → Option Value} {h : Heap} {p : Prg} {T : Ice.Tab}
theorem find_same {α : Type} {l : List α} {f : α → Nat} {a : α} (ha : a ∈ l) : ∃ b, l.find? (fun r => f r == f a) = some b ∧ b ∈ l ∧ f b = f a := by
  cases e : l.find? fun r => f r == f a with
  | none => exact absurd (List.find?_eq_none.mp e a ha) (by simp)
  | some b => exact ⟨b, rfl, List.mem_of_find?_eq_some e, by simpa using List.find?_some e⟩
theorem addrOf_eq {x : Str} {f : Addr} (e : PySem.W.nsIn K mainGlobals x = some (some (.ref f))) : addrOf K x = some f := by unfold addrOf; rw [e]
theorem prgOk (X : K.In h) (G : h.Ns mainGlobals mg) (one : p.one = true) (chk : ∀ r ∈ p.rows, p.chk r = true) (df : ∀ r ∈ p.rows, DF K r.x r.st (r.k.N.take r.k.np)) (xf : ∀ e ∈ p.ge, XF K e.1)
    (blt : ∀ x ∈ bNames, PySem.W.nsIn K mainGlobals x = some none) (gc : ∀ e ∈ p.gc, ∃ t, PySem.W.nsIn K mainGlobals e.1 = some (some (.int e.2 t))) (tab : ∀ r ∈ p.rows, T r.id = some (.d r.k.d)) : PrgOk (p.cfg K) K mg T p := by
  unfold Prg.one at one
  rw [Bool.and_eq_true, Bool.and_eq_true] at one
  obtain ⟨⟨o1, o2⟩, o3⟩ := one
  have ids : ∀ r ∈ p.rows, ∀ s ∈ p.rows, (r.x = s.x ↔ r.id = s.id) := fun r hr s hs => by
    have q := List.all_eq_true.mp (List.all_eq_true.mp o1 r hr) s hs
    rw [beq_iff_eq] at q
    constructor
    · intro e
      rw [e, seq_self] at q
      simpa using q.symm
    · intro e
      rw [e, beq_self_eq_true] at q
      exact seq_eq q
  have eds : ∀ r ∈ p.ge, ∀ s ∈ p.ge, (r.1 = s.1 ↔ r.2 = s.2) := fun r hr s hs => by
    have q := List.all_eq_true.mp (List.all_eq_true.mp o2 r hr) s hs
    rw [beq_iff_eq] at q
    constructor
    · intro e
      rw [e, seq_self] at q
      simpa using q.symm
    · intro e
      rw [e, beq_self_eq_true] at q
      exact seq_eq q
  have fnA : ∀ i a, (p.cfg K).fnA i = some a → ∃ r ∈ p.rows, r.id = i ∧ addrOf K r.x = some a := fun i a e => by
    have e : (p.rows.find? fun r => r.id == i).bind (fun r => addrOf K r.x) = some a := e
    cases q : p.rows.find? fun r => r.id == i with
    | none => rw [q] at e; cases e
    | some r =>
      rw [q] at e
      exact ⟨r, List.mem_of_find?_eq_some q, by simpa using List.find?_some q, e⟩
  refine ⟨rfl, tab, fun r hr => ?_, fun r hr => ?_, fun r hr => ?_, chk, fun x hx => PySem.W.mg_none_of X G (blt x hx), fun f a e => ?_, fun f g a e1 e2 => ?_, fun x i hx => ?_, fun x c hx => ?_⟩
  · obtain ⟨f, od, an, sl, kV, doc, pm, cd, ct, a1, l1, c1, k1⟩ := (df r hr).ex
    have F : C8.Fun K r.x r.x r.st f (PySem.W.fnOf r.x r.x (C8.fnArgs r.st) (C8.fnBody r.st) (C8.fnScope r.st) .none kV doc pm an cd ct) := ⟨_, od, _, kV, doc, pm, an, cd, ct, sl, rfl, l1, c1⟩
    refine ⟨f, _, ⟨F, PySem.W.mg_of X G a1, k1⟩, F.binds rfl (df r hr).bind, ?_⟩
    show (p.rows.find? fun s => s.id == r.id).bind (fun s => addrOf K s.x) = some f
    obtain ⟨b, e1, e2, e3⟩ := find_same (f := fun s : DRow => s.id) hr
    rw [e1]
    show addrOf K b.x = some f
    rw [(ids b e2 r hr).mpr e3]
    exact addrOf_eq a1
  · have q := List.all_eq_true.mp o3 r hr
    rw [Bool.and_eq_true] at q
    exact C8.fnScope_by q.2
  · have q := List.all_eq_true.mp o3 r hr
    rw [Bool.and_eq_true] at q
    exact Nat.le_of_ble_eq_true q.1
  · obtain ⟨r, hr, _, e⟩ := fnA f a e
    obtain ⟨f', od, an, sl, kV, doc, pm, cd, ct, a1, l1, c1, k1⟩ := (df r hr).ex
    rw [addrOf_eq a1] at e
    cases e
    exact ⟨_, l1, rfl⟩
  · obtain ⟨r, hr, i1, q1⟩ := fnA f a e1
    obtain ⟨s, hs, i2, q2⟩ := fnA g a e2
    obtain ⟨f', od, an, sl, kV, doc, pm, cd, ct, a1, l1, c1, k1⟩ := (df r hr).ex
    obtain ⟨f2, od2, an2, sl2, kV2, doc2, pm2, cd2, ct2, a2, l2, c2, k2⟩ := (df s hs).ex
    rw [addrOf_eq a1] at q1
    rw [addrOf_eq a2] at q2
    cases q1
    cases q2
    rw [l1] at l2
    have en : r.x = s.x := by
      injection l2 with l2
      injection l2 with _ _ l2 _
      injection l2 with l2
      exact congrArg FuncData.name l2
    rw [← i1, ← i2, (ids r hr s hs).mp en]
  · obtain ⟨t, e⟩ := gc (x, i) hx
    exact ⟨t, PySem.W.mg_of X G e⟩
  · obtain ⟨a, bmB, B, ni, ii, f1, f2, f3, f4, f5, f6⟩ := (xf (x, c) hx).ex
    refine ⟨a, bmB, B, ni, ii, f1, f3, PySem.W.mg_of X G f2, f4, ⟨f5, f6⟩, ?_⟩
    show (p.ge.find? fun s => s.2 == c).bind (fun s => addrOf K s.1) = some a
    obtain ⟨b, e1, e2, e3⟩ := find_same (f := fun s : Str × Nat => s.2) hx
    rw [e1]
    show addrOf K b.1 = some a
    rw [(eds b e2 (x, c) hx).mpr e3]
    exact addrOf_eq f2
/-- the law's promise, from the plain law -/
theorem law_plain {i n : Nat} (plain : ∀ ns : List Int, ns.length ≤ 63 → ∃ m outs, Ice.callF T n i [.val (.scr (ns.map .int))] = .ok (.bl true, m, outs)) (H : Hp) (a : Addr) (ns : List Int) (hl : ns.length ≤ 63) (hO : Only H) (hS : SqL K H a (ns.map V.int)) :
    SpF (p.cfg K) (Ice.callF T n) i [.ref a] H (fun v _ => v = .bl true) fun _ _ _ => False := by
  obtain ⟨m, outs, e⟩ := plain ns hl
  have rl : ∀ l : List Int, RepL (p.cfg K) H (l.map V.int) (l.map PV.int) := fun l => by
    induction l with
    | nil => exact .nil
    | cons x l ih => exact .cons (.int x) ih
  have sc : ScrAt K H a (ns.map V.int) := by
    rcases hS with (h | ⟨o, h⟩) | h
    · rcases hO a with z | ⟨o, xs, z⟩ <;> (rw [h] at z; cases z)
    · exact .inl ⟨o, h⟩
    · obtain ⟨o, its, k, h1, h2⟩ := h
      exact .inr ⟨⟨o, h1⟩, .inr ⟨o, its, k, h1, h2⟩⟩
  refine ⟨H, [.val (.scr (ns.map .int))], fun _ => [], fun _ => False, rfl, rfl, ⟨rfl, Sub.refl _, fun j => ?_, fun j k b h => by cases h⟩, fun cls d H' ⟨c, x, w, _⟩ => w, ?_⟩
  · cases j with
    | zero => exact .val (.scr sc (rl ns))
    | succ j => exact .un
  · rw [e]
    intro v B' H' L' A r nb
    exact r.bl
/-- the law's def at the wanted level -/
theorem law_fn {P : Program} {w : World} {fa : Addr} {r : DRow} {n : Nat} (X : K.In h) (G : h.Ns mainGlobals mg) (hmg : mg r.x = some (.ref fa)) (O : PrgOk (p.cfg K) K mg T p) (hr : r ∈ p.rows) (hps : r.k.N.take r.k.np = [("script" : Str)]) (df : DF K r.x r.st (r.k.N.take r.k.np))
    (hb : ∀ (kV doc pm : Value) (an : Option Addr) (cd ct : Value) (s : Shared) (u : Value), BindsTo s (PySem.W.fnOf r.x r.x (C8.fnArgs r.st) (C8.fnBody r.st) (C8.fnScope r.st) .none kV doc pm an cd ct) ⟨[u], []⟩ [("script", u)]) :
    ∃ fd : FuncData, (∀ (s : Shared) (u : Value), BindsTo s fd ⟨[u], []⟩ [("script", u)]) ∧ ∀ base : Heap, K.In base → base.Ns mainGlobals mg → FnOk P w K mg base (L2.CX P w) n fa fd ["script"] (SpF (p.cfg K) (Ice.callF T n) r.id) := by
  obtain ⟨f, od, an, sl, kV, doc, pm, cd, ct, a1, l1, c1, k1⟩ := df.ex
  have e := (PySem.W.mg_of X G a1).symm.trans hmg
  cases e
  refine ⟨_, hb kV doc pm an cd ct, fun base _ _ => ?_⟩
  obtain ⟨f', fd', ps, D', eps, q1, _, _, _, q5⟩ := all_ok (P := P) (w := w) (base := base) O n r hr
  rw [hmg] at q1
  cases q1
  obtain ⟨oc', od', dV', kV', doc', pm', an', cdv', ct', osl', e2, l2, c2⟩ := D'.fn.ex
  rw [l1] at l2
  injection l2 with l2
  injection l2 with _ _ l2 _
  injection l2 with ed
  rw [← ed, eps, hps] at q5
  exact q5
end
end IceS
end
section
set_option autoImplicit false
set_option linter.all false
namespace Ice
/-- the run ends well, in something of P -/
def Ret {α : Type} (x : R α) (P : α → Prop) : Prop := ∃ a, x = .ok a ∧ P a
theorem Ret.ok {α : Type} {a : α} {P : α → Prop} (h : P a) : Ret (.ok a) P := ⟨a, rfl, h⟩
theorem Ret.imp {α : Type} {x : R α} {P Q : α → Prop} (h : Ret x P) (f : ∀ a, P a → Q a) : Ret x Q := by
  obtain ⟨a, e, p⟩ := h
  exact ⟨a, e, f a p⟩
theorem Ret.bind {α β : Type} {x : R α} {f : α → R β} {Q : α → Prop} {P : β → Prop} (h : Ret x Q) (k : ∀ a, Q a → Ret (f a) P) : Ret (x.bind f) P := by
  obtain ⟨a, e, p⟩ := h
  rw [e]
  exact k a p
theorem Ret.calm {α : Type} {x : R α} {P : α → Prop} (h : Ret x P) : Ret x.calm P := by
  obtain ⟨a, e, p⟩ := h
  exact ⟨a, by rw [e]; rfl, p⟩
@[simp] theorem ret_ok {α : Type} (a : α) (P : α → Prop) : Ret (.ok a) P ↔ P a := ⟨fun ⟨_, e, h⟩ => by cases e; exact h, .ok⟩
theorem Ret.eq {α : Type} {x : R α} {a : α} (h : Ret x fun b => b = a) : x = .ok a := by
  obtain ⟨b, e, rfl⟩ := h
  exact e
theorem ret_eq {α : Type} {x : R α} {a : α} (h : x = .ok a) : Ret x fun b => b = a := ⟨a, h, rfl⟩
theorem bind_congr1 {α β : Type} {x y : R α} (f : α → R β) (h : x = y) : x.bind f = y.bind f := by rw [h]
theorem ret_congr1 {α : Type} {x y : R α} (P : α → Prop) (h : x = y) : Ret x P = Ret y P := by rw [h]
theorem cps {α : Type} {x : R α} {P : α → Prop} (h : ∀ K : α → Prop, (∀ a, P a → K a) → Ret x K) : Ret x P := h P fun _ h => h
/-- a slot that a name may be given anew -/
def Free (s : Slot) : Prop := s = .un ∨ (∃ p, s = .val p) ∨ (∃ p, s = .own p) ∨ ∃ p, s = .xt p
@[simp] theorem Free.un : Free .un := .inl rfl
@[simp] theorem Free.val {p : PV} : Free (.val p) := .inr (.inl ⟨p, rfl⟩)
@[simp] theorem Free.own {p : PV} : Free (.own p) := .inr (.inr (.inl ⟨p, rfl⟩))
@[simp] theorem Free.xt {p : List PV} : Free (.xt p) := .inr (.inr (.inr ⟨p, rfl⟩))
@[simp] theorem frS_lst (xs : List PV) : frS (.lst xs) = .own (.lst xs) := (rfl)
@[simp] theorem frS_dct (xs : KVs) : frS (.dct xs) = .own (.dct xs) := (rfl)
@[simp] theorem frS_tup (xs : List PV) : frS (.tup xs) = .xt xs := (rfl)
theorem asg_free {i : Nat} {p : PV} {fr : Bool} {ρ : Env} (h : Free (gS ρ i)) : asg i p fr ρ = .ok (sS ρ i (if fr then frS p else .val p)) := by
  unfold asg
  rcases h with h | ⟨q, h⟩ | ⟨q, h⟩ | ⟨q, h⟩ <;> rw [h]

@[simp] theorem asg_v0 (s0 : Slot) (r : Env) (p : PV) (h : Free s0) : asg 0 p false (s0 :: r) = .ok (.val p :: r) := by rw [asg_free (by exact h)]; rfl
@[simp] theorem asg_o0 (s0 : Slot) (r : Env) (p : PV) (h : Free s0) : asg 0 p true (s0 :: r) = .ok (frS p :: r) := by rw [asg_free (by exact h)]; rfl
@[simp] theorem gS_n1 (s0 s1 : Slot) (r : Env) : gS (s0 :: s1 :: r) 1 = s1 := (rfl)
@[simp] theorem sS_n1 (s0 s1 x : Slot) (r : Env) : sS (s0 :: s1 :: r) 1 x = s0 :: x :: r := (rfl)
@[simp] theorem asg_v1 (s0 s1 : Slot) (r : Env) (p : PV) (h : Free s1) : asg 1 p false (s0 :: s1 :: r) = .ok (s0 :: .val p :: r) := by rw [asg_free (by exact h)]; rfl
@[simp] theorem asg_o1 (s0 s1 : Slot) (r : Env) (p : PV) (h : Free s1) : asg 1 p true (s0 :: s1 :: r) = .ok (s0 :: frS p :: r) := by rw [asg_free (by exact h)]; rfl
@[simp] theorem gS_n2 (s0 s1 s2 : Slot) (r : Env) : gS (s0 :: s1 :: s2 :: r) 2 = s2 := (rfl)
@[simp] theorem sS_n2 (s0 s1 s2 x : Slot) (r : Env) : sS (s0 :: s1 :: s2 :: r) 2 x = s0 :: s1 :: x :: r := (rfl)
@[simp] theorem asg_v2 (s0 s1 s2 : Slot) (r : Env) (p : PV) (h : Free s2) : asg 2 p false (s0 :: s1 :: s2 :: r) = .ok (s0 :: s1 :: .val p :: r) := by rw [asg_free (by exact h)]; rfl
@[simp] theorem asg_o2 (s0 s1 s2 : Slot) (r : Env) (p : PV) (h : Free s2) : asg 2 p true (s0 :: s1 :: s2 :: r) = .ok (s0 :: s1 :: frS p :: r) := by rw [asg_free (by exact h)]; rfl
@[simp] theorem gS_n3 (s0 s1 s2 s3 : Slot) (r : Env) : gS (s0 :: s1 :: s2 :: s3 :: r) 3 = s3 := (rfl)
@[simp] theorem sS_n3 (s0 s1 s2 s3 x : Slot) (r : Env) : sS (s0 :: s1 :: s2 :: s3 :: r) 3 x = s0 :: s1 :: s2 :: x :: r := (rfl)
@[simp] theorem asg_v3 (s0 s1 s2 s3 : Slot) (r : Env) (p : PV) (h : Free s3) : asg 3 p false (s0 :: s1 :: s2 :: s3 :: r) = .ok (s0 :: s1 :: s2 :: .val p :: r) := by rw [asg_free (by exact h)]; rfl
@[simp] theorem asg_o3 (s0 s1 s2 s3 : Slot) (r : Env) (p : PV) (h : Free s3) : asg 3 p true (s0 :: s1 :: s2 :: s3 :: r) = .ok (s0 :: s1 :: s2 :: frS p :: r) := by rw [asg_free (by exact h)]; rfl
@[simp] theorem gS_n4 (s0 s1 s2 s3 s4 : Slot) (r : Env) : gS (s0 :: s1 :: s2 :: s3 :: s4 :: r) 4 = s4 := (rfl)
@[simp] theorem sS_n4 (s0 s1 s2 s3 s4 x : Slot) (r : Env) : sS (s0 :: s1 :: s2 :: s3 :: s4 :: r) 4 x = s0 :: s1 :: s2 :: s3 :: x :: r := (rfl)
@[simp] theorem asg_v4 (s0 s1 s2 s3 s4 : Slot) (r : Env) (p : PV) (h : Free s4) : asg 4 p false (s0 :: s1 :: s2 :: s3 :: s4 :: r) = .ok (s0 :: s1 :: s2 :: s3 :: .val p :: r) := by rw [asg_free (by exact h)]; rfl
@[simp] theorem asg_o4 (s0 s1 s2 s3 s4 : Slot) (r : Env) (p : PV) (h : Free s4) : asg 4 p true (s0 :: s1 :: s2 :: s3 :: s4 :: r) = .ok (s0 :: s1 :: s2 :: s3 :: frS p :: r) := by rw [asg_free (by exact h)]; rfl
@[simp] theorem gS_n5 (s0 s1 s2 s3 s4 s5 : Slot) (r : Env) : gS (s0 :: s1 :: s2 :: s3 :: s4 :: s5 :: r) 5 = s5 := (rfl)
@[simp] theorem sS_n5 (s0 s1 s2 s3 s4 s5 x : Slot) (r : Env) : sS (s0 :: s1 :: s2 :: s3 :: s4 :: s5 :: r) 5 x = s0 :: s1 :: s2 :: s3 :: s4 :: x :: r := (rfl)
@[simp] theorem asg_v5 (s0 s1 s2 s3 s4 s5 : Slot) (r : Env) (p : PV) (h : Free s5) : asg 5 p false (s0 :: s1 :: s2 :: s3 :: s4 :: s5 :: r) = .ok (s0 :: s1 :: s2 :: s3 :: s4 :: .val p :: r) := by rw [asg_free (by exact h)]; rfl
@[simp] theorem asg_o5 (s0 s1 s2 s3 s4 s5 : Slot) (r : Env) (p : PV) (h : Free s5) : asg 5 p true (s0 :: s1 :: s2 :: s3 :: s4 :: s5 :: r) = .ok (s0 :: s1 :: s2 :: s3 :: s4 :: frS p :: r) := by rw [asg_free (by exact h)]; rfl
@[simp] theorem gS_n6 (s0 s1 s2 s3 s4 s5 s6 : Slot) (r : Env) : gS (s0 :: s1 :: s2 :: s3 :: s4 :: s5 :: s6 :: r) 6 = s6 := (rfl)
@[simp] theorem sS_n6 (s0 s1 s2 s3 s4 s5 s6 x : Slot) (r : Env) : sS (s0 :: s1 :: s2 :: s3 :: s4 :: s5 :: s6 :: r) 6 x = s0 :: s1 :: s2 :: s3 :: s4 :: s5 :: x :: r := (rfl)
@[simp] theorem asg_v6 (s0 s1 s2 s3 s4 s5 s6 : Slot) (r : Env) (p : PV) (h : Free s6) : asg 6 p false (s0 :: s1 :: s2 :: s3 :: s4 :: s5 :: s6 :: r) = .ok (s0 :: s1 :: s2 :: s3 :: s4 :: s5 :: .val p :: r) := by rw [asg_free (by exact h)]; rfl
@[simp] theorem asg_o6 (s0 s1 s2 s3 s4 s5 s6 : Slot) (r : Env) (p : PV) (h : Free s6) : asg 6 p true (s0 :: s1 :: s2 :: s3 :: s4 :: s5 :: s6 :: r) = .ok (s0 :: s1 :: s2 :: s3 :: s4 :: s5 :: frS p :: r) := by rw [asg_free (by exact h)]; rfl
@[simp] theorem gS_n7 (s0 s1 s2 s3 s4 s5 s6 s7 : Slot) (r : Env) : gS (s0 :: s1 :: s2 :: s3 :: s4 :: s5 :: s6 :: s7 :: r) 7 = s7 := (rfl)
@[simp] theorem sS_n7 (s0 s1 s2 s3 s4 s5 s6 s7 x : Slot) (r : Env) : sS (s0 :: s1 :: s2 :: s3 :: s4 :: s5 :: s6 :: s7 :: r) 7 x = s0 :: s1 :: s2 :: s3 :: s4 :: s5 :: s6 :: x :: r := (rfl)
@[simp] theorem asg_v7 (s0 s1 s2 s3 s4 s5 s6 s7 : Slot) (r : Env) (p : PV) (h : Free s7) : asg 7 p false (s0 :: s1 :: s2 :: s3 :: s4 :: s5 :: s6 :: s7 :: r) = .ok (s0 :: s1 :: s2 :: s3 :: s4 :: s5 :: s6 :: .val p :: r) := by rw [asg_free (by exact h)]; rfl
@[simp] theorem asg_o7 (s0 s1 s2 s3 s4 s5 s6 s7 : Slot) (r : Env) (p : PV) (h : Free s7) : asg 7 p true (s0 :: s1 :: s2 :: s3 :: s4 :: s5 :: s6 :: s7 :: r) = .ok (s0 :: s1 :: s2 :: s3 :: s4 :: s5 :: s6 :: frS p :: r) := by rw [asg_free (by exact h)]; rfl
@[simp] theorem gS_n8 (s0 s1 s2 s3 s4 s5 s6 s7 s8 : Slot) (r : Env) : gS (s0 :: s1 :: s2 :: s3 :: s4 :: s5 :: s6 :: s7 :: s8 :: r) 8 = s8 := (rfl)
@[simp] theorem sS_n8 (s0 s1 s2 s3 s4 s5 s6 s7 s8 x : Slot) (r : Env) : sS (s0 :: s1 :: s2 :: s3 :: s4 :: s5 :: s6 :: s7 :: s8 :: r) 8 x = s0 :: s1 :: s2 :: s3 :: s4 :: s5 :: s6 :: s7 :: x :: r := (rfl)
@[simp] theorem asg_v8 (s0 s1 s2 s3 s4 s5 s6 s7 s8 : Slot) (r : Env) (p : PV) (h : Free s8) : asg 8 p false (s0 :: s1 :: s2 :: s3 :: s4 :: s5 :: s6 :: s7 :: s8 :: r) = .ok (s0 :: s1 :: s2 :: s3 :: s4 :: s5 :: s6 :: s7 :: .val p :: r) := by rw [asg_free (by exact h)]; rfl
@[simp] theorem asg_o8 (s0 s1 s2 s3 s4 s5 s6 s7 s8 : Slot) (r : Env) (p : PV) (h : Free s8) : asg 8 p true (s0 :: s1 :: s2 :: s3 :: s4 :: s5 :: s6 :: s7 :: s8 :: r) = .ok (s0 :: s1 :: s2 :: s3 :: s4 :: s5 :: s6 :: s7 :: frS p :: r) := by rw [asg_free (by exact h)]; rfl
@[simp] theorem gS_n9 (s0 s1 s2 s3 s4 s5 s6 s7 s8 s9 : Slot) (r : Env) : gS (s0 :: s1 :: s2 :: s3 :: s4 :: s5 :: s6 :: s7 :: s8 :: s9 :: r) 9 = s9 := (rfl)
@[simp] theorem sS_n9 (s0 s1 s2 s3 s4 s5 s6 s7 s8 s9 x : Slot) (r : Env) : sS (s0 :: s1 :: s2 :: s3 :: s4 :: s5 :: s6 :: s7 :: s8 :: s9 :: r) 9 x = s0 :: s1 :: s2 :: s3 :: s4 :: s5 :: s6 :: s7 :: s8 :: x :: r := (rfl)
@[simp] theorem asg_v9 (s0 s1 s2 s3 s4 s5 s6 s7 s8 s9 : Slot) (r : Env) (p : PV) (h : Free s9) : asg 9 p false (s0 :: s1 :: s2 :: s3 :: s4 :: s5 :: s6 :: s7 :: s8 :: s9 :: r) = .ok (s0 :: s1 :: s2 :: s3 :: s4 :: s5 :: s6 :: s7 :: s8 :: .val p :: r) := by rw [asg_free (by exact h)]; rfl
@[simp] theorem asg_o9 (s0 s1 s2 s3 s4 s5 s6 s7 s8 s9 : Slot) (r : Env) (p : PV) (h : Free s9) : asg 9 p true (s0 :: s1 :: s2 :: s3 :: s4 :: s5 :: s6 :: s7 :: s8 :: s9 :: r) = .ok (s0 :: s1 :: s2 :: s3 :: s4 :: s5 :: s6 :: s7 :: s8 :: frS p :: r) := by rw [asg_free (by exact h)]; rfl
@[simp] theorem gS_n10 (s0 s1 s2 s3 s4 s5 s6 s7 s8 s9 s10 : Slot) (r : Env) : gS (s0 :: s1 :: s2 :: s3 :: s4 :: s5 :: s6 :: s7 :: s8 :: s9 :: s10 :: r) 10 = s10 := (rfl)
@[simp] theorem sS_n10 (s0 s1 s2 s3 s4 s5 s6 s7 s8 s9 s10 x : Slot) (r : Env) : sS (s0 :: s1 :: s2 :: s3 :: s4 :: s5 :: s6 :: s7 :: s8 :: s9 :: s10 :: r) 10 x = s0 :: s1 :: s2 :: s3 :: s4 :: s5 :: s6 :: s7 :: s8 :: s9 :: x :: r := (rfl)
@[simp] theorem asg_v10 (s0 s1 s2 s3 s4 s5 s6 s7 s8 s9 s10 : Slot) (r : Env) (p : PV) (h : Free s10) : asg 10 p false (s0 :: s1 :: s2 :: s3 :: s4 :: s5 :: s6 :: s7 :: s8 :: s9 :: s10 :: r) = .ok (s0 :: s1 :: s2 :: s3 :: s4 :: s5 :: s6 :: s7 :: s8 :: s9 :: .val p :: r) := by rw [asg_free (by exact h)]; rfl
@[simp] theorem asg_o10 (s0 s1 s2 s3 s4 s5 s6 s7 s8 s9 s10 : Slot) (r : Env) (p : PV) (h : Free s10) : asg 10 p true (s0 :: s1 :: s2 :: s3 :: s4 :: s5 :: s6 :: s7 :: s8 :: s9 :: s10 :: r) = .ok (s0 :: s1 :: s2 :: s3 :: s4 :: s5 :: s6 :: s7 :: s8 :: s9 :: frS p :: r) := by rw [asg_free (by exact h)]; rfl
@[simp] theorem gS_n11 (s0 s1 s2 s3 s4 s5 s6 s7 s8 s9 s10 s11 : Slot) (r : Env) : gS (s0 :: s1 :: s2 :: s3 :: s4 :: s5 :: s6 :: s7 :: s8 :: s9 :: s10 :: s11 :: r) 11 = s11 := (rfl)
@[simp] theorem sS_n11 (s0 s1 s2 s3 s4 s5 s6 s7 s8 s9 s10 s11 x : Slot) (r : Env) : sS (s0 :: s1 :: s2 :: s3 :: s4 :: s5 :: s6 :: s7 :: s8 :: s9 :: s10 :: s11 :: r) 11 x = s0 :: s1 :: s2 :: s3 :: s4 :: s5 :: s6 :: s7 :: s8 :: s9 :: s10 :: x :: r := (rfl)
@[simp] theorem asg_v11 (s0 s1 s2 s3 s4 s5 s6 s7 s8 s9 s10 s11 : Slot) (r : Env) (p : PV) (h : Free s11) : asg 11 p false (s0 :: s1 :: s2 :: s3 :: s4 :: s5 :: s6 :: s7 :: s8 :: s9 :: s10 :: s11 :: r) = .ok (s0 :: s1 :: s2 :: s3 :: s4 :: s5 :: s6 :: s7 :: s8 :: s9 :: s10 :: .val p :: r) := by rw [asg_free (by exact h)]; rfl
@[simp] theorem asg_o11 (s0 s1 s2 s3 s4 s5 s6 s7 s8 s9 s10 s11 : Slot) (r : Env) (p : PV) (h : Free s11) : asg 11 p true (s0 :: s1 :: s2 :: s3 :: s4 :: s5 :: s6 :: s7 :: s8 :: s9 :: s10 :: s11 :: r) = .ok (s0 :: s1 :: s2 :: s3 :: s4 :: s5 :: s6 :: s7 :: s8 :: s9 :: s10 :: frS p :: r) := by rw [asg_free (by exact h)]; rfl
@[simp] theorem gS_n12 (s0 s1 s2 s3 s4 s5 s6 s7 s8 s9 s10 s11 s12 : Slot) (r : Env) : gS (s0 :: s1 :: s2 :: s3 :: s4 :: s5 :: s6 :: s7 :: s8 :: s9 :: s10 :: s11 :: s12 :: r) 12 = s12 := (rfl)
@[simp] theorem sS_n12 (s0 s1 s2 s3 s4 s5 s6 s7 s8 s9 s10 s11 s12 x : Slot) (r : Env) : sS (s0 :: s1 :: s2 :: s3 :: s4 :: s5 :: s6 :: s7 :: s8 :: s9 :: s10 :: s11 :: s12 :: r) 12 x = s0 :: s1 :: s2 :: s3 :: s4 :: s5 :: s6 :: s7 :: s8 :: s9 :: s10 :: s11 :: x :: r := (rfl)
@[simp] theorem asg_v12 (s0 s1 s2 s3 s4 s5 s6 s7 s8 s9 s10 s11 s12 : Slot) (r : Env) (p : PV) (h : Free s12) : asg 12 p false (s0 :: s1 :: s2 :: s3 :: s4 :: s5 :: s6 :: s7 :: s8 :: s9 :: s10 :: s11 :: s12 :: r) = .ok (s0 :: s1 :: s2 :: s3 :: s4 :: s5 :: s6 :: s7 :: s8 :: s9 :: s10 :: s11 :: .val p :: r) := by rw [asg_free (by exact h)]; rfl
@[simp] theorem asg_o12 (s0 s1 s2 s3 s4 s5 s6 s7 s8 s9 s10 s11 s12 : Slot) (r : Env) (p : PV) (h : Free s12) : asg 12 p true (s0 :: s1 :: s2 :: s3 :: s4 :: s5 :: s6 :: s7 :: s8 :: s9 :: s10 :: s11 :: s12 :: r) = .ok (s0 :: s1 :: s2 :: s3 :: s4 :: s5 :: s6 :: s7 :: s8 :: s9 :: s10 :: s11 :: frS p :: r) := by rw [asg_free (by exact h)]; rfl
@[simp] theorem gS_n13 (s0 s1 s2 s3 s4 s5 s6 s7 s8 s9 s10 s11 s12 s13 : Slot) (r : Env) : gS (s0 :: s1 :: s2 :: s3 :: s4 :: s5 :: s6 :: s7 :: s8 :: s9 :: s10 :: s11 :: s12 :: s13 :: r) 13 = s13 := (rfl)
@[simp] theorem sS_n13 (s0 s1 s2 s3 s4 s5 s6 s7 s8 s9 s10 s11 s12 s13 x : Slot) (r : Env) : sS (s0 :: s1 :: s2 :: s3 :: s4 :: s5 :: s6 :: s7 :: s8 :: s9 :: s10 :: s11 :: s12 :: s13 :: r) 13 x = s0 :: s1 :: s2 :: s3 :: s4 :: s5 :: s6 :: s7 :: s8 :: s9 :: s10 :: s11 :: s12 :: x :: r := (rfl)
@[simp] theorem asg_v13 (s0 s1 s2 s3 s4 s5 s6 s7 s8 s9 s10 s11 s12 s13 : Slot) (r : Env) (p : PV) (h : Free s13) : asg 13 p false (s0 :: s1 :: s2 :: s3 :: s4 :: s5 :: s6 :: s7 :: s8 :: s9 :: s10 :: s11 :: s12 :: s13 :: r) = .ok (s0 :: s1 :: s2 :: s3 :: s4 :: s5 :: s6 :: s7 :: s8 :: s9 :: s10 :: s11 :: s12 :: .val p :: r) := by rw [asg_free (by exact h)]; rfl
@[simp] theorem asg_o13 (s0 s1 s2 s3 s4 s5 s6 s7 s8 s9 s10 s11 s12 s13 : Slot) (r : Env) (p : PV) (h : Free s13) : asg 13 p true (s0 :: s1 :: s2 :: s3 :: s4 :: s5 :: s6 :: s7 :: s8 :: s9 :: s10 :: s11 :: s12 :: s13 :: r) = .ok (s0 :: s1 :: s2 :: s3 :: s4 :: s5 :: s6 :: s7 :: s8 :: s9 :: s10 :: s11 :: s12 :: frS p :: r) := by rw [asg_free (by exact h)]; rfl
@[simp] theorem gS_n14 (s0 s1 s2 s3 s4 s5 s6 s7 s8 s9 s10 s11 s12 s13 s14 : Slot) (r : Env) : gS (s0 :: s1 :: s2 :: s3 :: s4 :: s5 :: s6 :: s7 :: s8 :: s9 :: s10 :: s11 :: s12 :: s13 :: s14 :: r) 14 = s14 := (rfl)
@[simp] theorem sS_n14 (s0 s1 s2 s3 s4 s5 s6 s7 s8 s9 s10 s11 s12 s13 s14 x : Slot) (r : Env) : sS (s0 :: s1 :: s2 :: s3 :: s4 :: s5 :: s6 :: s7 :: s8 :: s9 :: s10 :: s11 :: s12 :: s13 :: s14 :: r) 14 x = s0 :: s1 :: s2 :: s3 :: s4 :: s5 :: s6 :: s7 :: s8 :: s9 :: s10 :: s11 :: s12 :: s13 :: x :: r := (rfl)
@[simp] theorem asg_v14 (s0 s1 s2 s3 s4 s5 s6 s7 s8 s9 s10 s11 s12 s13 s14 : Slot) (r : Env) (p : PV) (h : Free s14) : asg 14 p false (s0 :: s1 :: s2 :: s3 :: s4 :: s5 :: s6 :: s7 :: s8 :: s9 :: s10 :: s11 :: s12 :: s13 :: s14 :: r) = .ok (s0 :: s1 :: s2 :: s3 :: s4 :: s5 :: s6 :: s7 :: s8 :: s9 :: s10 :: s11 :: s12 :: s13 :: .val p :: r) := by rw [asg_free (by exact h)]; rfl
@[simp] theorem asg_o14 (s0 s1 s2 s3 s4 s5 s6 s7 s8 s9 s10 s11 s12 s13 s14 : Slot) (r : Env) (p : PV) (h : Free s14) : asg 14 p true (s0 :: s1 :: s2 :: s3 :: s4 :: s5 :: s6 :: s7 :: s8 :: s9 :: s10 :: s11 :: s12 :: s13 :: s14 :: r) = .ok (s0 :: s1 :: s2 :: s3 :: s4 :: s5 :: s6 :: s7 :: s8 :: s9 :: s10 :: s11 :: s12 :: s13 :: frS p :: r) := by rw [asg_free (by exact h)]; rfl
@[simp] theorem gS_n15 (s0 s1 s2 s3 s4 s5 s6 s7 s8 s9 s10 s11 s12 s13 s14 s15 : Slot) (r : Env) : gS (s0 :: s1 :: s2 :: s3 :: s4 :: s5 :: s6 :: s7 :: s8 :: s9 :: s10 :: s11 :: s12 :: s13 :: s14 :: s15 :: r) 15 = s15 := (rfl)
@[simp] theorem sS_n15 (s0 s1 s2 s3 s4 s5 s6 s7 s8 s9 s10 s11 s12 s13 s14 s15 x : Slot) (r : Env) : sS (s0 :: s1 :: s2 :: s3 :: s4 :: s5 :: s6 :: s7 :: s8 :: s9 :: s10 :: s11 :: s12 :: s13 :: s14 :: s15 :: r) 15 x = s0 :: s1 :: s2 :: s3 :: s4 :: s5 :: s6 :: s7 :: s8 :: s9 :: s10 :: s11 :: s12 :: s13 :: s14 :: x :: r := (rfl)
@[simp] theorem asg_v15 (s0 s1 s2 s3 s4 s5 s6 s7 s8 s9 s10 s11 s12 s13 s14 s15 : Slot) (r : Env) (p : PV) (h : Free s15) : asg 15 p false (s0 :: s1 :: s2 :: s3 :: s4 :: s5 :: s6 :: s7 :: s8 :: s9 :: s10 :: s11 :: s12 :: s13 :: s14 :: s15 :: r) = .ok (s0 :: s1 :: s2 :: s3 :: s4 :: s5 :: s6 :: s7 :: s8 :: s9 :: s10 :: s11 :: s12 :: s13 :: s14 :: .val p :: r) := by rw [asg_free (by exact h)]; rfl
@[simp] theorem asg_o15 (s0 s1 s2 s3 s4 s5 s6 s7 s8 s9 s10 s11 s12 s13 s14 s15 : Slot) (r : Env) (p : PV) (h : Free s15) : asg 15 p true (s0 :: s1 :: s2 :: s3 :: s4 :: s5 :: s6 :: s7 :: s8 :: s9 :: s10 :: s11 :: s12 :: s13 :: s14 :: s15 :: r) = .ok (s0 :: s1 :: s2 :: s3 :: s4 :: s5 :: s6 :: s7 :: s8 :: s9 :: s10 :: s11 :: s12 :: s13 :: s14 :: frS p :: r) := by rw [asg_free (by exact h)]; rfl
@[simp] theorem gS_n16 (s0 s1 s2 s3 s4 s5 s6 s7 s8 s9 s10 s11 s12 s13 s14 s15 s16 : Slot) (r : Env) : gS (s0 :: s1 :: s2 :: s3 :: s4 :: s5 :: s6 :: s7 :: s8 :: s9 :: s10 :: s11 :: s12 :: s13 :: s14 :: s15 :: s16 :: r) 16 = s16 := (rfl)
@[simp] theorem sS_n16 (s0 s1 s2 s3 s4 s5 s6 s7 s8 s9 s10 s11 s12 s13 s14 s15 s16 x : Slot) (r : Env) : sS (s0 :: s1 :: s2 :: s3 :: s4 :: s5 :: s6 :: s7 :: s8 :: s9 :: s10 :: s11 :: s12 :: s13 :: s14 :: s15 :: s16 :: r) 16 x = s0 :: s1 :: s2 :: s3 :: s4 :: s5 :: s6 :: s7 :: s8 :: s9 :: s10 :: s11 :: s12 :: s13 :: s14 :: s15 :: x :: r := (rfl)
@[simp] theorem asg_v16 (s0 s1 s2 s3 s4 s5 s6 s7 s8 s9 s10 s11 s12 s13 s14 s15 s16 : Slot) (r : Env) (p : PV) (h : Free s16) : asg 16 p false (s0 :: s1 :: s2 :: s3 :: s4 :: s5 :: s6 :: s7 :: s8 :: s9 :: s10 :: s11 :: s12 :: s13 :: s14 :: s15 :: s16 :: r) = .ok (s0 :: s1 :: s2 :: s3 :: s4 :: s5 :: s6 :: s7 :: s8 :: s9 :: s10 :: s11 :: s12 :: s13 :: s14 :: s15 :: .val p :: r) := by rw [asg_free (by exact h)]; rfl
@[simp] theorem asg_o16 (s0 s1 s2 s3 s4 s5 s6 s7 s8 s9 s10 s11 s12 s13 s14 s15 s16 : Slot) (r : Env) (p : PV) (h : Free s16) : asg 16 p true (s0 :: s1 :: s2 :: s3 :: s4 :: s5 :: s6 :: s7 :: s8 :: s9 :: s10 :: s11 :: s12 :: s13 :: s14 :: s15 :: s16 :: r) = .ok (s0 :: s1 :: s2 :: s3 :: s4 :: s5 :: s6 :: s7 :: s8 :: s9 :: s10 :: s11 :: s12 :: s13 :: s14 :: s15 :: frS p :: r) := by rw [asg_free (by exact h)]; rfl
@[simp] theorem gS_n17 (s0 s1 s2 s3 s4 s5 s6 s7 s8 s9 s10 s11 s12 s13 s14 s15 s16 s17 : Slot) (r : Env) : gS (s0 :: s1 :: s2 :: s3 :: s4 :: s5 :: s6 :: s7 :: s8 :: s9 :: s10 :: s11 :: s12 :: s13 :: s14 :: s15 :: s16 :: s17 :: r) 17 = s17 := (rfl)
@[simp] theorem sS_n17 (s0 s1 s2 s3 s4 s5 s6 s7 s8 s9 s10 s11 s12 s13 s14 s15 s16 s17 x : Slot) (r : Env) : sS (s0 :: s1 :: s2 :: s3 :: s4 :: s5 :: s6 :: s7 :: s8 :: s9 :: s10 :: s11 :: s12 :: s13 :: s14 :: s15 :: s16 :: s17 :: r) 17 x = s0 :: s1 :: s2 :: s3 :: s4 :: s5 :: s6 :: s7 :: s8 :: s9 :: s10 :: s11 :: s12 :: s13 :: s14 :: s15 :: s16 :: x :: r := (rfl)
@[simp] theorem asg_v17 (s0 s1 s2 s3 s4 s5 s6 s7 s8 s9 s10 s11 s12 s13 s14 s15 s16 s17 : Slot) (r : Env) (p : PV) (h : Free s17) : asg 17 p false (s0 :: s1 :: s2 :: s3 :: s4 :: s5 :: s6 :: s7 :: s8 :: s9 :: s10 :: s11 :: s12 :: s13 :: s14 :: s15 :: s16 :: s17 :: r) = .ok (s0 :: s1 :: s2 :: s3 :: s4 :: s5 :: s6 :: s7 :: s8 :: s9 :: s10 :: s11 :: s12 :: s13 :: s14 :: s15 :: s16 :: .val p :: r) := by rw [asg_free (by exact h)]; rfl
@[simp] theorem asg_o17 (s0 s1 s2 s3 s4 s5 s6 s7 s8 s9 s10 s11 s12 s13 s14 s15 s16 s17 : Slot) (r : Env) (p : PV) (h : Free s17) : asg 17 p true (s0 :: s1 :: s2 :: s3 :: s4 :: s5 :: s6 :: s7 :: s8 :: s9 :: s10 :: s11 :: s12 :: s13 :: s14 :: s15 :: s16 :: s17 :: r) = .ok (s0 :: s1 :: s2 :: s3 :: s4 :: s5 :: s6 :: s7 :: s8 :: s9 :: s10 :: s11 :: s12 :: s13 :: s14 :: s15 :: s16 :: frS p :: r) := by rw [asg_free (by exact h)]; rfl
@[simp] theorem gS_n18 (s0 s1 s2 s3 s4 s5 s6 s7 s8 s9 s10 s11 s12 s13 s14 s15 s16 s17 s18 : Slot) (r : Env) : gS (s0 :: s1 :: s2 :: s3 :: s4 :: s5 :: s6 :: s7 :: s8 :: s9 :: s10 :: s11 :: s12 :: s13 :: s14 :: s15 :: s16 :: s17 :: s18 :: r) 18 = s18 := (rfl)
@[simp] theorem sS_n18 (s0 s1 s2 s3 s4 s5 s6 s7 s8 s9 s10 s11 s12 s13 s14 s15 s16 s17 s18 x : Slot) (r : Env) : sS (s0 :: s1 :: s2 :: s3 :: s4 :: s5 :: s6 :: s7 :: s8 :: s9 :: s10 :: s11 :: s12 :: s13 :: s14 :: s15 :: s16 :: s17 :: s18 :: r) 18 x = s0 :: s1 :: s2 :: s3 :: s4 :: s5 :: s6 :: s7 :: s8 :: s9 :: s10 :: s11 :: s12 :: s13 :: s14 :: s15 :: s16 :: s17 :: x :: r := (rfl)
@[simp] theorem asg_v18 (s0 s1 s2 s3 s4 s5 s6 s7 s8 s9 s10 s11 s12 s13 s14 s15 s16 s17 s18 : Slot) (r : Env) (p : PV) (h : Free s18) : asg 18 p false (s0 :: s1 :: s2 :: s3 :: s4 :: s5 :: s6 :: s7 :: s8 :: s9 :: s10 :: s11 :: s12 :: s13 :: s14 :: s15 :: s16 :: s17 :: s18 :: r) = .ok (s0 :: s1 :: s2 :: s3 :: s4 :: s5 :: s6 :: s7 :: s8 :: s9 :: s10 :: s11 :: s12 :: s13 :: s14 :: s15 :: s16 :: s17 :: .val p :: r) := by rw [asg_free (by exact h)]; rfl
@[simp] theorem asg_o18 (s0 s1 s2 s3 s4 s5 s6 s7 s8 s9 s10 s11 s12 s13 s14 s15 s16 s17 s18 : Slot) (r : Env) (p : PV) (h : Free s18) : asg 18 p true (s0 :: s1 :: s2 :: s3 :: s4 :: s5 :: s6 :: s7 :: s8 :: s9 :: s10 :: s11 :: s12 :: s13 :: s14 :: s15 :: s16 :: s17 :: s18 :: r) = .ok (s0 :: s1 :: s2 :: s3 :: s4 :: s5 :: s6 :: s7 :: s8 :: s9 :: s10 :: s11 :: s12 :: s13 :: s14 :: s15 :: s16 :: s17 :: frS p :: r) := by rw [asg_free (by exact h)]; rfl
@[simp] theorem gS_n19 (s0 s1 s2 s3 s4 s5 s6 s7 s8 s9 s10 s11 s12 s13 s14 s15 s16 s17 s18 s19 : Slot) (r : Env) : gS (s0 :: s1 :: s2 :: s3 :: s4 :: s5 :: s6 :: s7 :: s8 :: s9 :: s10 :: s11 :: s12 :: s13 :: s14 :: s15 :: s16 :: s17 :: s18 :: s19 :: r) 19 = s19 := (rfl)
@[simp] theorem sS_n19 (s0 s1 s2 s3 s4 s5 s6 s7 s8 s9 s10 s11 s12 s13 s14 s15 s16 s17 s18 s19 x : Slot) (r : Env) : sS (s0 :: s1 :: s2 :: s3 :: s4 :: s5 :: s6 :: s7 :: s8 :: s9 :: s10 :: s11 :: s12 :: s13 :: s14 :: s15 :: s16 :: s17 :: s18 :: s19 :: r) 19 x = s0 :: s1 :: s2 :: s3 :: s4 :: s5 :: s6 :: s7 :: s8 :: s9 :: s10 :: s11 :: s12 :: s13 :: s14 :: s15 :: s16 :: s17 :: s18 :: x :: r := (rfl)
@[simp] theorem asg_v19 (s0 s1 s2 s3 s4 s5 s6 s7 s8 s9 s10 s11 s12 s13 s14 s15 s16 s17 s18 s19 : Slot) (r : Env) (p : PV) (h : Free s19) : asg 19 p false (s0 :: s1 :: s2 :: s3 :: s4 :: s5 :: s6 :: s7 :: s8 :: s9 :: s10 :: s11 :: s12 :: s13 :: s14 :: s15 :: s16 :: s17 :: s18 :: s19 :: r) = .ok (s0 :: s1 :: s2 :: s3 :: s4 :: s5 :: s6 :: s7 :: s8 :: s9 :: s10 :: s11 :: s12 :: s13 :: s14 :: s15 :: s16 :: s17 :: s18 :: .val p :: r) := by rw [asg_free (by exact h)]; rfl
@[simp] theorem asg_o19 (s0 s1 s2 s3 s4 s5 s6 s7 s8 s9 s10 s11 s12 s13 s14 s15 s16 s17 s18 s19 : Slot) (r : Env) (p : PV) (h : Free s19) : asg 19 p true (s0 :: s1 :: s2 :: s3 :: s4 :: s5 :: s6 :: s7 :: s8 :: s9 :: s10 :: s11 :: s12 :: s13 :: s14 :: s15 :: s16 :: s17 :: s18 :: s19 :: r) = .ok (s0 :: s1 :: s2 :: s3 :: s4 :: s5 :: s6 :: s7 :: s8 :: s9 :: s10 :: s11 :: s12 :: s13 :: s14 :: s15 :: s16 :: s17 :: s18 :: frS p :: r) := by rw [asg_free (by exact h)]; rfl
@[simp] theorem gS_n20 (s0 s1 s2 s3 s4 s5 s6 s7 s8 s9 s10 s11 s12 s13 s14 s15 s16 s17 s18 s19 s20 : Slot) (r : Env) : gS (s0 :: s1 :: s2 :: s3 :: s4 :: s5 :: s6 :: s7 :: s8 :: s9 :: s10 :: s11 :: s12 :: s13 :: s14 :: s15 :: s16 :: s17 :: s18 :: s19 :: s20 :: r) 20 = s20 := (rfl)
@[simp] theorem sS_n20 (s0 s1 s2 s3 s4 s5 s6 s7 s8 s9 s10 s11 s12 s13 s14 s15 s16 s17 s18 s19 s20 x : Slot) (r : Env) : sS (s0 :: s1 :: s2 :: s3 :: s4 :: s5 :: s6 :: s7 :: s8 :: s9 :: s10 :: s11 :: s12 :: s13 :: s14 :: s15 :: s16 :: s17 :: s18 :: s19 :: s20 :: r) 20 x = s0 :: s1 :: s2 :: s3 :: s4 :: s5 :: s6 :: s7 :: s8 :: s9 :: s10 :: s11 :: s12 :: s13 :: s14 :: s15 :: s16 :: s17 :: s18 :: s19 :: x :: r := (rfl)
@[simp] theorem asg_v20 (s0 s1 s2 s3 s4 s5 s6 s7 s8 s9 s10 s11 s12 s13 s14 s15 s16 s17 s18 s19 s20 : Slot) (r : Env) (p : PV) (h : Free s20) : asg 20 p false (s0 :: s1 :: s2 :: s3 :: s4 :: s5 :: s6 :: s7 :: s8 :: s9 :: s10 :: s11 :: s12 :: s13 :: s14 :: s15 :: s16 :: s17 :: s18 :: s19 :: s20 :: r) = .ok (s0 :: s1 :: s2 :: s3 :: s4 :: s5 :: s6 :: s7 :: s8 :: s9 :: s10 :: s11 :: s12 :: s13 :: s14 :: s15 :: s16 :: s17 :: s18 :: s19 :: .val p :: r) := by rw [asg_free (by exact h)]; rfl
@[simp] theorem asg_o20 (s0 s1 s2 s3 s4 s5 s6 s7 s8 s9 s10 s11 s12 s13 s14 s15 s16 s17 s18 s19 s20 : Slot) (r : Env) (p : PV) (h : Free s20) : asg 20 p true (s0 :: s1 :: s2 :: s3 :: s4 :: s5 :: s6 :: s7 :: s8 :: s9 :: s10 :: s11 :: s12 :: s13 :: s14 :: s15 :: s16 :: s17 :: s18 :: s19 :: s20 :: r) = .ok (s0 :: s1 :: s2 :: s3 :: s4 :: s5 :: s6 :: s7 :: s8 :: s9 :: s10 :: s11 :: s12 :: s13 :: s14 :: s15 :: s16 :: s17 :: s18 :: s19 :: frS p :: r) := by rw [asg_free (by exact h)]; rfl
@[simp] theorem gS_n21 (s0 s1 s2 s3 s4 s5 s6 s7 s8 s9 s10 s11 s12 s13 s14 s15 s16 s17 s18 s19 s20 s21 : Slot) (r : Env) : gS (s0 :: s1 :: s2 :: s3 :: s4 :: s5 :: s6 :: s7 :: s8 :: s9 :: s10 :: s11 :: s12 :: s13 :: s14 :: s15 :: s16 :: s17 :: s18 :: s19 :: s20 :: s21 :: r) 21 = s21 := (rfl)
@[simp] theorem sS_n21 (s0 s1 s2 s3 s4 s5 s6 s7 s8 s9 s10 s11 s12 s13 s14 s15 s16 s17 s18 s19 s20 s21 x : Slot) (r : Env) : sS (s0 :: s1 :: s2 :: s3 :: s4 :: s5 :: s6 :: s7 :: s8 :: s9 :: s10 :: s11 :: s12 :: s13 :: s14 :: s15 :: s16 :: s17 :: s18 :: s19 :: s20 :: s21 :: r) 21 x = s0 :: s1 :: s2 :: s3 :: s4 :: s5 :: s6 :: s7 :: s8 :: s9 :: s10 :: s11 :: s12 :: s13 :: s14 :: s15 :: s16 :: s17 :: s18 :: s19 :: s20 :: x :: r := (rfl)
@[simp] theorem asg_v21 (s0 s1 s2 s3 s4 s5 s6 s7 s8 s9 s10 s11 s12 s13 s14 s15 s16 s17 s18 s19 s20 s21 : Slot) (r : Env) (p : PV) (h : Free s21) : asg 21 p false (s0 :: s1 :: s2 :: s3 :: s4 :: s5 :: s6 :: s7 :: s8 :: s9 :: s10 :: s11 :: s12 :: s13 :: s14 :: s15 :: s16 :: s17 :: s18 :: s19 :: s20 :: s21 :: r) = .ok (s0 :: s1 :: s2 :: s3 :: s4 :: s5 :: s6 :: s7 :: s8 :: s9 :: s10 :: s11 :: s12 :: s13 :: s14 :: s15 :: s16 :: s17 :: s18 :: s19 :: s20 :: .val p :: r) := by rw [asg_free (by exact h)]; rfl
@[simp] theorem asg_o21 (s0 s1 s2 s3 s4 s5 s6 s7 s8 s9 s10 s11 s12 s13 s14 s15 s16 s17 s18 s19 s20 s21 : Slot) (r : Env) (p : PV) (h : Free s21) : asg 21 p true (s0 :: s1 :: s2 :: s3 :: s4 :: s5 :: s6 :: s7 :: s8 :: s9 :: s10 :: s11 :: s12 :: s13 :: s14 :: s15 :: s16 :: s17 :: s18 :: s19 :: s20 :: s21 :: r) = .ok (s0 :: s1 :: s2 :: s3 :: s4 :: s5 :: s6 :: s7 :: s8 :: s9 :: s10 :: s11 :: s12 :: s13 :: s14 :: s15 :: s16 :: s17 :: s18 :: s19 :: s20 :: frS p :: r) := by rw [asg_free (by exact h)]; rfl
@[simp] theorem gS_n22 (s0 s1 s2 s3 s4 s5 s6 s7 s8 s9 s10 s11 s12 s13 s14 s15 s16 s17 s18 s19 s20 s21 s22 : Slot) (r : Env) : gS (s0 :: s1 :: s2 :: s3 :: s4 :: s5 :: s6 :: s7 :: s8 :: s9 :: s10 :: s11 :: s12 :: s13 :: s14 :: s15 :: s16 :: s17 :: s18 :: s19 :: s20 :: s21 :: s22 :: r) 22 = s22 := (rfl)
@[simp] theorem sS_n22 (s0 s1 s2 s3 s4 s5 s6 s7 s8 s9 s10 s11 s12 s13 s14 s15 s16 s17 s18 s19 s20 s21 s22 x : Slot) (r : Env) : sS (s0 :: s1 :: s2 :: s3 :: s4 :: s5 :: s6 :: s7 :: s8 :: s9 :: s10 :: s11 :: s12 :: s13 :: s14 :: s15 :: s16 :: s17 :: s18 :: s19 :: s20 :: s21 :: s22 :: r) 22 x = s0 :: s1 :: s2 :: s3 :: s4 :: s5 :: s6 :: s7 :: s8 :: s9 :: s10 :: s11 :: s12 :: s13 :: s14 :: s15 :: s16 :: s17 :: s18 :: s19 :: s20 :: s21 :: x :: r := (rfl)
@[simp] theorem asg_v22 (s0 s1 s2 s3 s4 s5 s6 s7 s8 s9 s10 s11 s12 s13 s14 s15 s16 s17 s18 s19 s20 s21 s22 : Slot) (r : Env) (p : PV) (h : Free s22) : asg 22 p false (s0 :: s1 :: s2 :: s3 :: s4 :: s5 :: s6 :: s7 :: s8 :: s9 :: s10 :: s11 :: s12 :: s13 :: s14 :: s15 :: s16 :: s17 :: s18 :: s19 :: s20 :: s21 :: s22 :: r) = .ok (s0 :: s1 :: s2 :: s3 :: s4 :: s5 :: s6 :: s7 :: s8 :: s9 :: s10 :: s11 :: s12 :: s13 :: s14 :: s15 :: s16 :: s17 :: s18 :: s19 :: s20 :: s21 :: .val p :: r) := by rw [asg_free (by exact h)]; rfl
@[simp] theorem asg_o22 (s0 s1 s2 s3 s4 s5 s6 s7 s8 s9 s10 s11 s12 s13 s14 s15 s16 s17 s18 s19 s20 s21 s22 : Slot) (r : Env) (p : PV) (h : Free s22) : asg 22 p true (s0 :: s1 :: s2 :: s3 :: s4 :: s5 :: s6 :: s7 :: s8 :: s9 :: s10 :: s11 :: s12 :: s13 :: s14 :: s15 :: s16 :: s17 :: s18 :: s19 :: s20 :: s21 :: s22 :: r) = .ok (s0 :: s1 :: s2 :: s3 :: s4 :: s5 :: s6 :: s7 :: s8 :: s9 :: s10 :: s11 :: s12 :: s13 :: s14 :: s15 :: s16 :: s17 :: s18 :: s19 :: s20 :: s21 :: frS p :: r) := by rw [asg_free (by exact h)]; rfl
@[simp] theorem gS_n23 (s0 s1 s2 s3 s4 s5 s6 s7 s8 s9 s10 s11 s12 s13 s14 s15 s16 s17 s18 s19 s20 s21 s22 s23 : Slot) (r : Env) : gS (s0 :: s1 :: s2 :: s3 :: s4 :: s5 :: s6 :: s7 :: s8 :: s9 :: s10 :: s11 :: s12 :: s13 :: s14 :: s15 :: s16 :: s17 :: s18 :: s19 :: s20 :: s21 :: s22 :: s23 :: r) 23 = s23 := (rfl)
@[simp] theorem sS_n23 (s0 s1 s2 s3 s4 s5 s6 s7 s8 s9 s10 s11 s12 s13 s14 s15 s16 s17 s18 s19 s20 s21 s22 s23 x : Slot) (r : Env) : sS (s0 :: s1 :: s2 :: s3 :: s4 :: s5 :: s6 :: s7 :: s8 :: s9 :: s10 :: s11 :: s12 :: s13 :: s14 :: s15 :: s16 :: s17 :: s18 :: s19 :: s20 :: s21 :: s22 :: s23 :: r) 23 x = s0 :: s1 :: s2 :: s3 :: s4 :: s5 :: s6 :: s7 :: s8 :: s9 :: s10 :: s11 :: s12 :: s13 :: s14 :: s15 :: s16 :: s17 :: s18 :: s19 :: s20 :: s21 :: s22 :: x :: r := (rfl)
@[simp] theorem asg_v23 (s0 s1 s2 s3 s4 s5 s6 s7 s8 s9 s10 s11 s12 s13 s14 s15 s16 s17 s18 s19 s20 s21 s22 s23 : Slot) (r : Env) (p : PV) (h : Free s23) : asg 23 p false (s0 :: s1 :: s2 :: s3 :: s4 :: s5 :: s6 :: s7 :: s8 :: s9 :: s10 :: s11 :: s12 :: s13 :: s14 :: s15 :: s16 :: s17 :: s18 :: s19 :: s20 :: s21 :: s22 :: s23 :: r) = .ok (s0 :: s1 :: s2 :: s3 :: s4 :: s5 :: s6 :: s7 :: s8 :: s9 :: s10 :: s11 :: s12 :: s13 :: s14 :: s15 :: s16 :: s17 :: s18 :: s19 :: s20 :: s21 :: s22 :: .val p :: r) := by rw [asg_free (by exact h)]; rfl
@[simp] theorem asg_o23 (s0 s1 s2 s3 s4 s5 s6 s7 s8 s9 s10 s11 s12 s13 s14 s15 s16 s17 s18 s19 s20 s21 s22 s23 : Slot) (r : Env) (p : PV) (h : Free s23) : asg 23 p true (s0 :: s1 :: s2 :: s3 :: s4 :: s5 :: s6 :: s7 :: s8 :: s9 :: s10 :: s11 :: s12 :: s13 :: s14 :: s15 :: s16 :: s17 :: s18 :: s19 :: s20 :: s21 :: s22 :: s23 :: r) = .ok (s0 :: s1 :: s2 :: s3 :: s4 :: s5 :: s6 :: s7 :: s8 :: s9 :: s10 :: s11 :: s12 :: s13 :: s14 :: s15 :: s16 :: s17 :: s18 :: s19 :: s20 :: s21 :: s22 :: frS p :: r) := by rw [asg_free (by exact h)]; rfl
@[simp] theorem gS_n24 (s0 s1 s2 s3 s4 s5 s6 s7 s8 s9 s10 s11 s12 s13 s14 s15 s16 s17 s18 s19 s20 s21 s22 s23 s24 : Slot) (r : Env) : gS (s0 :: s1 :: s2 :: s3 :: s4 :: s5 :: s6 :: s7 :: s8 :: s9 :: s10 :: s11 :: s12 :: s13 :: s14 :: s15 :: s16 :: s17 :: s18 :: s19 :: s20 :: s21 :: s22 :: s23 :: s24 :: r) 24 = s24 := (rfl)
@[simp] theorem sS_n24 (s0 s1 s2 s3 s4 s5 s6 s7 s8 s9 s10 s11 s12 s13 s14 s15 s16 s17 s18 s19 s20 s21 s22 s23 s24 x : Slot) (r : Env) : sS (s0 :: s1 :: s2 :: s3 :: s4 :: s5 :: s6 :: s7 :: s8 :: s9 :: s10 :: s11 :: s12 :: s13 :: s14 :: s15 :: s16 :: s17 :: s18 :: s19 :: s20 :: s21 :: s22 :: s23 :: s24 :: r) 24 x = s0 :: s1 :: s2 :: s3 :: s4 :: s5 :: s6 :: s7 :: s8 :: s9 :: s10 :: s11 :: s12 :: s13 :: s14 :: s15 :: s16 :: s17 :: s18 :: s19 :: s20 :: s21 :: s22 :: s23 :: x :: r := (rfl)
@[simp] theorem asg_v24 (s0 s1 s2 s3 s4 s5 s6 s7 s8 s9 s10 s11 s12 s13 s14 s15 s16 s17 s18 s19 s20 s21 s22 s23 s24 : Slot) (r : Env) (p : PV) (h : Free s24) : asg 24 p false (s0 :: s1 :: s2 :: s3 :: s4 :: s5 :: s6 :: s7 :: s8 :: s9 :: s10 :: s11 :: s12 :: s13 :: s14 :: s15 :: s16 :: s17 :: s18 :: s19 :: s20 :: s21 :: s22 :: s23 :: s24 :: r) = .ok (s0 :: s1 :: s2 :: s3 :: s4 :: s5 :: s6 :: s7 :: s8 :: s9 :: s10 :: s11 :: s12 :: s13 :: s14 :: s15 :: s16 :: s17 :: s18 :: s19 :: s20 :: s21 :: s22 :: s23 :: .val p :: r) := by rw [asg_free (by exact h)]; rfl
@[simp] theorem asg_o24 (s0 s1 s2 s3 s4 s5 s6 s7 s8 s9 s10 s11 s12 s13 s14 s15 s16 s17 s18 s19 s20 s21 s22 s23 s24 : Slot) (r : Env) (p : PV) (h : Free s24) : asg 24 p true (s0 :: s1 :: s2 :: s3 :: s4 :: s5 :: s6 :: s7 :: s8 :: s9 :: s10 :: s11 :: s12 :: s13 :: s14 :: s15 :: s16 :: s17 :: s18 :: s19 :: s20 :: s21 :: s22 :: s23 :: s24 :: r) = .ok (s0 :: s1 :: s2 :: s3 :: s4 :: s5 :: s6 :: s7 :: s8 :: s9 :: s10 :: s11 :: s12 :: s13 :: s14 :: s15 :: s16 :: s17 :: s18 :: s19 :: s20 :: s21 :: s22 :: s23 :: frS p :: r) := by rw [asg_free (by exact h)]; rfl
@[simp] theorem gS_n25 (s0 s1 s2 s3 s4 s5 s6 s7 s8 s9 s10 s11 s12 s13 s14 s15 s16 s17 s18 s19 s20 s21 s22 s23 s24 s25 : Slot) (r : Env) : gS (s0 :: s1 :: s2 :: s3 :: s4 :: s5 :: s6 :: s7 :: s8 :: s9 :: s10 :: s11 :: s12 :: s13 :: s14 :: s15 :: s16 :: s17 :: s18 :: s19 :: s20 :: s21 :: s22 :: s23 :: s24 :: s25 :: r) 25 = s25 := (rfl)
@[simp] theorem sS_n25 (s0 s1 s2 s3 s4 s5 s6 s7 s8 s9 s10 s11 s12 s13 s14 s15 s16 s17 s18 s19 s20 s21 s22 s23 s24 s25 x : Slot) (r : Env) : sS (s0 :: s1 :: s2 :: s3 :: s4 :: s5 :: s6 :: s7 :: s8 :: s9 :: s10 :: s11 :: s12 :: s13 :: s14 :: s15 :: s16 :: s17 :: s18 :: s19 :: s20 :: s21 :: s22 :: s23 :: s24 :: s25 :: r) 25 x = s0 :: s1 :: s2 :: s3 :: s4 :: s5 :: s6 :: s7 :: s8 :: s9 :: s10 :: s11 :: s12 :: s13 :: s14 :: s15 :: s16 :: s17 :: s18 :: s19 :: s20 :: s21 :: s22 :: s23 :: s24 :: x :: r := (rfl)
@[simp] theorem asg_v25 (s0 s1 s2 s3 s4 s5 s6 s7 s8 s9 s10 s11 s12 s13 s14 s15 s16 s17 s18 s19 s20 s21 s22 s23 s24 s25 : Slot) (r : Env) (p : PV) (h : Free s25) : asg 25 p false (s0 :: s1 :: s2 :: s3 :: s4 :: s5 :: s6 :: s7 :: s8 :: s9 :: s10 :: s11 :: s12 :: s13 :: s14 :: s15 :: s16 :: s17 :: s18 :: s19 :: s20 :: s21 :: s22 :: s23 :: s24 :: s25 :: r) = .ok (s0 :: s1 :: s2 :: s3 :: s4 :: s5 :: s6 :: s7 :: s8 :: s9 :: s10 :: s11 :: s12 :: s13 :: s14 :: s15 :: s16 :: s17 :: s18 :: s19 :: s20 :: s21 :: s22 :: s23 :: s24 :: .val p :: r) := by rw [asg_free (by exact h)]; rfl
@[simp] theorem asg_o25 (s0 s1 s2 s3 s4 s5 s6 s7 s8 s9 s10 s11 s12 s13 s14 s15 s16 s17 s18 s19 s20 s21 s22 s23 s24 s25 : Slot) (r : Env) (p : PV) (h : Free s25) : asg 25 p true (s0 :: s1 :: s2 :: s3 :: s4 :: s5 :: s6 :: s7 :: s8 :: s9 :: s10 :: s11 :: s12 :: s13 :: s14 :: s15 :: s16 :: s17 :: s18 :: s19 :: s20 :: s21 :: s22 :: s23 :: s24 :: s25 :: r) = .ok (s0 :: s1 :: s2 :: s3 :: s4 :: s5 :: s6 :: s7 :: s8 :: s9 :: s10 :: s11 :: s12 :: s13 :: s14 :: s15 :: s16 :: s17 :: s18 :: s19 :: s20 :: s21 :: s22 :: s23 :: s24 :: frS p :: r) := by rw [asg_free (by exact h)]; rfl
def litL (xs : List PV) (l : Option Nat) (ρ : Env) : R (PV × Bool × Env) := if xs.length ≤ LIM then .ok (.lst xs, true, unlock l ρ) else .stuck
def litT (xs : List PV) (l : Option Nat) (ρ : Env) : R (PV × Bool × Env) := if xs.length ≤ LIM then .ok (.tup xs, false, unlock l ρ) else .stuck
@[simp] theorem litL_ok {xs : List PV} {l : Option Nat} {ρ : Env} (h : xs.length ≤ 16777216) : litL xs l ρ = .ok (.lst xs, true, unlock l ρ) := if_pos h
@[simp] theorem litT_ok {xs : List PV} {l : Option Nat} {ρ : Env} (h : xs.length ≤ 16777216) : litT xs l ρ = .ok (.tup xs, false, unlock l ρ) := if_pos h
def chB : PV → R Bool
  | .bl b => .ok b
  | _ => .stuck
@[simp] theorem chB_bl (b : Bool) : chB (.bl b) = .ok b := (rfl)
def tsB : PV × Bool × Env → R (Bool × Env)
  | (.bl b, _, ρ) => .ok (b, ρ)
  | _ => .stuck
@[simp] theorem tsB_bl (b n : Bool) (ρ : Env) : tsB (.bl b, n, ρ) = .ok (b, ρ) := (rfl)
@[simp] theorem tst_ap (d : Ev) (F : FE) (ρ : Env) : tst d F ρ = (d F ρ).bind tsB := by
  unfold tst
  congr 1
  funext ⟨p, n, ρ1⟩
  cases p <;> rfl
/-- one of two -/
def cnd {α : Type} (k : Bool) (a b : α) : α := if k then a else b
@[simp] theorem cnd_true {α : Type} (a b : α) : cnd true a b = a := (rfl)
@[simp] theorem cnd_false {α : Type} (a b : α) : cnd false a b = b := (rfl)
def gi {α : Type} (k : Bool) (a : R α) : R α := if k then a else .stuck
@[simp] theorem gi_true {α : Type} (a : R α) : gi true a = a := (rfl)
theorem cnd_congr {α : Type} {k l : Bool} (a b : α) (h : k = l) : cnd k a b = cnd l a b := by rw [h]
theorem gi_congr {α : Type} {k l : Bool} (a : R α) (h : k = l) : gi k a = gi l a := by rw [h]
/-- what stands behind a statement -/
def thn (x : R (Flow × Env)) (b : Sx) (F : FE) : R (Flow × Env) := x.bind fun r => match r.1 with
  | .nx => b F r.2
  | .rt p n => .ok (.rt p n, r.2)
theorem thn_congr {x y : R (Flow × Env)} (b : Sx) (F : FE) (h : x = y) : thn x b F = thn y b F := by rw [h]
@[simp] theorem thn_nx (ρ : Env) (b : Sx) (F : FE) : thn (.ok (.nx, ρ)) b F = b F ρ := (rfl)
@[simp] theorem thn_rt (p : PV) (n : Bool) (ρ : Env) (b : Sx) (F : FE) : thn (.ok (.rt p n, ρ)) b F = .ok (.rt p n, ρ) := (rfl)
@[simp] theorem thn_exn (c : Nat) (b : Sx) (F : FE) : thn (.exn c) b F = .exn c := (rfl)
@[simp] theorem sSeq_ap (a b : Sx) (F : FE) (ρ : Env) : sSeq a b F ρ = thn (a F ρ) b F := by
  unfold sSeq thn
  congr 1
theorem Ret.thn {x : R (Flow × Env)} {b : Sx} {F : FE} {Q : Env → Prop} {P : Flow × Env → Prop} (h : Ret x fun r => r.1 = .nx ∧ Q r.2) (k : ∀ ρ, Q ρ → Ret (b F ρ) P) : Ret (Ice.thn x b F) P := by
  obtain ⟨⟨f, ρ⟩, rfl, rfl, q⟩ := h
  exact k ρ q

def Kag2 (s : Slot) : List Slot → R (List Slot) := fun ss => .ok (s :: ss)
@[simp] theorem Kag2_ap (s : Slot) (ss : List Slot) : Kag2 s ss = .ok (s :: ss) := (rfl)
def Kv (ρ : Env) : PV × Bool → R (PV × Bool × Env) := fun zz => match zz with | (v, n) => .ok (v, n, ρ)
@[simp] theorem Kv_ap (ρ : Env) (v : PV) (n : Bool) : Kv ρ (v, n) = .ok (v, n, ρ) := (rfl)
def K1a (f : PV → Out) (ρ : Env) : PV → R (PV × Bool × Env) := fun p => (f p).bind (Kv ρ)
@[simp] theorem K1a_ap (f : PV → Out) (ρ : Env) (p : PV) : K1a f ρ p = (f p).bind (Kv ρ) := (rfl)
def K1 (f : PV → Out) : Opd × Env → R (PV × Bool × Env) := fun zz => match zz with | (x, ρ) => (deref ρ x).bind (K1a f ρ)
@[simp] theorem K1_ap (f : PV → Out) (x : Opd) (ρ : Env) : K1 f (x, ρ) = (deref ρ x).bind (K1a f ρ) := (rfl)
def K2c (f : PV → PV → Out) (p : PV) (ρ : Env) : PV → R (PV × Bool × Env) := fun q => (f p q).bind (Kv ρ)
@[simp] theorem K2c_ap (f : PV → PV → Out) (p : PV) (ρ : Env) (q : PV) : K2c f p ρ q = (f p q).bind (Kv ρ) := (rfl)
def K2b (f : PV → PV → Out) (y : Opd) (ρ : Env) : PV → R (PV × Bool × Env) := fun p => (deref ρ y).bind (K2c f p ρ)
@[simp] theorem K2b_ap (f : PV → PV → Out) (y : Opd) (ρ : Env) (p : PV) : K2b f y ρ p = (deref ρ y).bind (K2c f p ρ) := (rfl)
def K2a (f : PV → PV → Out) (x : Opd) : Opd × Env → R (PV × Bool × Env) := fun zz => match zz with | (y, ρ) => (deref ρ x).bind (K2b f y ρ)
@[simp] theorem K2a_ap (f : PV → PV → Out) (x : Opd) (y : Opd) (ρ : Env) : K2a f x (y, ρ) = (deref ρ x).bind (K2b f y ρ) := (rfl)
def K2 (f : PV → PV → Out) (b : Op) (F : FE) : Opd × Env → R (PV × Bool × Env) := fun zz => match zz with | (x, ρ) => (b F ρ).bind (K2a f x)
@[simp] theorem K2_ap (f : PV → PV → Out) (b : Op) (F : FE) (x : Opd) (ρ : Env) : K2 f b F (x, ρ) = (b F ρ).bind (K2a f x) := (rfl)
def K3d (f : PV → PV → PV → Out) (p q : PV) (ρ : Env) : PV → R (PV × Bool × Env) := fun r => (f p q r).bind (Kv ρ)
@[simp] theorem K3d_ap (f : PV → PV → PV → Out) (p q : PV) (ρ : Env) (r : PV) : K3d f p q ρ r = (f p q r).bind (Kv ρ) := (rfl)
def K3c (f : PV → PV → PV → Out) (z : Opd) (p : PV) (ρ : Env) : PV → R (PV × Bool × Env) := fun q => (deref ρ z).bind (K3d f p q ρ)
@[simp] theorem K3c_ap (f : PV → PV → PV → Out) (z : Opd) (p : PV) (ρ : Env) (q : PV) : K3c f z p ρ q = (deref ρ z).bind (K3d f p q ρ) := (rfl)
def K3b (f : PV → PV → PV → Out) (y z : Opd) (ρ : Env) : PV → R (PV × Bool × Env) := fun p => (deref ρ y).bind (K3c f z p ρ)
@[simp] theorem K3b_ap (f : PV → PV → PV → Out) (y z : Opd) (ρ : Env) (p : PV) : K3b f y z ρ p = (deref ρ y).bind (K3c f z p ρ) := (rfl)
def K3a (f : PV → PV → PV → Out) (x y : Opd) : Opd × Env → R (PV × Bool × Env) := fun zz => match zz with | (z, ρ) => (deref ρ x).bind (K3b f y z ρ)
@[simp] theorem K3a_ap (f : PV → PV → PV → Out) (x y : Opd) (z : Opd) (ρ : Env) : K3a f x y (z, ρ) = (deref ρ x).bind (K3b f y z ρ) := (rfl)
def K3g (f : PV → PV → PV → Out) (c : Op) (F : FE) (x : Opd) : Opd × Env → R (PV × Bool × Env) := fun zz => match zz with | (y, ρ) => (c F ρ).bind (K3a f x y)
@[simp] theorem K3g_ap (f : PV → PV → PV → Out) (c : Op) (F : FE) (x : Opd) (y : Opd) (ρ : Env) : K3g f c F x (y, ρ) = (c F ρ).bind (K3a f x y) := (rfl)
def K3ga (ok : PV → Bool) (f : PV → PV → PV → Out) (b c : Op) (F : FE) (x : Opd) (ρ : Env) : PV → R (PV × Bool × Env) := fun o => gi (ok o) ((b F ρ).bind (K3g f c F x))
@[simp] theorem K3ga_ap (ok : PV → Bool) (f : PV → PV → PV → Out) (b c : Op) (F : FE) (x : Opd) (ρ : Env) (o : PV) : K3ga ok f b c F x ρ o = gi (ok o) ((b F ρ).bind (K3g f c F x)) := (rfl)
def K3gg (ok : PV → Bool) (f : PV → PV → PV → Out) (b c : Op) (F : FE) : Opd × Env → R (PV × Bool × Env) := fun zz => match zz with | (x, ρ) => (deref ρ x).bind (K3ga ok f b c F x ρ)
@[simp] theorem K3gg_ap (ok : PV → Bool) (f : PV → PV → PV → Out) (b c : Op) (F : FE) (x : Opd) (ρ : Env) : K3gg ok f b c F (x, ρ) = (deref ρ x).bind (K3ga ok f b c F x ρ) := (rfl)
def K2ga (ok : PV → Bool) (f : PV → PV → Out) (b : Op) (F : FE) (x : Opd) (ρ : Env) : PV → R (PV × Bool × Env) := fun o => gi (ok o) ((b F ρ).bind (K2a f x))
@[simp] theorem K2ga_ap (ok : PV → Bool) (f : PV → PV → Out) (b : Op) (F : FE) (x : Opd) (ρ : Env) (o : PV) : K2ga ok f b F x ρ o = gi (ok o) ((b F ρ).bind (K2a f x)) := (rfl)
def K2g (ok : PV → Bool) (f : PV → PV → Out) (b : Op) (F : FE) : Opd × Env → R (PV × Bool × Env) := fun zz => match zz with | (x, ρ) => (deref ρ x).bind (K2ga ok f b F x ρ)
@[simp] theorem K2g_ap (ok : PV → Bool) (f : PV → PV → Out) (b : Op) (F : FE) (x : Opd) (ρ : Env) : K2g ok f b F (x, ρ) = (deref ρ x).bind (K2ga ok f b F x ρ) := (rfl)
def KC6 (g : PV → PV → Out) (y : Opd) : Opd × Env → R (PV × Bool × Env) := fun zz => match zz with | (z, ρ) => (deref ρ y).bind (K2b g z ρ)
@[simp] theorem KC6_ap (g : PV → PV → Out) (y : Opd) (z : Opd) (ρ : Env) : KC6 g y (z, ρ) = (deref ρ y).bind (K2b g z ρ) := (rfl)
def KC5 (g : PV → PV → Out) (c : Op) (F : FE) (y : Opd) (ρ : Env) : Bool → R (PV × Bool × Env) := fun k => cnd k ((c F ρ).bind (KC6 g y)) (.ok (.bl false, false, ρ))
@[simp] theorem KC5_ap (g : PV → PV → Out) (c : Op) (F : FE) (y : Opd) (ρ : Env) (k : Bool) : KC5 g c F y ρ k = cnd k ((c F ρ).bind (KC6 g y)) (.ok (.bl false, false, ρ)) := (rfl)
def KC4 (g : PV → PV → Out) (c : Op) (F : FE) (y : Opd) (ρ : Env) : PV × Bool → R (PV × Bool × Env) := fun zz => match zz with | (v, n) => (chB v).bind (KC5 g c F y ρ)
@[simp] theorem KC4_ap (g : PV → PV → Out) (c : Op) (F : FE) (y : Opd) (ρ : Env) (v : PV) (n : Bool) : KC4 g c F y ρ (v, n) = (chB v).bind (KC5 g c F y ρ) := (rfl)
def KC3 (f g : PV → PV → Out) (c : Op) (F : FE) (y : Opd) (p : PV) (ρ : Env) : PV → R (PV × Bool × Env) := fun q => (f p q).bind (KC4 g c F y ρ)
@[simp] theorem KC3_ap (f g : PV → PV → Out) (c : Op) (F : FE) (y : Opd) (p : PV) (ρ : Env) (q : PV) : KC3 f g c F y p ρ q = (f p q).bind (KC4 g c F y ρ) := (rfl)
def KC2 (f g : PV → PV → Out) (c : Op) (F : FE) (y : Opd) (ρ : Env) : PV → R (PV × Bool × Env) := fun p => (deref ρ y).bind (KC3 f g c F y p ρ)
@[simp] theorem KC2_ap (f g : PV → PV → Out) (c : Op) (F : FE) (y : Opd) (ρ : Env) (p : PV) : KC2 f g c F y ρ p = (deref ρ y).bind (KC3 f g c F y p ρ) := (rfl)
def KC1 (f g : PV → PV → Out) (c : Op) (F : FE) (x : Opd) : Opd × Env → R (PV × Bool × Env) := fun zz => match zz with | (y, ρ) => (deref ρ x).bind (KC2 f g c F y ρ)
@[simp] theorem KC1_ap (f g : PV → PV → Out) (c : Op) (F : FE) (x : Opd) (y : Opd) (ρ : Env) : KC1 f g c F x (y, ρ) = (deref ρ x).bind (KC2 f g c F y ρ) := (rfl)
def KC (f g : PV → PV → Out) (b c : Op) (F : FE) : Opd × Env → R (PV × Bool × Env) := fun zz => match zz with | (x, ρ) => (b F ρ).bind (KC1 f g c F x)
@[simp] theorem KC_ap (f g : PV → PV → Out) (b c : Op) (F : FE) (x : Opd) (ρ : Env) : KC f g b c F (x, ρ) = (b F ρ).bind (KC1 f g c F x) := (rfl)
def KoE  : PV × Bool × Env → R (Opd × Env) := fun zz => match zz with | (p, n, ρ) => .ok (.val p, ρ)
@[simp] theorem KoE_ap  (p : PV) (n : Bool) (ρ : Env) : KoE  (p, n, ρ) = .ok (.val p, ρ) := (rfl)
def Kev2 (p : PV) : List PV × Env → R (List PV × Env) := fun zz => match zz with | (ps, ρ) => .ok (p :: ps, ρ)
@[simp] theorem Kev2_ap (p : PV) (ps : List PV) (ρ : Env) : Kev2 p (ps, ρ) = .ok (p :: ps, ρ) := (rfl)
def Kev (ds : List Ev) (F : FE) : PV × Bool × Env → R (List PV × Env) := fun zz => match zz with | (p, n, ρ) => (evs ds F ρ).bind (Kev2 p)
@[simp] theorem Kev_ap (ds : List Ev) (F : FE) (p : PV) (n : Bool) (ρ : Env) : Kev ds F (p, n, ρ) = (evs ds F ρ).bind (Kev2 p) := (rfl)
def Kef2 (p : PV) (n : Bool) : List (PV × Bool) × Env → R (List (PV × Bool) × Env) := fun zz => match zz with | (ps, ρ) => .ok ((p, n) :: ps, ρ)
@[simp] theorem Kef2_ap (p : PV) (n : Bool) (ps : List (PV × Bool)) (ρ : Env) : Kef2 p n (ps, ρ) = .ok ((p, n) :: ps, ρ) := (rfl)
def Kef (ds : List Ev) (F : FE) : PV × Bool × Env → R (List (PV × Bool) × Env) := fun zz => match zz with | (p, n, ρ) => (evsF ds F ρ).bind (Kef2 p n)
@[simp] theorem Kef_ap (ds : List Ev) (F : FE) (p : PV) (n : Bool) (ρ : Env) : Kef ds F (p, n, ρ) = (evsF ds F ρ).bind (Kef2 p n) := (rfl)
def Kop2 (p : Opd) : List Opd × Env → R (List Opd × Env) := fun zz => match zz with | (ps, ρ) => .ok (p :: ps, ρ)
@[simp] theorem Kop2_ap (p : Opd) (ps : List Opd) (ρ : Env) : Kop2 p (ps, ρ) = .ok (p :: ps, ρ) := (rfl)
def Kop (ds : List Op) (F : FE) : Opd × Env → R (List Opd × Env) := fun zz => match zz with | (p, ρ) => (ops ds F ρ).bind (Kop2 p)
@[simp] theorem Kop_ap (ds : List Op) (F : FE) (p : Opd) (ρ : Env) : Kop ds F (p, ρ) = (ops ds F ρ).bind (Kop2 p) := (rfl)
def KT  : List PV × Env → R (PV × Bool × Env) := fun zz => match zz with | (ps, ρ) => .ok (.tup ps, false, ρ)
@[simp] theorem KT_ap  (ps : List PV) (ρ : Env) : KT  (ps, ρ) = .ok (.tup ps, false, ρ) := (rfl)
def KL  : List PV × Env → R (PV × Bool × Env) := fun zz => match zz with | (ps, ρ) => .ok (.lst ps, true, ρ)
@[simp] theorem KL_ap  (ps : List PV) (ρ : Env) : KL  (ps, ρ) = .ok (.lst ps, true, ρ) := (rfl)
def Kand (b : Ev) (F : FE) : Bool × Env → R (PV × Bool × Env) := fun zz => match zz with | (c, ρ) => cnd c (b F ρ) (.ok (.bl false, false, ρ))
@[simp] theorem Kand_ap (b : Ev) (F : FE) (c : Bool) (ρ : Env) : Kand b F (c, ρ) = cnd c (b F ρ) (.ok (.bl false, false, ρ)) := (rfl)
def Kor (b : Ev) (F : FE) : Bool × Env → R (PV × Bool × Env) := fun zz => match zz with | (c, ρ) => cnd c (.ok (.bl true, false, ρ)) (b F ρ)
@[simp] theorem Kor_ap (b : Ev) (F : FE) (c : Bool) (ρ : Env) : Kor b F (c, ρ) = cnd c (.ok (.bl true, false, ρ)) (b F ρ) := (rfl)
def Knot  : Bool × Env → R (PV × Bool × Env) := fun zz => match zz with | (c, ρ) => .ok (.bl (!c), false, ρ)
@[simp] theorem Knot_ap  (c : Bool) (ρ : Env) : Knot  (c, ρ) = .ok (.bl (!c), false, ρ) := (rfl)
def Kif (a b : Ev) (F : FE) : Bool × Env → R (PV × Bool × Env) := fun zz => match zz with | (c, ρ) => cnd c (a F ρ) (b F ρ)
@[simp] theorem Kif_ap (a b : Ev) (F : FE) (c : Bool) (ρ : Env) : Kif a b F (c, ρ) = cnd c (a F ρ) (b F ρ) := (rfl)
def Kcut3 (i j : Option Int) (ρ : Env) : PV → R (PV × Bool × Env) := fun p => (pCut i j p).bind (Kv ρ)
@[simp] theorem Kcut3_ap (i j : Option Int) (ρ : Env) (p : PV) : Kcut3 i j ρ p = (pCut i j p).bind (Kv ρ) := (rfl)
def Kcut2 (x : Opd) (i : Option Int) : Option Int × Env → R (PV × Bool × Env) := fun zz => match zz with | (j, ρ) => (deref ρ x).bind (Kcut3 i j ρ)
@[simp] theorem Kcut2_ap (x : Opd) (i : Option Int) (j : Option Int) (ρ : Env) : Kcut2 x i (j, ρ) = (deref ρ x).bind (Kcut3 i j ρ) := (rfl)
def Kcut1 (x : Opd) (hi : Option Op) (F : FE) : Option Int × Env → R (PV × Bool × Env) := fun zz => match zz with | (i, ρ) => (opI hi F ρ).bind (Kcut2 x i)
@[simp] theorem Kcut1_ap (x : Opd) (hi : Option Op) (F : FE) (i : Option Int) (ρ : Env) : Kcut1 x hi F (i, ρ) = (opI hi F ρ).bind (Kcut2 x i) := (rfl)
def Kcut (lo hi : Option Op) (F : FE) : Opd × Env → R (PV × Bool × Env) := fun zz => match zz with | (x, ρ) => (opI lo F ρ).bind (Kcut1 x hi F)
@[simp] theorem Kcut_ap (lo hi : Option Op) (F : FE) (x : Opd) (ρ : Env) : Kcut lo hi F (x, ρ) = (opI lo F ρ).bind (Kcut1 x hi F) := (rfl)
def KN3 (v : PV) (n : Bool) : Env → R (PV × Bool × Env) := fun ρ => .ok (v, n, ρ)
@[simp] theorem KN3_ap (v : PV) (n : Bool) (ρ : Env) : KN3 v n ρ = .ok (v, n, ρ) := (rfl)
def KN2 (xs : List Opd) (ρ : Env) : PV × Bool × List Slot → R (PV × Bool × Env) := fun zz => match zz with | (v, n, outs) => (back xs outs ρ).bind (KN3 v n)
@[simp] theorem KN2_ap (xs : List Opd) (ρ : Env) (v : PV) (n : Bool) (outs : List Slot) : KN2 xs ρ (v, n, outs) = (back xs outs ρ).bind (KN3 v n) := (rfl)
def KN1 (f : Nat) (xs : List Opd) (F : FE) (ρ : Env) : List Slot → R (PV × Bool × Env) := fun ss => (F f ss).bind (KN2 xs ρ)
@[simp] theorem KN1_ap (f : Nat) (xs : List Opd) (F : FE) (ρ : Env) (ss : List Slot) : KN1 f xs F ρ ss = (F f ss).bind (KN2 xs ρ) := (rfl)
def KF (f : Nat) (F : FE) : List Opd × Env → R (PV × Bool × Env) := fun zz => match zz with | (xs, ρ) => callN f xs F ρ
@[simp] theorem KF_ap (f : Nat) (F : FE) (xs : List Opd) (ρ : Env) : KF f F (xs, ρ) = callN f xs F ρ := (rfl)
def KlL  : List PV × Option Nat × Env → R (PV × Bool × Env) := fun zz => match zz with | (xs, l, ρ) => litL xs l ρ
@[simp] theorem KlL_ap  (xs : List PV) (l : Option Nat) (ρ : Env) : KlL  (xs, l, ρ) = litL xs l ρ := (rfl)
def KlT  : List PV × Option Nat × Env → R (PV × Bool × Env) := fun zz => match zz with | (xs, l, ρ) => litT xs l ρ
@[simp] theorem KlT_ap  (xs : List PV) (l : Option Nat) (ρ : Env) : KlT  (xs, l, ρ) = litT xs l ρ := (rfl)
def KsA (i : Nat) : PV × Bool × Env → R (Flow × Env) := fun zz => match zz with | (p, n, ρ) => nx (asg i p n ρ)
@[simp] theorem KsA_ap (i : Nat) (p : PV) (n : Bool) (ρ : Env) : KsA i (p, n, ρ) = nx (asg i p n ρ) := (rfl)
def KsS (is : List Nat) : List (PV × Bool) × Env → R (Flow × Env) := fun zz => match zz with | (ps, ρ) => nx (asgs is ps ρ)
@[simp] theorem KsS_ap (is : List Nat) (ps : List (PV × Bool)) (ρ : Env) : KsS is (ps, ρ) = nx (asgs is ps ρ) := (rfl)
def KsT (t : Tg) : PV × Bool × Env → R (Flow × Env) := fun zz => match zz with | (p, n, ρ) => nx (t p ρ)
@[simp] theorem KsT_ap (t : Tg) (p : PV) (n : Bool) (ρ : Env) : KsT t (p, n, ρ) = nx (t p ρ) := (rfl)
def KsE  : PV × Bool × Env → R (Flow × Env) := fun zz => match zz with | (p, n, ρ) => .ok (.nx, ρ)
@[simp] theorem KsE_ap  (p : PV) (n : Bool) (ρ : Env) : KsE  (p, n, ρ) = .ok (.nx, ρ) := (rfl)
def KsI (a b : Sx) (F : FE) : Bool × Env → R (Flow × Env) := fun zz => match zz with | (c, ρ) => cnd c (a F ρ) (b F ρ)
@[simp] theorem KsI_ap (a b : Sx) (F : FE) (c : Bool) (ρ : Env) : KsI a b F (c, ρ) = cnd c (a F ρ) (b F ρ) := (rfl)
def KsR  : PV × Bool × Env → R (Flow × Env) := fun zz => match zz with | (p, n, ρ) => .ok (.rt p n, ρ)
@[simp] theorem KsR_ap  (p : PV) (n : Bool) (ρ : Env) : KsR  (p, n, ρ) = .ok (.rt p n, ρ) := (rfl)
def Knx  : PV × Env → R (Flow × Env) := fun zz => match zz with | (p, ρ) => .ok (.nx, ρ)
@[simp] theorem Knx_ap  (p : PV) (ρ : Env) : Knx  (p, ρ) = .ok (.nx, ρ) := (rfl)
def KsP (i : Nat) : PV × Bool × Env → R (Flow × Env) := fun zz => match zz with | (p, n, ρ) => (chg i (mApp p) ρ).bind Knx
@[simp] theorem KsP_ap (i : Nat) (p : PV) (n : Bool) (ρ : Env) : KsP i (p, n, ρ) = (chg i (mApp p) ρ).bind Knx := (rfl)
def KsG2 (i : Nat) (ρ : Env) : PV → R (Flow × Env) := fun p => (chg i (mExt p) ρ).bind Knx
@[simp] theorem KsG2_ap (i : Nat) (ρ : Env) (p : PV) : KsG2 i ρ p = (chg i (mExt p) ρ).bind Knx := (rfl)
def KsG (i : Nat) : Opd × Env → R (Flow × Env) := fun zz => match zz with | (x, ρ) => (deref ρ x).bind (KsG2 i ρ)
@[simp] theorem KsG_ap (i : Nat) (x : Opd) (ρ : Env) : KsG i (x, ρ) = (deref ρ x).bind (KsG2 i ρ) := (rfl)
def KsU2 (i : Nat) (ρ : Env) : PV → R (Flow × Env) := fun p => (chg i (mUpd p) ρ).bind Knx
@[simp] theorem KsU2_ap (i : Nat) (ρ : Env) (p : PV) : KsU2 i ρ p = (chg i (mUpd p) ρ).bind Knx := (rfl)
def KsU (i : Nat) : Opd × Env → R (Flow × Env) := fun zz => match zz with | (x, ρ) => (deref ρ x).bind (KsU2 i ρ)
@[simp] theorem KsU_ap (i : Nat) (x : Opd) (ρ : Env) : KsU i (x, ρ) = (deref ρ x).bind (KsU2 i ρ) := (rfl)
def Kst3 (i : Nat) (p : PV) (ρ : Env) : PV → R (Flow × Env) := fun q => (chg i (mSet q p) ρ).bind Knx
@[simp] theorem Kst3_ap (i : Nat) (p : PV) (ρ : Env) (q : PV) : Kst3 i p ρ q = (chg i (mSet q p) ρ).bind Knx := (rfl)
def Kst2 (i : Nat) (p : PV) : Opd × Env → R (Flow × Env) := fun zz => match zz with | (x, ρ) => (deref ρ x).bind (Kst3 i p ρ)
@[simp] theorem Kst2_ap (i : Nat) (p : PV) (x : Opd) (ρ : Env) : Kst2 i p (x, ρ) = (deref ρ x).bind (Kst3 i p ρ) := (rfl)
def Kst (i : Nat) (k : Op) (F : FE) : PV × Bool × Env → R (Flow × Env) := fun zz => match zz with | (p, n, ρ) => ownO i ρ ((k F ρ).bind (Kst2 i p))
@[simp] theorem Kst_ap (i : Nat) (k : Op) (F : FE) (p : PV) (n : Bool) (ρ : Env) : Kst i k F (p, n, ρ) = ownO i ρ ((k F ρ).bind (Kst2 i p)) := (rfl)
def Kpv  : PV × Env → R (PV × Bool × Env) := fun zz => match zz with | (v, ρ) => .ok (v, false, ρ)
@[simp] theorem Kpv_ap  (v : PV) (ρ : Env) : Kpv  (v, ρ) = .ok (v, false, ρ) := (rfl)
def Kp1a (i : Nat) (ρ : Env) : PV → R (PV × Bool × Env) := fun q => (chg i (mPop1 q) ρ).bind Kpv
@[simp] theorem Kp1a_ap (i : Nat) (ρ : Env) (q : PV) : Kp1a i ρ q = (chg i (mPop1 q) ρ).bind Kpv := (rfl)
def Kp1 (i : Nat) : Opd × Env → R (PV × Bool × Env) := fun zz => match zz with | (x, ρ) => (deref ρ x).bind (Kp1a i ρ)
@[simp] theorem Kp1_ap (i : Nat) (x : Opd) (ρ : Env) : Kp1 i (x, ρ) = (deref ρ x).bind (Kp1a i ρ) := (rfl)
def Kag (ρ : Env) (r : List Opd) : Slot → R (List Slot) := fun s => (args ρ r).bind (Kag2 s)
@[simp] theorem Kag_ap (ρ : Env) (r : List Opd) (s : Slot) : Kag ρ r s = (args ρ r).bind (Kag2 s) := (rfl)
@[simp] theorem eT_ap (ds : List Ev) (F : FE) (ρ : Env) : eT ds F ρ = ((evs ds F ρ).bind KT) := (rfl)
@[simp] theorem eL_ap (ds : List Ev) (F : FE) (ρ : Env) : eL ds F ρ = ((evs ds F ρ).bind KL) := (rfl)
@[simp] theorem eAnd_ap (a b : Ev) (F : FE) (ρ : Env) : eAnd a b F ρ = ((tst a F ρ).bind (Kand b F)) := (rfl)
@[simp] theorem eOr_ap (a b : Ev) (F : FE) (ρ : Env) : eOr a b F ρ = ((tst a F ρ).bind (Kor b F)) := (rfl)
@[simp] theorem eNot_ap (a : Ev) (F : FE) (ρ : Env) : eNot a F ρ = ((tst a F ρ).bind Knot) := (rfl)
@[simp] theorem eIf_ap (c a b : Ev) (F : FE) (ρ : Env) : eIf c a b F ρ = ((tst c F ρ).bind (Kif a b F)) := (rfl)
@[simp] theorem eCut_ap (a : Op) (lo hi : Option Op) (F : FE) (ρ : Env) : eCut a lo hi F ρ = ((a F ρ).bind (Kcut lo hi F)) := (rfl)
@[simp] theorem eF_ap (f : Nat) (as : List Op) (F : FE) (ρ : Env) : eF f as F ρ = ((ops as F ρ).bind (KF f F)) := (rfl)
@[simp] theorem eItL_ap (it : It) (F : FE) (ρ : Env) : eItL it F ρ = ((it F ρ).bind KlL) := (rfl)
@[simp] theorem eItT_ap (it : It) (F : FE) (ρ : Env) : eItT it F ρ = ((it F ρ).bind KlT) := (rfl)
@[simp] theorem sAsg_ap (i : Nat) (d : Ev) (F : FE) (ρ : Env) : sAsg i d F ρ = ((d F ρ).bind (KsA i)) := (rfl)
@[simp] theorem sAsgs_ap (is : List Nat) (ds : List Ev) (F : FE) (ρ : Env) : sAsgs is ds F ρ = (gi (nodupN is) ((evsF ds F ρ).bind (KsS is))) := (rfl)
@[simp] theorem sTg_ap (t : Tg) (d : Ev) (F : FE) (ρ : Env) : sTg t d F ρ = ((d F ρ).bind (KsT t)) := (rfl)
@[simp] theorem sEx_ap (d : Ev) (F : FE) (ρ : Env) : sEx d F ρ = ((d F ρ).bind KsE) := (rfl)
@[simp] theorem sNil_ap  (F : FE) (ρ : Env) : sNil  F ρ = (.ok (.nx, ρ)) := (rfl)
@[simp] theorem sIf_ap (c : Ev) (a b : Sx) (F : FE) (ρ : Env) : sIf c a b F ρ = ((tst c F ρ).bind (KsI a b F)) := (rfl)
@[simp] theorem sRet_ap (d : Ev) (F : FE) (ρ : Env) : sRet d F ρ = ((d F ρ).bind KsR) := (rfl)
@[simp] theorem sRaise_ap (c : Nat) (F : FE) (ρ : Env) : sRaise c F ρ = (.exn c) := (rfl)
@[simp] theorem sApp_ap (i : Nat) (v : Ev) (F : FE) (ρ : Env) : sApp i v F ρ = (ownL i ρ ((v F ρ).bind (KsP i))) := (rfl)
@[simp] theorem sAug_ap (i : Nat) (v : Op) (F : FE) (ρ : Env) : sAug i v F ρ = (ownL i ρ ((v F ρ).bind (KsG i))) := (rfl)
@[simp] theorem sUpd_ap (i : Nat) (v : Op) (F : FE) (ρ : Env) : sUpd i v F ρ = (ownD i ρ ((v F ρ).bind (KsU i))) := (rfl)
@[simp] theorem sSet_ap (i : Nat) (k : Op) (v : Ev) (F : FE) (ρ : Env) : sSet i k v F ρ = ((v F ρ).bind (Kst i k F)) := (rfl)
@[simp] theorem ePop0_ap (i : Nat) (F : FE) (ρ : Env) : ePop0 i F ρ = ((chg i mPop0 ρ).bind Kpv) := (rfl)
@[simp] theorem ePop1_ap (i : Nat) (k : Op) (F : FE) (ρ : Env) : ePop1 i k F ρ = (ownL i ρ ((k F ρ).bind (Kp1 i))) := (rfl)
@[simp] theorem e1_ap (f : PV → Out) (a : Op) (F : FE) (ρ : Env) : e1 f a F ρ = ((a F ρ).bind (K1 f)) := (rfl)
@[simp] theorem e2_ap (f : PV → PV → Out) (a b : Op) (F : FE) (ρ : Env) : e2 f a b F ρ = ((a F ρ).bind (K2 f b F)) := (rfl)
@[simp] theorem e2g_ap (ok : PV → Bool) (f : PV → PV → Out) (a b : Op) (F : FE) (ρ : Env) : e2g ok f a b F ρ = ((a F ρ).bind (K2g ok f b F)) := (rfl)
@[simp] theorem e3g_ap (ok : PV → Bool) (f : PV → PV → PV → Out) (a b c : Op) (F : FE) (ρ : Env) : e3g ok f a b c F ρ = ((a F ρ).bind (K3gg ok f b c F)) := (rfl)
@[simp] theorem oE_ap (d : Ev) (F : FE) (ρ : Env) : oE d F ρ = ((d F ρ).bind KoE) := (rfl)
@[simp] theorem eC_ap (p : PV) (F : FE) (ρ : Env) : eC p F ρ = (.ok (p, false, ρ)) := (rfl)
@[simp] theorem eCh_ap (f g : PV → PV → Out) (a b c : Op) (F : FE) (ρ : Env) : eCh f g a b c F ρ = (a F ρ).bind (KC f g b c F) := by
  unfold eCh
  congr 1; funext ⟨x, ρ1⟩; dsimp only [KC]; congr 1; funext ⟨y, ρ2⟩; dsimp only [KC1]; congr 1; funext p; dsimp only [KC2]; congr 1; funext q; dsimp only [KC3]; congr 1; funext ⟨v, _⟩; dsimp only [KC4]; cases v <;> try rfl
  rename_i b; cases b <;> rfl
def slV (i : Nat) (ρ : Env) : Slot → R (Opd × Env)
  | .val p => .ok (.val p, ρ) | .own _ => .ok (.ref i, ρ) | .lok _ => .ok (.ref i, ρ) | .par _ => .ok (.ref i, ρ) | .xt ps => .ok (.val (.tup ps), ρ) | _ => .stuck
@[simp] theorem slV_val (i : Nat) (ρ : Env) (p : PV) : slV i ρ (.val p) = .ok (.val p, ρ) := (rfl)
@[simp] theorem slV_own (i : Nat) (ρ : Env) (p : PV) : slV i ρ (.own p) = .ok (.ref i, ρ) := (rfl)
@[simp] theorem slV_lok (i : Nat) (ρ : Env) (p : PV) : slV i ρ (.lok p) = .ok (.ref i, ρ) := (rfl)
@[simp] theorem slV_par (i : Nat) (ρ : Env) (p : PV) : slV i ρ (.par p) = .ok (.ref i, ρ) := (rfl)
@[simp] theorem slV_xt (i : Nat) (ρ : Env) (ps : List PV) : slV i ρ (.xt ps) = .ok (.val (.tup ps), ρ) := (rfl)
@[simp] theorem oV_ap (i : Nat) (F : FE) (ρ : Env) : oV i F ρ = slV i ρ (gS ρ i) := by
  unfold oV slV; cases gS ρ i <;> rfl
def slE (i : Nat) (ρ : Env) : Slot → R (PV × Bool × Env)
  | .val p => .ok (p, false, ρ) | .own p => .ok (p, false, sS ρ i (.val p)) | .lok p => .ok (p, false, sS ρ i (.val p)) | .xt ps => .ok (.tup ps, false, ρ) | _ => .stuck
@[simp] theorem slE_val (i : Nat) (ρ : Env) (p : PV) : slE i ρ (.val p) = .ok (p, false, ρ) := (rfl)
@[simp] theorem slE_own (i : Nat) (ρ : Env) (p : PV) : slE i ρ (.own p) = .ok (p, false, sS ρ i (.val p)) := (rfl)
@[simp] theorem slE_xt (i : Nat) (ρ : Env) (ps : List PV) : slE i ρ (.xt ps) = .ok (.tup ps, false, ρ) := (rfl)
@[simp] theorem slE_lok (i : Nat) (ρ : Env) (p : PV) : slE i ρ (.lok p) = .ok (p, false, sS ρ i (.val p)) := (rfl)
@[simp] theorem eV_ap (i : Nat) (F : FE) (ρ : Env) : eV i F ρ = slE i ρ (gS ρ i) := by
  unfold eV slE; cases gS ρ i <;> rfl
def slR (i : Nat) (ρ : Env) : Slot → R (Flow × Env)
  | .val p => .ok (.rt p false, ρ) | .own p => .ok (.rt p true, sS ρ i .un) | .ow2 xs => .ok (.rt (.lst (xs.map .lst)) true, sS ρ i .un) | .xt ps => .ok (.rt (.tup ps) true, ρ) | _ => .stuck
@[simp] theorem slR_val (i : Nat) (ρ : Env) (p : PV) : slR i ρ (.val p) = .ok (.rt p false, ρ) := (rfl)
@[simp] theorem slR_own (i : Nat) (ρ : Env) (p : PV) : slR i ρ (.own p) = .ok (.rt p true, sS ρ i .un) := (rfl)
@[simp] theorem slR_xt (i : Nat) (ρ : Env) (ps : List PV) : slR i ρ (.xt ps) = .ok (.rt (.tup ps) true, ρ) := (rfl)
@[simp] theorem slR_ow2 (i : Nat) (ρ : Env) (xs : List (List PV)) : slR i ρ (.ow2 xs) = .ok (.rt (.lst (xs.map .lst)) true, sS ρ i .un) := (rfl)
@[simp] theorem sRetV_ap (i : Nat) (F : FE) (ρ : Env) : sRetV i F ρ = slR i ρ (gS ρ i) := by
  unfold sRetV slR; cases gS ρ i <;> rfl
def slD : Slot → R PV
  | .own p => .ok p | .lok p => .ok p | .par p => .ok p | .val p => .ok p | _ => .stuck
@[simp] theorem slD_own (p : PV) : slD (.own p) = .ok p := (rfl)
@[simp] theorem slD_lok (p : PV) : slD (.lok p) = .ok p := (rfl)
@[simp] theorem slD_par (p : PV) : slD (.par p) = .ok p := (rfl)
@[simp] theorem slD_val (p : PV) : slD (.val p) = .ok p := (rfl)
@[simp] theorem deref_val (ρ : Env) (p : PV) : deref ρ (.val p) = .ok p := (rfl)
@[simp] theorem deref_ref (ρ : Env) (i : Nat) : deref ρ (.ref i) = slD (gS ρ i) := by
  show (match gS ρ i with | .own p => R.ok p | .lok p => .ok p | .par p => .ok p | .val p => .ok p | .ow2 _ => .stuck | .xt _ => .stuck | .lk2 _ => .stuck | .un => .stuck) = _
  cases gS ρ i <;> rfl
def slG : Slot → R Slot
  | .own p => .ok (.own p) | .par p => .ok (.own p) | _ => .stuck
@[simp] theorem slG_own (p : PV) : slG (.own p) = .ok (.own p) := (rfl)
@[simp] theorem slG_par (p : PV) : slG (.par p) = .ok (.own p) := (rfl)
@[simp] theorem argS_val (ρ : Env) (p : PV) : argS ρ (.val p) = .ok (.val p) := (rfl)
@[simp] theorem argS_ref (ρ : Env) (i : Nat) : argS ρ (.ref i) = slG (gS ρ i) := by
  show (match gS ρ i with | .own p => R.ok (Slot.own p) | .par p => .ok (.own p) | _ => .stuck) = _
  cases gS ρ i <;> rfl
@[simp] theorem evs_nil (F : FE) (ρ : Env) : evs [] F ρ = .ok ([], ρ) := (rfl)
@[simp] theorem evs_cons (d : Ev) (ds : List Ev) (F : FE) (ρ : Env) : evs (d :: ds) F ρ = (d F ρ).bind (Kev ds F) := (rfl)
@[simp] theorem evsF_nil (F : FE) (ρ : Env) : evsF [] F ρ = .ok ([], ρ) := (rfl)
@[simp] theorem evsF_cons (d : Ev) (ds : List Ev) (F : FE) (ρ : Env) : evsF (d :: ds) F ρ = (d F ρ).bind (Kef ds F) := (rfl)
@[simp] theorem asgs_nil (ρ : Env) : asgs [] [] ρ = .ok ρ := (rfl)
@[simp] theorem asgs_cons (i : Nat) (is : List Nat) (p : PV) (n : Bool) (ps : List (PV × Bool)) (ρ : Env) : asgs (i :: is) ((p, n) :: ps) ρ = (asg i p n ρ).bind (asgs is ps) := (rfl)
@[simp] theorem ops_nil (F : FE) (ρ : Env) : ops [] F ρ = .ok ([], ρ) := (rfl)
@[simp] theorem ops_cons (d : Op) (ds : List Op) (F : FE) (ρ : Env) : ops (d :: ds) F ρ = (d F ρ).bind (Kop ds F) := (rfl)
@[simp] theorem args_nil (ρ : Env) : args ρ [] = .ok [] := (rfl)
@[simp] theorem args_cons (ρ : Env) (x : Opd) (r : List Opd) : args ρ (x :: r) = (argS ρ x).bind (Kag ρ r) := (rfl)
@[simp] theorem refs_nil : refsOf [] = [] := (rfl)
@[simp] theorem refs_val (p : PV) (r : List Opd) : refsOf (.val p :: r) = refsOf r := (rfl)
@[simp] theorem refs_ref (i : Nat) (r : List Opd) : refsOf (.ref i :: r) = i :: refsOf r := (rfl)
@[simp] theorem nodupN_nil : nodupN [] = true := (rfl)
@[simp] theorem nodupN_cons (i : Nat) (r : List Nat) : nodupN (i :: r) = (!r.contains i && nodupN r) := (rfl)
@[simp] theorem back_nil (ss : List Slot) (ρ : Env) : back [] ss ρ = .ok ρ := by cases ss <;> rfl
@[simp] theorem back_val (p : PV) (r : List Opd) (s : Slot) (ss : List Slot) (ρ : Env) : back (.val p :: r) (s :: ss) ρ = back r ss ρ := by cases s <;> rfl
def bkS (i : Nat) (p : PV) (r : List Opd) (ss : List Slot) (ρ : Env) : Slot → R Env
  | .own _ => back r ss (sS ρ i (.own p)) | .par _ => back r ss (sS ρ i (.par p)) | _ => .stuck
@[simp] theorem bkS_own (i : Nat) (p q : PV) (r : List Opd) (ss : List Slot) (ρ : Env) : bkS i p r ss ρ (.own q) = back r ss (sS ρ i (.own p)) := (rfl)
@[simp] theorem bkS_par (i : Nat) (p q : PV) (r : List Opd) (ss : List Slot) (ρ : Env) : bkS i p r ss ρ (.par q) = back r ss (sS ρ i (.par p)) := (rfl)
@[simp] theorem back_ref (i : Nat) (r : List Opd) (p : PV) (ss : List Slot) (ρ : Env) : back (.ref i :: r) (.par p :: ss) ρ = bkS i p r ss ρ (gS ρ i) := by
  show (match gS ρ i with | .own _ => back r ss (sS ρ i (.own p)) | .par _ => back r ss (sS ρ i (.par p)) | _ => R.stuck) = _
  cases gS ρ i <;> rfl
@[simp] theorem callN_ap (f : Nat) (xs : List Opd) (F : FE) (ρ : Env) : callN f xs F ρ = gi (nodupN (refsOf xs)) ((args ρ xs).bind (KN1 f xs F ρ)) := (rfl)
@[simp] theorem blk_nil (F : FE) (ρ : Env) : blk [] F ρ = .ok (.nx, ρ) := (rfl)
@[simp] theorem blk_one (s : Sx) (F : FE) (ρ : Env) : blk [s] F ρ = s F ρ := (rfl)
@[simp] theorem blk_cons (s t : Sx) (r : List Sx) (F : FE) (ρ : Env) : blk (s :: t :: r) F ρ = thn (s F ρ) (blk (t :: r)) F := by rw [show blk (s :: t :: r) = sSeq s (blk (t :: r)) from rfl, sSeq_ap]
@[simp] theorem tgN_ap (i : Nat) (p : PV) (ρ : Env) : tgN i p ρ = asg i p false ρ := (rfl)
@[simp] theorem tgT_ap (ts : List Tg) (ps : List PV) (ρ : Env) : tgT ts (.tup ps) ρ = tgAll ts ps ρ := (rfl)
@[simp] theorem tgAll_nil (ρ : Env) : tgAll [] [] ρ = .ok ρ := (rfl)
@[simp] theorem tgAll_cons (t : Tg) (ts : List Tg) (p : PV) (ps : List PV) (ρ : Env) : tgAll (t :: ts) (p :: ps) ρ = (t p ρ).bind (tgAll ts ps) := (rfl)
@[simp] theorem nx_ok (ρ : Env) : nx (.ok ρ) = .ok (.nx, ρ) := (rfl)
@[simp] theorem opI_none (F : FE) (ρ : Env) : opI none F ρ = .ok (none, ρ) := (rfl)
def iI (ρ : Env) : PV → R (Option Int × Env)
  | .int i => .ok (some i, ρ)
  | _ => .stuck
@[simp] theorem iI_int (ρ : Env) (i : Int) : iI ρ (.int i) = .ok (some i, ρ) := (rfl)
def KiI : Opd × Env → R (Option Int × Env) := fun x => match x with | (x, ρ) => (deref ρ x).bind (iI ρ)
@[simp] theorem KiI_ap (x : Opd) (ρ : Env) : KiI (x, ρ) = (deref ρ x).bind (iI ρ) := (rfl)
@[simp] theorem opI_some (o : Op) (F : FE) (ρ : Env) : opI (some o) F ρ = (o F ρ).bind KiI := by
  unfold opI
  congr 1
def slO {α : Type} (x : R α) : Slot → R α
  | .own (.lst _) => x | .par (.lst _) => x | _ => .stuck
@[simp] theorem slO_own {α : Type} (x : R α) (xs : List PV) : slO x (.own (.lst xs)) = x := (rfl)
@[simp] theorem slO_par {α : Type} (x : R α) (xs : List PV) : slO x (.par (.lst xs)) = x := (rfl)
theorem slO_congr {α : Type} (x : R α) {s t : Slot} (h : s = t) : slO x s = slO x t := by rw [h]
@[simp] theorem ownL_ap (i : Nat) (ρ : Env) {α : Type} (x : R α) : ownL i ρ x = slO x (gS ρ i) := by
  unfold ownL slO
  cases gS ρ i with
  | own p => cases p <;> rfl
  | par p => cases p <;> rfl
  | _ => rfl
def slQ {α : Type} (x : R α) : Slot → R α
  | .own (.dct _) => x | .par (.dct _) => x | _ => .stuck
@[simp] theorem slQ_own {α : Type} (x : R α) (xs : KVs) : slQ x (.own (.dct xs)) = x := (rfl)
theorem slQ_congr {α : Type} (x : R α) {s t : Slot} (h : s = t) : slQ x s = slQ x t := by rw [h]
@[simp] theorem ownD_ap (i : Nat) (ρ : Env) {α : Type} (x : R α) : ownD i ρ x = slQ x (gS ρ i) := by
  unfold ownD slQ
  cases gS ρ i with
  | own p => cases p <;> rfl
  | par p => cases p <;> rfl
  | _ => rfl
def slP {α : Type} (x : R α) : Slot → R α
  | .own _ => x | .par _ => x | _ => .stuck
@[simp] theorem slP_own {α : Type} (x : R α) (p : PV) : slP x (.own p) = x := (rfl)
@[simp] theorem slP_par {α : Type} (x : R α) (p : PV) : slP x (.par p) = x := (rfl)
theorem slP_congr {α : Type} (x : R α) {s t : Slot} (h : s = t) : slP x s = slP x t := by rw [h]
@[simp] theorem ownO_ap (i : Nat) (ρ : Env) {α : Type} (x : R α) : ownO i ρ x = slP x (gS ρ i) := by
  unfold ownO slP
  cases gS ρ i <;> rfl
def KcO (i : Nat) (ρ : Env) : PV × PV → R (PV × Env) := fun x => match x with | (v, q) => .ok (v, sS ρ i (.own q))
@[simp] theorem KcO_ap (i : Nat) (ρ : Env) (v q : PV) : KcO i ρ (v, q) = .ok (v, sS ρ i (.own q)) := (rfl)
def KcP (i : Nat) (ρ : Env) : PV × PV → R (PV × Env) := fun x => match x with | (v, q) => .ok (v, sS ρ i (.par q))
@[simp] theorem KcP_ap (i : Nat) (ρ : Env) (v q : PV) : KcP i ρ (v, q) = .ok (v, sS ρ i (.par q)) := (rfl)
def slC (i : Nat) (f : PV → R (PV × PV)) (ρ : Env) : Slot → R (PV × Env)
  | .own p => (f p).bind fun (v, q) => .ok (v, sS ρ i (.own q))
  | .par p => (f p).bind fun (v, q) => .ok (v, sS ρ i (.par q))
  | _ => .stuck
@[simp] theorem slC_own (i : Nat) (f : PV → R (PV × PV)) (ρ : Env) (p : PV) : slC i f ρ (.own p) = (f p).bind (KcO i ρ) := (rfl)
@[simp] theorem slC_par (i : Nat) (f : PV → R (PV × PV)) (ρ : Env) (p : PV) : slC i f ρ (.par p) = (f p).bind (KcP i ρ) := (rfl)
@[simp] theorem chg_ap (i : Nat) (f : PV → R (PV × PV)) (ρ : Env) : chg i f ρ = slC i f ρ (gS ρ i) := by
  unfold chg slC
  cases gS ρ i <;> rfl
@[simp] theorem unlock_none (ρ : Env) : unlock none ρ = ρ := (rfl)
def slU (i : Nat) (ρ : Env) : Slot → Env
  | .lok p => sS ρ i (.own p)
  | _ => ρ
@[simp] theorem slU_lok (i : Nat) (ρ : Env) (p : PV) : slU i ρ (.lok p) = sS ρ i (.own p) := (rfl)
@[simp] theorem slU_val (i : Nat) (ρ : Env) (p : PV) : slU i ρ (.val p) = ρ := (rfl)
@[simp] theorem unlock_some (i : Nat) (ρ : Env) : unlock (some i) ρ = slU i ρ (gS ρ i) := by
  show (match gS ρ i with | .lok p => sS ρ i (.own p) | _ => ρ) = _
  cases gS ρ i <;> rfl
/-- a call of a def -/
theorem call_ret {T : Tab} {n f np ns : Nat} {body : Sx} {as : List Slot} {P : PV × Bool × List Slot → Prop} (h : T f = some (.d ⟨np, ns, body⟩)) (h1 : as.length = np) (h2 : as.all okArg = true) (h3 : np ≤ ns)
    (hb : Ret (body (callF T n) (entry ns as)) fun r => Ret (outsOf as r.2) fun outs => P (match r.1 with | .nx => (.non, false, outs) | .rt p m => (p, m, outs))) : Ret (callF T (n + 1) f as) P := by
  obtain ⟨⟨fl, ρ⟩, e, outs, e2, hp⟩ := hb
  have e : body (callF T n) (entry ns as) = .ok (fl, ρ) := e
  have e2 : outsOf as ρ = .ok outs := e2
  refine ⟨_, ?_, hp⟩
  show (match T f with | some (.d d) => runD d (callF T n) as | some (.w tbl) => runW tbl (callF T n) as | none => .stuck) = _
  rw [h]
  show runD ⟨np, ns, body⟩ (callF T n) as = _
  unfold runD
  rw [if_pos ⟨h1, h2, h3⟩]
  simp only [e, e2, R.ok_bind]
  cases fl <;> rfl
theorem call_eq {T : Tab} {n f np ns : Nat} {body : Sx} {as : List Slot} {r : PV × Bool × List Slot} (h : T f = some (.d ⟨np, ns, body⟩)) (h1 : as.length = np) (h2 : as.all okArg = true) (h3 : np ≤ ns)
    (hb : Ret (body (callF T n) (entry ns as)) fun x => Ret (outsOf as x.2) fun outs => (match x.1 with | .nx => (.non, false, outs) | .rt p m => (p, m, outs)) = r) : callF T (n + 1) f as = .ok r := (call_ret h h1 h2 h3 hb).eq
/-- a call that ends in an error -/
theorem call_exn {T : Tab} {n f np ns c : Nat} {body : Sx} {as : List Slot} (h : T f = some (.d ⟨np, ns, body⟩)) (h1 : as.length = np) (h2 : as.all okArg = true) (h3 : np ≤ ns)
    (hb : body (callF T n) (entry ns as) = .exn c) : callF T (n + 1) f as = .exn c := by
  show (match T f with | some (.d d) => runD d (callF T n) as | some (.w tbl) => runW tbl (callF T n) as | none => .stuck) = _
  rw [h]
  show runD ⟨np, ns, body⟩ (callF T n) as = _
  unfold runD
  rw [if_pos ⟨h1, h2, h3⟩]
  simp only [hb, R.exn_bind]
@[simp] theorem outs_nil (ρ : Env) : outsOf [] ρ = .ok [] := by cases ρ <;> rfl
@[simp] theorem outs_val (p : PV) (as : List Slot) (s : Slot) (ρ : Env) : outsOf (.val p :: as) (s :: ρ) = (outsOf as ρ).bind (Kag2 .un) := by cases s <;> rfl
@[simp] theorem outs_own (p q : PV) (as : List Slot) (ρ : Env) : outsOf (.own p :: as) (.par q :: ρ) = (outsOf as ρ).bind (Kag2 (.par q)) := (rfl)
/-- a loop without an early end -/
theorem forL_inv {tg : Tg} {b : Sx} {F : FE} (I : Nat → Env → Prop) (xs : List PV) : ∀ (k : Nat) (ρ : Env), I k ρ →
    (∀ j x ρ, xs[j]? = some x → I (k + j) ρ → Ret ((tg x ρ).bind (b F)) fun r => r.1 = .nx ∧ I (k + j + 1) r.2) →
    Ret (forL tg b F xs ρ) fun r => r.1 = .nx ∧ I (k + xs.length) r.2 := by
  induction xs with
  | nil => intro k ρ h _; exact ⟨_, rfl, rfl, h⟩
  | cons x xs ih =>
    intro k ρ h hb
    obtain ⟨⟨f, ρ2⟩, e, rfl, h2⟩ := hb 0 x ρ rfl h
    have : forL tg b F (x :: xs) ρ = forL tg b F xs ρ2 := by
      show (tg x ρ).bind _ = _
      cases q : tg x ρ with
      | ok ρ1 =>
        rw [q] at e
        simp only [R.ok_bind] at e ⊢
        rw [e]
        rfl
      | exn => rw [q] at e; cases e
      | stuck => rw [q] at e; cases e
    rw [this]
    refine (ih (k + 1) ρ2 h2 fun j y ρ hj hI => ?_).imp fun r hr => ⟨hr.1, by have := hr.2; rwa [List.length_cons, Nat.add_comm xs.length 1, ← Nat.add_assoc]⟩
    have := hb (j + 1) y ρ hj (by rwa [Nat.add_comm j 1, ← Nat.add_assoc])
    rwa [Nat.add_comm j 1, ← Nat.add_assoc] at this
/-- a for, typed: the items are f of things -/
theorem for_inv {α : Type} {it : It} {tg : Tg} {b : Sx} {F : FE} {ρ ρ1 : Env} {ps : List PV} {l : Option Nat} (f : α → PV) (xs : List α) (I : Nat → Env → Prop) (P : Flow × Env → Prop)
    (hit : it F ρ = .ok (ps, l, ρ1)) (hps : ps = xs.map f) (h0 : I 0 ρ1)
    (hs : ∀ j x ρ, xs[j]? = some x → j < xs.length → I j ρ → Ret ((tg (f x) ρ).bind (b F)) fun r => r.1 = .nx ∧ I (j + 1) r.2)
    (hP : ∀ ρ, I xs.length ρ → P (.nx, unlock l ρ)) : Ret (sFor it tg b F ρ) P := by
  subst hps
  obtain ⟨⟨fl, ρ2⟩, e, rfl, h⟩ := forL_inv (tg := tg) (b := b) (F := F) I (xs.map f) 0 ρ1 h0 (fun j p ρ hj hI => by
    rw [List.getElem?_map] at hj
    cases q : xs[j]? with
    | none => rw [q] at hj; cases hj
    | some x =>
      rw [q] at hj
      cases hj
      rw [Nat.zero_add] at hI ⊢
      refine hs j x ρ q ?_ hI
      rcases Nat.lt_or_ge j xs.length with h | h
      · exact h
      · rw [List.getElem?_eq_none h] at q; cases q)
  rw [List.length_map, Nat.zero_add] at h
  refine ⟨(.nx, unlock l ρ2), ?_, hP _ h⟩
  unfold sFor
  simp only [hit, R.ok_bind]
  rw [show forL tg b F (xs.map f) ρ1 = _ from e]
  rfl
/-- a for that may end early -/
theorem for_may {α : Type} {it : It} {tg : Tg} {b : Sx} {F : FE} {ρ ρ1 : Env} {ps : List PV} {l : Option Nat} (f : α → PV) (xs : List α) (I : Nat → Env → Prop) (P : Flow × Env → Prop)
    (hit : it F ρ = .ok (ps, l, ρ1)) (hps : ps = xs.map f) (h0 : I 0 ρ1)
    (hs : ∀ j x ρ, xs[j]? = some x → j < xs.length → I j ρ → Ret ((tg (f x) ρ).bind (b F)) fun r => (r.1 = .nx ∧ I (j + 1) r.2) ∨ ∃ p n, r.1 = .rt p n ∧ P (.rt p n, unlock l r.2))
    (hP : ∀ ρ, I xs.length ρ → P (.nx, unlock l ρ)) : Ret (sFor it tg b F ρ) P := by
  subst hps
  have key : ∀ (ys : List α) (k : Nat) (ρ : Env), (∀ j y, ys[j]? = some y → xs[k + j]? = some y) → k + ys.length = xs.length → I k ρ → Ret (forL tg b F (ys.map f) ρ) fun r => P (r.1, unlock l r.2) := by
    intro ys
    induction ys with
    | nil => intro k ρ _ hk h; exact ⟨_, rfl, hP _ (by rw [← hk]; exact h)⟩
    | cons y ys ih =>
      intro k ρ hy hk h
      have hl : k < xs.length := by rw [← hk, List.length_cons]; omega
      obtain ⟨⟨fl, ρ2⟩, e, hh⟩ := hs k y ρ (hy 0 y rfl) hl h
      have : forL tg b F ((y :: ys).map f) ρ = match (generalizing := false) fl with | .nx => forL tg b F (ys.map f) ρ2 | .rt p m => .ok (.rt p m, ρ2) := by
        show (tg (f y) ρ).bind _ = _
        cases q : tg (f y) ρ with
        | ok ρ1 =>
          rw [q] at e
          simp only [R.ok_bind] at e ⊢
          rw [e]
          rfl
        | exn => rw [q] at e; cases e
        | stuck => rw [q] at e; cases e
      rw [this]
      rcases hh with ⟨rfl, h2⟩ | ⟨p, n, rfl, hp⟩
      · refine ih (k + 1) ρ2 (fun j z hz => ?_) (by rw [← hk, List.length_cons]; omega) h2
        have := hy (j + 1) z hz
        rwa [Nat.add_comm j 1, ← Nat.add_assoc] at this
      · exact ⟨_, rfl, hp⟩
  obtain ⟨⟨fl, ρ2⟩, e, h⟩ := key xs 0 ρ1 (fun j y hj => by rw [Nat.zero_add]; exact hj) (Nat.zero_add _) h0
  refine ⟨(fl, unlock l ρ2), ?_, h⟩
  unfold sFor
  simp only [hit, R.ok_bind]
  rw [show forL tg b F (xs.map f) ρ1 = _ from e]
  rfl
/-- a while, by a measure -/
theorem whl_inv {c : Ev} {b : Sx} {F : FE} (I : Nat → Env → Prop) (P : Flow × Env → Prop)
    (hs : ∀ m ρ, I m ρ → Ret (tst c F ρ) fun r => (r.1 = false ∧ P (.nx, r.2)) ∨ (r.1 = true ∧ Ret (b F r.2) fun x => (x.1 = .nx ∧ ∃ k, k < m ∧ I k x.2) ∨ ∃ p n, x.1 = .rt p n ∧ P (.rt p n, x.2))) :
    ∀ (n m : Nat) (ρ : Env), I m ρ → m < n → Ret (whl c b F n ρ) P := by
  intro n
  induction n with
  | zero => intro m ρ _ h; exact absurd h (Nat.not_lt_zero _)
  | succ n ih =>
    intro m ρ h hm
    obtain ⟨⟨k, ρ1⟩, e, hh⟩ := hs m ρ h
    unfold whl
    rw [e]
    rcases hh with ⟨rfl, q⟩ | ⟨rfl, ⟨f, ρ2⟩, e2, h2⟩
    · exact ⟨_, rfl, q⟩
    · simp only [R.ok_bind, if_true]
      rw [show b F ρ1 = _ from e2]
      rcases h2 with ⟨rfl, k, hk, hI⟩ | ⟨p, n, rfl, hp⟩
      · exact ih k ρ2 hI (by omega)
      · exact ⟨_, rfl, hp⟩
theorem while_inv {c : Ev} {b : Sx} {F : FE} {ρ : Env} (m : Nat) (I : Nat → Env → Prop) (P : Flow × Env → Prop) (h0 : I m ρ) (hm : m < 1048576)
    (hs : ∀ m ρ, I m ρ → Ret ((c F ρ).bind tsB) fun r => (r.1 = false ∧ P (.nx, r.2)) ∨ (r.1 = true ∧ Ret (b F r.2) fun x => (x.1 = .nx ∧ ∃ k, k < m ∧ I k x.2) ∨ ∃ p n, x.1 = .rt p n ∧ P (.rt p n, x.2))) : Ret (sWhile c b F ρ) P :=
  Ret.calm (whl_inv I P (fun m ρ h => by rw [tst_ap]; exact hs m ρ h) LONG m ρ h0 hm)
/-! ### list comprehensions -/
theorem wipe_get {own : List Nat} : ∀ {a b : Env}, wipeS own a = wipeS own b → ∀ i, i ∉ own → gS a i = gS b i := by
  have sS_len : ∀ (ρ : Env) (i : Nat) (s : Slot), (sS ρ i s).length = ρ.length := by
    intro ρ
    induction ρ with
    | nil => intros; rfl
    | cons a ρ ih => intro i s; cases i with
      | zero => rfl
      | succ i => simp [ih]
  have gs : ∀ (ρ : Env) (i j : Nat) (s : Slot), i ≠ j → gS (sS ρ i s) j = gS ρ j := by
    intro ρ
    induction ρ with
    | nil => intros; rfl
    | cons a ρ ih => intro i j s h; cases i with
      | zero => cases j with
        | zero => exact absurd rfl h
        | succ j => rfl
      | succ i => cases j with
        | zero => rfl
        | succ j => exact ih i j s (by omega)
  have w : ∀ (own : List Nat) (ρ : Env) (i : Nat), i ∉ own → gS (wipeS own ρ) i = gS ρ i := by
    intro own
    induction own with
    | nil => intros; rfl
    | cons j own ih =>
      intro ρ i h
      rw [List.mem_cons, not_or] at h
      show gS (wipeS own (sS ρ j .un)) i = _
      rw [ih _ _ h.2, gs _ _ _ _ (fun e => h.1 e.symm)]
  intro a b h i hi
  rw [← w own a i hi, h, w own b i hi]
theorem gS_sS_self : ∀ (ρ : Env) (i : Nat) (s : Slot), i < ρ.length → gS (sS ρ i s) i = s := by
  intro ρ
  induction ρ with
  | nil => intro i s h; cases h
  | cons a ρ ih => intro i s h; cases i with
    | zero => rfl
    | succ i => exact ih i s (by simpa using h)
theorem gS_sS_ne : ∀ (ρ : Env) (i j : Nat) (s : Slot), i ≠ j → gS (sS ρ i s) j = gS ρ j := by
  intro ρ
  induction ρ with
  | nil => intros; rfl
  | cons a ρ ih => intro i j s h; cases i with
    | zero => cases j with
      | zero => exact absurd rfl h
      | succ j => rfl
    | succ i => cases j with
      | zero => rfl
      | succ j => exact ih i j s (by omega)
theorem sS_len : ∀ (ρ : Env) (i : Nat) (s : Slot), (sS ρ i s).length = ρ.length := by
  intro ρ
  induction ρ with
  | nil => intros; rfl
  | cons a ρ ih => intro i s; cases i with
    | zero => rfl
    | succ i => simp [ih]
theorem wipe_len : ∀ (own : List Nat) (ρ : Env), (wipeS own ρ).length = ρ.length := by
  intro own
  induction own with
  | nil => intros; rfl
  | cons j own ih => intro ρ; show (wipeS own (sS ρ j .un)).length = _; rw [ih, sS_len]
theorem rest_len : ∀ (own : List Nat) (ρ0 ρ : Env), (restS own ρ0 ρ).length = ρ.length := by
  intro own
  induction own with
  | nil => intros; rfl
  | cons j own ih => intro ρ0 ρ; show (restS own ρ0 (sS ρ j _)).length = _; rw [ih, sS_len]
theorem env_ext : ∀ {a b : Env}, a.length = b.length → (∀ i, gS a i = gS b i) → a = b := by
  intro a
  induction a with
  | nil => intro b h _; cases b with
    | nil => rfl
    | cons => cases h
  | cons x a ih => intro b h g; cases b with
    | nil => cases h
    | cons y b =>
      rw [show x = y from g 0, ih (by simpa using h) fun i => g (i + 1)]
theorem rest_get_in : ∀ (own : List Nat) (ρ0 ρ : Env) (i : Nat), ρ.length = ρ0.length → (i ∈ own ∨ gS ρ i = gS ρ0 i) → gS (restS own ρ0 ρ) i = gS ρ0 i := by
  intro own
  induction own with
  | nil => intro ρ0 ρ i _ h; rcases h with h | h; cases h; exact h
  | cons j own ih =>
    intro ρ0 ρ i hl h
    show gS (restS own ρ0 (sS ρ j (gS ρ0 j))) i = _
    refine ih ρ0 _ i (by rw [sS_len, hl]) ?_
    by_cases e : j = i
    · subst e
      right
      by_cases l : j < ρ.length
      · exact gS_sS_self _ _ _ l
      · have g : ∀ (ρ : Env) (i : Nat), ρ.length ≤ i → gS ρ i = .un := by
          intro ρ
          induction ρ with
          | nil => intros; rfl
          | cons a ρ ih => intro i h; cases i with
            | zero => simp at h
            | succ i => exact ih i (by simpa using h)
        rw [g _ _ (by rw [sS_len]; omega), g ρ0 _ (by omega)]
    · rw [gS_sS_ne _ _ _ _ e]
      rcases h with h | h
      · rw [List.mem_cons] at h
        rcases h with h | h
        · exact absurd h.symm e
        · exact .inl h
      · exact .inr h
theorem rest_wipe {own : List Nat} {a b : Env} (h : wipeS own a = wipeS own b) : restS own b a = b := by
  have hl : a.length = b.length := by rw [← wipe_len own a, h, wipe_len]
  refine env_ext (by rw [rest_len, hl]) fun i => ?_
  refine rest_get_in own b a i hl ?_
  by_cases m : i ∈ own
  · exact .inl m
  · exact .inr (wipe_get h i m)
/-- one item: from the wiped names, what it gives -/
def CSt (own : List Nat) (tg : Tg) (c : Option Ev) (d : Ev) (F : FE) (w : Env) (x : PV) (g : Option PV) : Prop :=
  ∃ ρ, wipeS own ρ = w ∧ ((tg x w).bind fun ρ1 => (cond? c F ρ1).bind fun (k, ρ2) => if k then (d F ρ2).bind fun (p, _, ρ3) => .ok (some p, ρ3) else .ok (none, ρ2)) = .ok (g, ρ)
theorem comp_run {α : Type} {own : List Nat} {tg : Tg} {c : Option Ev} {d : Ev} {F : FE} (e : α → PV) (g : α → Option PV) : ∀ (xs : List α) (ρ : Env), (∀ x ∈ xs, CSt own tg c d F (wipeS own ρ) (e x) (g x)) →
    ∃ ρ', wipeS own ρ' = wipeS own ρ ∧ compL own tg c (elOf d) F (xs.map e) ρ = .ok (xs.filterMap g, ρ') := by
  intro xs
  induction xs with
  | nil => intro ρ _; exact ⟨ρ, rfl, rfl⟩
  | cons x xs ih =>
    intro ρ h
    obtain ⟨ρ3, hw, he⟩ := h x (List.mem_cons_self ..)
    have ih3 := fun (ρ4 : Env) (h4 : wipeS own ρ4 = wipeS own ρ) => ih ρ4 fun y hy => by rw [h4]; exact h y (List.mem_cons_of_mem _ hy)
    rw [List.map_cons]
    unfold compL
    cases q1 : tg (e x) (wipeS own ρ) with
    | ok ρ1 =>
      rw [q1] at he
      simp only [R.ok_bind] at he ⊢
      cases q2 : cond? c F ρ1 with
      | ok kr =>
        obtain ⟨k, ρ2⟩ := kr
        rw [q2] at he
        simp only [R.ok_bind] at he ⊢
        cases k with
        | true =>
          simp only [if_true] at he ⊢
          unfold elOf
          cases q3 : d F ρ2 with
          | ok pr =>
            obtain ⟨p, m, ρ5⟩ := pr
            rw [q3] at he
            simp only [R.ok_bind] at he ⊢
            injection he with he
            injection he with e1 e2
            subst e2
            obtain ⟨ρ', w', r'⟩ := ih3 _ hw
            unfold elOf at r'
            refine ⟨ρ', w'.trans hw, ?_⟩
            rw [r']
            simp only [R.ok_bind, List.filterMap_cons, ← e1, List.singleton_append]
          | exn => rw [q3] at he; cases he
          | stuck => rw [q3] at he; cases he
        | false =>
          simp only [Bool.false_eq_true, if_false] at he ⊢
          injection he with he
          injection he with e1 e2
          subst e2
          obtain ⟨ρ', w', r'⟩ := ih3 _ hw
          refine ⟨ρ', w'.trans hw, ?_⟩
          rw [r']
          simp only [List.filterMap_cons, ← e1]
      | exn => rw [q2] at he; cases he
      | stuck => rw [q2] at he; cases he
    | exn => rw [q1] at he; cases he
    | stuck => rw [q1] at he; cases he
theorem eLC_run {α : Type} {own : List Nat} {it : It} {tg : Tg} {c : Option Ev} {d : Ev} {F : FE} {ρ ρ1 : Env} {ps : List PV} {l : Option Nat} (e : α → PV) (g : α → Option PV) (xs : List α)
    (hit : it F ρ = .ok (ps, l, ρ1)) (hps : ps = xs.map e) (hp : plainS ρ1 own = true) (hl : xs.length ≤ 16777216) (hs : ∀ x ∈ xs, CSt own tg c d F (wipeS own ρ1) (e x) (g x)) :
    eLC own it tg c d F ρ = .ok (.lst (xs.filterMap g), true, unlock l ρ1) := by
  subst hps
  obtain ⟨ρ', w', r'⟩ := comp_run e g xs ρ1 hs
  unfold eLC eComp
  simp only [hit, R.ok_bind, hp, if_true, r']
  unfold finL
  rw [if_pos (Nat.le_trans (List.length_filterMap_le _ _) hl)]
  simp only [R.ok_bind, R.calm_ok, rest_wipe w']
/-- every item gives one -/
theorem eLC_map {α : Type} {own : List Nat} {it : It} {tg : Tg} {d : Ev} {F : FE} {ρ ρ1 : Env} {ps : List PV} {l : Option Nat} (e : α → PV) (g : α → PV) (xs : List α)
    (hit : it F ρ = .ok (ps, l, ρ1)) (hps : ps = xs.map e) (hp : plainS ρ1 own = true) (hl : xs.length ≤ 16777216) (hs : ∀ x ∈ xs, Ret ((tg (e x) (wipeS own ρ1)).bind (d F)) fun r => r.1 = g x ∧ wipeS own r.2.2 = wipeS own ρ1) :
    eLC own it tg none d F ρ = .ok (.lst (xs.map g), true, unlock l ρ1) := by
  rw [eLC_run (c := none) e (fun x => some (g x)) xs hit hps hp hl]
  · congr 3
    clear hs hp hps hit hl
    induction xs with
    | nil => rfl
    | cons x xs ih => simp [ih]
  · intro x hx
    obtain ⟨⟨v, m, ρ2⟩, h2, rfl, w2⟩ := hs x hx
    refine ⟨ρ2, w2, ?_⟩
    cases q : tg (e x) (wipeS own ρ1) with
    | ok ρ3 =>
      rw [q] at h2
      simp only [R.ok_bind] at h2 ⊢
      show (R.ok (true, ρ3)).bind _ = _
      simp only [R.ok_bind, if_true]
      rw [h2]
      rfl
    | exn => rw [q] at h2; cases h2
    | stuck => rw [q] at h2; cases h2
/-- some items are left out -/
theorem eLC_flt {α : Type} {own : List Nat} {it : It} {tg : Tg} {c d : Ev} {F : FE} {ρ ρ1 : Env} {ps : List PV} {l : Option Nat} (e : α → PV) (t : α → Bool) (g : α → PV) (xs : List α)
    (hit : it F ρ = .ok (ps, l, ρ1)) (hps : ps = xs.map e) (hp : plainS ρ1 own = true) (hl : xs.length ≤ 16777216)
    (hs : ∀ x ∈ xs, Ret ((tg (e x) (wipeS own ρ1)).bind fun ρ3 => (c F ρ3).bind tsB) fun r => r.1 = t x ∧ wipeS own r.2 = wipeS own ρ1 ∧ (t x = true → Ret (d F r.2) fun q => q.1 = g x ∧ wipeS own q.2.2 = wipeS own ρ1)) :
    eLC own it tg (some c) d F ρ = .ok (.lst ((xs.filter t).map g), true, unlock l ρ1) := by
  rw [eLC_run (c := some c) e (fun x => if t x then some (g x) else none) xs hit hps hp hl]
  · congr 3
    clear hs hp hps hit hl
    induction xs with
    | nil => rfl
    | cons x xs ih => cases q : t x <;> simp [ih, q]
  · intro x hx
    obtain ⟨⟨k, ρ2⟩, h2, rfl, w2, h3⟩ := hs x hx
    cases q : tg (e x) (wipeS own ρ1) with
    | ok ρ3 =>
      rw [q] at h2
      simp only [R.ok_bind] at h2
      cases qt : t x with
      | true =>
        obtain ⟨⟨v, m, ρ4⟩, h4, rfl, w4⟩ := h3 qt
        refine ⟨ρ4, w4, ?_⟩
        simp only [R.ok_bind, cond?, tst_ap]
        rw [q]
        simp only [R.ok_bind]
        rw [h2, qt]
        simp only [R.ok_bind, if_true]
        rw [show d F ρ2 = _ from h4]
        rfl
      | false =>
        refine ⟨ρ2, w2, ?_⟩
        rw [q]
        simp only [R.ok_bind, cond?, tst_ap]
        rw [h2, qt]
        rfl
    | exn => rw [q] at h2; cases h2
    | stuck => rw [q] at h2; cases h2
@[simp] theorem wipe_nil (ρ : Env) : wipeS [] ρ = ρ := (rfl)
@[simp] theorem wipe_cons (i : Nat) (r : List Nat) (ρ : Env) : wipeS (i :: r) ρ = wipeS r (sS ρ i .un) := (rfl)
@[simp] theorem plain_nil (ρ : Env) : plainS ρ [] = true := (rfl)
def slN : Slot → Bool
  | .un => true | .val _ => true | _ => false
@[simp] theorem slN_un : slN .un = true := (rfl)
@[simp] theorem slN_val (p : PV) : slN (.val p) = true := (rfl)
@[simp] theorem plain_cons (ρ : Env) (i : Nat) (r : List Nat) : plainS ρ (i :: r) = (slN (gS ρ i) && plainS ρ r) := by
  show ((match gS ρ i with | .un => true | .val _ => true | _ => false) && _) = _
  cases gS ρ i <;> rfl
end Ice
end
section
set_option autoImplicit false
set_option linter.all false
namespace Ice
abbrev iL (xs : List Int) : List PV := xs.map .int
/-! ### whole numbers -/
@[simp] theorem plt_int (i j : Int) : plt (.int i) (.int j) = some (decide (i < j)) := by
  show some (cmpI i j == .lt) = _
  unfold cmpI
  split
  · simp [*]
  · split <;> simp [*]
@[simp] theorem peq_int (i j : Int) : peq (.int i) (.int j) = some (i == j) := by show peqF 12 _ _ = _; rw [peqF]; all_goals simp
@[simp] theorem peq_non : peq .non .non = some true := by show peqF 12 _ _ = _; rw [peqF]; all_goals simp
@[simp] theorem pLt_int (i j : Int) : pLt (.int i) (.int j) = .ok (.bl (decide (i < j)), false) := by simp [pLt]
@[simp] theorem pGt_int (i j : Int) : pGt (.int i) (.int j) = .ok (.bl (decide (j < i)), false) := by simp [pGt]
@[simp] theorem pLe_int (i j : Int) : pLe (.int i) (.int j) = .ok (.bl (decide (i ≤ j)), false) := by simp [pLe, ← decide_not, Int.not_lt]
@[simp] theorem pGe_int (i j : Int) : pGe (.int i) (.int j) = .ok (.bl (decide (j ≤ i)), false) := by simp [pGe, ← decide_not, Int.not_lt]
@[simp] theorem pEq_int (i j : Int) : pEq (.int i) (.int j) = .ok (.bl (decide (i = j)), false) := by simp [pEq]; rfl
@[simp] theorem pNe_int (i j : Int) : pNe (.int i) (.int j) = .ok (.bl (!decide (i = j)), false) := by simp [pNe]; rfl
@[simp] theorem pAdd_int (i j : Int) : pAdd (.int i) (.int j) = .ok (.int (i + j), false) := (rfl)
@[simp] theorem pSub_int (i j : Int) : pSub (.int i) (.int j) = .ok (.int (i - j), false) := (rfl)
@[simp] theorem pInt_int (i : Int) : pInt (.int i) = .ok (.int i, false) := (rfl)
@[simp] theorem pInt_bl (b : Bool) : pInt (.bl b) = .ok (.int (b2i b), false) := (rfl)
@[simp] theorem pStr_str (s : List Nat) : pStr (.str s) = .ok (.str s, false) := (rfl)
@[simp] theorem pNeg_int (i : Int) : pNeg (.int i) = .ok (.int (-i), false) := (rfl)
def iabs (i : Int) : Int := if i < 0 then -i else i
@[simp] theorem pAbs_int (i : Int) : pAbs (.int i) = .ok (.int (iabs i), false) := (rfl)
theorem small_of {i : Int} (h1 : -18446744073709551616 < i) (h2 : i < 18446744073709551616) : small i = true := by
  unfold small
  rw [decide_eq_true h1, decide_eq_true h2]
  rfl
@[simp] theorem pMod_int {i j : Int} (h : 0 < j) : pMod (.int i) (.int j) = .ok (.int (i % j), false) := if_pos h
@[simp] theorem pFdiv_int {i j : Int} (h : 0 < j) (h2 : j < 18446744073709551616) : pFdiv (.int i) (.int j) = .ok (.int (i / j), false) := if_pos ⟨h, h2⟩
@[simp] theorem pMul_l {i j : Int} (h1 : -18446744073709551616 < i) (h2 : i < 18446744073709551616) : pMul (.int i) (.int j) = .ok (.int (i * j), false) := if_pos (by rw [small_of h1 h2]; rfl)
@[simp] theorem pMul_r {i j : Int} (h1 : -18446744073709551616 < j) (h2 : j < 18446744073709551616) : pMul (.int i) (.int j) = .ok (.int (i * j), false) := if_pos (by rw [small_of h1 h2, Bool.or_true])
@[simp] theorem pPow_int {i j : Int} (h1 : -18446744073709551616 < i) (h2 : i < 18446744073709551616) (h3 : 0 ≤ j) (h4 : j ≤ 1000) : pPow (.int i) (.int j) = .ok (.int (i ^ j.toNat), false) := if_pos ⟨h3, h4, small_of h1 h2⟩
theorem okR_of {i : Int} (h1 : -4611686018427387904 ≤ i) (h2 : i < 4611686018427387904) : okR i = true := by
  unfold okR
  rw [decide_eq_true h1, decide_eq_true h2]
  rfl
/-! ### kinds -/
@[simp] theorem pIs_int (f : PV → Bool) (i : Int) : pIs f (.int i) = .ok (.bl (f (.int i)), false) := (rfl)
@[simp] theorem pIs_bl (f : PV → Bool) (i : Bool) : pIs f (.bl i) = .ok (.bl (f (.bl i)), false) := (rfl)
@[simp] theorem pIs_non (f : PV → Bool) : pIs f .non = .ok (.bl (f .non), false) := (rfl)
@[simp] theorem pIs_str (f : PV → Bool) (s : List Nat) : pIs f (.str s) = .ok (.bl (f (.str s)), false) := (rfl)
@[simp] theorem pIs_tup (f : PV → Bool) (s : List PV) : pIs f (.tup s) = .ok (.bl (f (.tup s)), false) := (rfl)
@[simp] theorem pIs_lst (f : PV → Bool) (s : List PV) : pIs f (.lst s) = .ok (.bl (f (.lst s)), false) := (rfl)
@[simp] theorem pIsN_int (f : PV → Bool) (i : Int) : pIsN f (.int i) = .ok (.bl (!f (.int i)), false) := (rfl)
@[simp] theorem pIsN_bl (f : PV → Bool) (i : Bool) : pIsN f (.bl i) = .ok (.bl (!f (.bl i)), false) := (rfl)
@[simp] theorem pIsN_non (f : PV → Bool) : pIsN f .non = .ok (.bl (!f .non), false) := (rfl)
@[simp] theorem pIsN_str (f : PV → Bool) (s : List Nat) : pIsN f (.str s) = .ok (.bl (!f (.str s)), false) := (rfl)
@[simp] theorem pIsN_tup (f : PV → Bool) (s : List PV) : pIsN f (.tup s) = .ok (.bl (!f (.tup s)), false) := (rfl)
@[simp] theorem pIsN_lst (f : PV → Bool) (s : List PV) : pIsN f (.lst s) = .ok (.bl (!f (.lst s)), false) := (rfl)
@[simp] theorem isInt_int (i : Int) : isInt (.int i) = true := (rfl)
@[simp] theorem isInt_bl (b : Bool) : isInt (.bl b) = true := (rfl)
@[simp] theorem isInt_non : isInt .non = false := (rfl)
@[simp] theorem isInt_str (s : List Nat) : isInt (.str s) = false := (rfl)
@[simp] theorem isInt_tup (s : List PV) : isInt (.tup s) = false := (rfl)
@[simp] theorem isInt_lst (s : List PV) : isInt (.lst s) = false := (rfl)
@[simp] theorem isBool_int (i : Int) : isBool (.int i) = false := (rfl)
@[simp] theorem isBool_bl (b : Bool) : isBool (.bl b) = true := (rfl)
@[simp] theorem isBool_non : isBool .non = false := (rfl)
@[simp] theorem isBool_str (s : List Nat) : isBool (.str s) = false := (rfl)
@[simp] theorem isBool_tup (s : List PV) : isBool (.tup s) = false := (rfl)
@[simp] theorem isBool_lst (s : List PV) : isBool (.lst s) = false := (rfl)
@[simp] theorem isStr_int (i : Int) : isStr (.int i) = false := (rfl)
@[simp] theorem isStr_bl (b : Bool) : isStr (.bl b) = false := (rfl)
@[simp] theorem isStr_non : isStr .non = false := (rfl)
@[simp] theorem isStr_str (s : List Nat) : isStr (.str s) = true := (rfl)
@[simp] theorem isStr_tup (s : List PV) : isStr (.tup s) = false := (rfl)
@[simp] theorem isStr_lst (s : List PV) : isStr (.lst s) = false := (rfl)
@[simp] theorem isTup_int (i : Int) : isTup (.int i) = false := (rfl)
@[simp] theorem isTup_bl (b : Bool) : isTup (.bl b) = false := (rfl)
@[simp] theorem isTup_non : isTup .non = false := (rfl)
@[simp] theorem isTup_str (s : List Nat) : isTup (.str s) = false := (rfl)
@[simp] theorem isTup_tup (s : List PV) : isTup (.tup s) = true := (rfl)
@[simp] theorem isTup_lst (s : List PV) : isTup (.lst s) = false := (rfl)
@[simp] theorem isLst_int (i : Int) : isLst (.int i) = false := (rfl)
@[simp] theorem isLst_bl (b : Bool) : isLst (.bl b) = false := (rfl)
@[simp] theorem isLst_non : isLst .non = false := (rfl)
@[simp] theorem isLst_str (s : List Nat) : isLst (.str s) = false := (rfl)
@[simp] theorem isLst_tup (s : List PV) : isLst (.tup s) = false := (rfl)
@[simp] theorem isLst_lst (s : List PV) : isLst (.lst s) = true := (rfl)
@[simp] theorem isNon_int (i : Int) : isNon (.int i) = false := (rfl)
@[simp] theorem isNon_bl (b : Bool) : isNon (.bl b) = false := (rfl)
@[simp] theorem isNon_non : isNon .non = true := (rfl)
@[simp] theorem isNon_str (s : List Nat) : isNon (.str s) = false := (rfl)
@[simp] theorem isNon_tup (s : List PV) : isNon (.tup s) = false := (rfl)
@[simp] theorem isNon_lst (s : List PV) : isNon (.lst s) = false := (rfl)
@[simp] theorem isTrue_bl (b : Bool) : isTrue (.bl b) = b := by cases b <;> rfl
@[simp] theorem isFalse_bl (b : Bool) : isFalse (.bl b) = !b := by cases b <;> rfl
/-! ### sequences -/
@[simp] theorem pLen_tup (xs : List PV) : pLen (.tup xs) = .ok (.int xs.length, false) := (rfl)
@[simp] theorem pLen_lst (xs : List PV) : pLen (.lst xs) = .ok (.int xs.length, false) := (rfl)
@[simp] theorem pLen_str (xs : List Nat) : pLen (.str xs) = .ok (.int xs.length, false) := (rfl)
@[simp] theorem pLen_dct (xs : KVs) : pLen (.dct xs) = .ok (.int xs.length, false) := (rfl)
@[simp] theorem pAdd_lst {xs ys : List PV} (h : xs.length + ys.length ≤ 16777216) : pAdd (.lst xs) (.lst ys) = .ok (.lst (xs ++ ys), true) := if_pos h
@[simp] theorem pAdd_tup {xs ys : List PV} (h : xs.length + ys.length ≤ 16777216) : pAdd (.tup xs) (.tup ys) = .ok (.tup (xs ++ ys), false) := if_pos h
@[simp] theorem pAdd_str {xs ys : List Nat} (h : xs.length + ys.length ≤ 16777216) : pAdd (.str xs) (.str ys) = .ok (.str (xs ++ ys), false) := if_pos h
@[simp] theorem pTuple_lst (xs : List PV) : pTuple (.lst xs) = .ok (.tup xs, false) := (rfl)
@[simp] theorem pTuple_tup (xs : List PV) : pTuple (.tup xs) = .ok (.tup xs, false) := (rfl)
@[simp] theorem pList_lst (xs : List PV) : pList (.lst xs) = .ok (.lst xs, true) := (rfl)
@[simp] theorem pList_tup (xs : List PV) : pList (.tup xs) = .ok (.lst xs, true) := (rfl)
@[simp] theorem pList_scr (xs : List PV) : pList (.scr xs) = .ok (.lst xs, true) := (rfl)
@[simp] theorem pRev_lst (xs : List PV) : pRev (.lst xs) = .ok (.lst xs.reverse, true) := (rfl)
@[simp] theorem pRev2_lst (xs : List PV) : pRev2 (.lst xs) = .ok (.lst xs.dropLast.reverse, true) := (rfl)
/-- a thing of a list -/
def gx {α : Type} [Inhabited α] (xs : List α) (i : Int) : α := xs.getD i.toNat default
theorem atIx_of {α : Type} [Inhabited α] {xs : List α} {i : Int} (h : 0 ≤ i) (h2 : i < xs.length) : atIx xs i = some (gx xs i) := by
  unfold atIx ixOf
  rw [if_pos h, if_pos h2]
  have : i.toNat < xs.length := by omega
  simp only [gx, List.getD_eq_getElem?_getD, List.getElem?_eq_getElem this, Option.getD_some]
theorem atIx_last {α : Type} {xs : List α} {x : α} : atIx (xs ++ [x]) (-1) = some x := by
  unfold atIx ixOf
  rw [if_neg (by omega), if_pos (by simp; omega)]
  have : ((-1 : Int) + ((xs ++ [x]).length : Int)).toNat = xs.length := by simp; omega
  simp only [this]
  simp
theorem gx_map {α : Type} [Inhabited α] (f : α → PV) {xs : List α} {i : Int} (h : 0 ≤ i) (h2 : i < xs.length) : gx (xs.map f) i = f (gx xs i) := by
  have : i.toNat < xs.length := by omega
  simp only [gx, List.getD_eq_getElem?_getD, List.getElem?_map, List.getElem?_eq_getElem this, Option.map_some, Option.getD_some]
theorem gx_mem {α : Type} [Inhabited α] {xs : List α} {i : Int} (h : 0 ≤ i) (h2 : i < xs.length) : gx xs i ∈ xs := by
  have : i.toNat < xs.length := by omega
  simp only [gx, List.getD_eq_getElem?_getD, List.getElem?_eq_getElem this, Option.getD_some]
  exact List.getElem_mem this
@[simp] theorem pIx_tupm {α : Type} [Inhabited α] (f : α → PV) {xs : List α} {i : Int} (h : 0 ≤ i) (h2 : i < xs.length) : pIx (.tup (xs.map f)) (.int i) = .ok (f (gx xs i), false) := by
  show (match atIx (xs.map f) i with | some v => old v | none => .stuck) = _
  rw [atIx_of h (by simpa using h2), gx_map f h h2]; rfl
@[simp] theorem pIx_lstm {α : Type} [Inhabited α] (f : α → PV) {xs : List α} {i : Int} (h : 0 ≤ i) (h2 : i < xs.length) : pIx (.lst (xs.map f)) (.int i) = .ok (f (gx xs i), false) := by
  show (match atIx (xs.map f) i with | some v => old v | none => .stuck) = _
  rw [atIx_of h (by simpa using h2), gx_map f h h2]; rfl
theorem pIx_tup {xs : List PV} {i : Int} (h : 0 ≤ i) (h2 : i < xs.length) : pIx (.tup xs) (.int i) = .ok (gx xs i, false) := by
  show (match atIx xs i with | some v => old v | none => .stuck) = _
  rw [atIx_of h h2]; rfl
theorem pIx_lst {xs : List PV} {i : Int} (h : 0 ≤ i) (h2 : i < xs.length) : pIx (.lst xs) (.int i) = .ok (gx xs i, false) := by
  show (match atIx xs i with | some v => old v | none => .stuck) = _
  rw [atIx_of h h2]; rfl
@[simp] theorem pIx_t0 (a : PV) (r : List PV) : pIx (.tup (a :: r)) (.int 0) = .ok (a, false) := by rw [pIx_tup (by omega) (by simp only [List.length_cons]; omega)]; rfl
@[simp] theorem pIx_t1 (a b : PV) (r : List PV) : pIx (.tup (a :: b :: r)) (.int 1) = .ok (b, false) := by rw [pIx_tup (by omega) (by simp only [List.length_cons]; omega)]; rfl
@[simp] theorem pIx_t2 (a b c : PV) (r : List PV) : pIx (.tup (a :: b :: c :: r)) (.int 2) = .ok (c, false) := by rw [pIx_tup (by omega) (by simp only [List.length_cons]; omega)]; rfl
@[simp] theorem pIx_l0 (a : PV) (r : List PV) : pIx (.lst (a :: r)) (.int 0) = .ok (a, false) := by rw [pIx_lst (by omega) (by simp only [List.length_cons]; omega)]; rfl
@[simp] theorem pIx_l1 (a b : PV) (r : List PV) : pIx (.lst (a :: b :: r)) (.int 1) = .ok (b, false) := by rw [pIx_lst (by omega) (by simp only [List.length_cons]; omega)]; rfl
@[simp] theorem pIx_l2 (a b c : PV) (r : List PV) : pIx (.lst (a :: b :: c :: r)) (.int 2) = .ok (c, false) := by rw [pIx_lst (by omega) (by simp only [List.length_cons]; omega)]; rfl
@[simp] theorem pIx_tl (xs : List PV) (x : PV) : pIx (.tup (xs ++ [x])) (.int (-1)) = .ok (x, false) := by
  show (match atIx (xs ++ [x]) (-1) with | some v => old v | none => .stuck) = _
  rw [atIx_last]; rfl
@[simp] theorem pIx_ll (xs : List PV) (x : PV) : pIx (.lst (xs ++ [x])) (.int (-1)) = .ok (x, false) := by
  show (match atIx (xs ++ [x]) (-1) with | some v => old v | none => .stuck) = _
  rw [atIx_last]; rfl
def gl {α : Type} [Inhabited α] (xs : List α) : α := xs.getLast?.getD default
theorem split_last {α : Type} [Inhabited α] {xs : List α} (h : xs ≠ []) : xs = xs.dropLast ++ [gl xs] := by
  have := List.dropLast_concat_getLast h
  rw [gl, List.getLast?_eq_some_getLast h, Option.getD_some]
  exact this.symm
theorem pIx_tlm {α : Type} [Inhabited α] (f : α → PV) {xs : List α} (h : xs ≠ []) : pIx (.tup (xs.map f)) (.int (-1)) = .ok (f (gl xs), false) := by
  rw [split_last h, List.map_append, List.map_singleton, pIx_tl]
  congr 3
  simp [gl]
theorem pIx_llm {α : Type} [Inhabited α] (f : α → PV) {xs : List α} (h : xs ≠ []) : pIx (.lst (xs.map f)) (.int (-1)) = .ok (f (gl xs), false) := by
  rw [split_last h, List.map_append, List.map_singleton, pIx_ll]
  congr 3
  simp [gl]
/-! ### slices -/
theorem cutL_to {α : Type} {xs : List α} {i : Int} (h : 0 ≤ i) : cutL xs none (some i) = xs.take i.toNat := by
  unfold cutL clampI
  simp only [List.drop_zero, Nat.sub_zero]
  rw [if_neg (by omega)]
  rw [List.take_eq_take_iff]
  omega
theorem cutL_from {α : Type} {xs : List α} {i : Int} (h : 0 ≤ i) : cutL xs (some i) none = xs.drop i.toNat := by
  unfold cutL clampI
  simp only []
  rw [if_neg (by omega)]
  by_cases q : i.toNat ≤ xs.length
  · rw [Nat.min_eq_left q, List.take_of_length_le (by rw [List.length_drop]; exact Nat.le_refl _)]
  · rw [Nat.min_eq_right (by omega), List.drop_of_length_le (Nat.le_refl _), List.drop_of_length_le (by omega)]; simp
theorem cutL_mid {α : Type} {xs : List α} {i j : Int} (h : 0 ≤ i) (h2 : 0 ≤ j) (h3 : i ≤ xs.length) : cutL xs (some i) (some j) = (xs.drop i.toNat).take (j.toNat - i.toNat) := by
  unfold cutL clampI
  simp only []
  rw [if_neg (by omega : ¬ i < 0), if_neg (by omega : ¬ j < 0)]
  rw [show min i.toNat xs.length = i.toNat from Nat.min_eq_left (by omega), List.take_eq_take_iff, List.length_drop]
  omega
@[simp] theorem pCut_lt {xs : List PV} {i : Int} (h : 0 ≤ i) : pCut none (some i) (.lst xs) = .ok (.lst (xs.take i.toNat), true) := by rw [← cutL_to h]; rfl
@[simp] theorem pCut_tt {xs : List PV} {i : Int} (h : 0 ≤ i) : pCut none (some i) (.tup xs) = .ok (.tup (xs.take i.toNat), false) := by rw [← cutL_to h]; rfl
@[simp] theorem pCut_lf {xs : List PV} {i : Int} (h : 0 ≤ i) : pCut (some i) none (.lst xs) = .ok (.lst (xs.drop i.toNat), true) := by rw [← cutL_from h]; rfl
@[simp] theorem pCut_tf {xs : List PV} {i : Int} (h : 0 ≤ i) : pCut (some i) none (.tup xs) = .ok (.tup (xs.drop i.toNat), false) := by rw [← cutL_from h]; rfl
/-! ### equality, typed -/
def EqOn {α : Type} [DecidableEq α] (n : Nat) (f : α → PV) : Prop := ∀ a b, peqF n (f a) (f b) = some (decide (a = b))
theorem EqOn.int (n : Nat) : EqOn n PV.int := fun a b => by rw [peqF]; all_goals first | rfl | simp
theorem EqOn.str (n : Nat) : EqOn n PV.str := fun a b => by rw [peqF]; all_goals first | (simp; done) | (congr 1; by_cases q : a = b <;> simp [q])
theorem EqOn.all {α : Type} [DecidableEq α] {n : Nat} {f : α → PV} (h : EqOn n f) : ∀ xs ys : List α, eqAll (peqF n) (xs.map f) (ys.map f) = some (decide (xs = ys)) := by
  intro xs
  induction xs with
  | nil => intro ys; cases ys <;> simp [eqAll]
  | cons x xs ih => intro ys; cases ys with
    | nil => simp [eqAll]
    | cons y ys =>
      simp only [List.map_cons, eqAll, h x y, ih ys]
      by_cases q : x = y <;> simp [q]
theorem EqOn.tup {α : Type} [DecidableEq α] {n : Nat} {f : α → PV} (h : EqOn n f) : EqOn (n + 1) fun xs : List α => PV.tup (xs.map f) := fun xs ys => by
  show peqF (n + 1) _ _ = _
  rw [peqF]; exact h.all xs ys
theorem EqOn.lst {α : Type} [DecidableEq α] {n : Nat} {f : α → PV} (h : EqOn n f) : EqOn (n + 1) fun xs : List α => PV.lst (xs.map f) := fun xs ys => by
  show peqF (n + 1) _ _ = _
  rw [peqF]; exact h.all xs ys
theorem EqOn.pEq {α : Type} [DecidableEq α] {f : α → PV} (h : EqOn 12 f) (a b : α) : Ice.pEq (f a) (f b) = .ok (.bl (decide (a = b)), false) := by unfold Ice.pEq peq; rw [h a b]; rfl
theorem EqOn.pNe {α : Type} [DecidableEq α] {f : α → PV} (h : EqOn 12 f) (a b : α) : Ice.pNe (f a) (f b) = .ok (.bl (!decide (a = b)), false) := by unfold Ice.pNe peq; rw [h a b]; rfl
theorem EqOn.inL {α : Type} [DecidableEq α] {f : α → PV} (h : EqOn 12 f) (a : α) (xs : List α) : Ice.inL (f a) (xs.map f) = some (decide (a ∈ xs)) := by
  induction xs with
  | nil => rfl
  | cons x xs ih =>
    simp only [List.map_cons, Ice.inL, peq, h x a, ih]
    by_cases q : x = a
    · simp [q]
    · simp [q, Ne.symm q]
theorem EqOn.indexL {α : Type} [DecidableEq α] {f : α → PV} (h : EqOn 12 f) (a : α) (xs : List α) : Ice.indexL (f a) (xs.map f) = some (if a ∈ xs then some (xs.idxOf a) else none) := by
  induction xs with
  | nil => rfl
  | cons x xs ih =>
    simp only [List.map_cons, Ice.indexL, peq, h x a, ih]
    by_cases q : x = a
    · simp [q]
    · have q' : ¬ a = x := Ne.symm q
      by_cases m : a ∈ xs
      · simp [q, q', m, List.idxOf_cons, beq_eq_false_iff_ne.mpr q]
      · simp [q, q', m]
@[simp] theorem pEq_tint (xs ys : List Int) : pEq (.tup (xs.map .int)) (.tup (ys.map .int)) = .ok (.bl (decide (xs = ys)), false) := EqOn.pEq (EqOn.int 11).tup xs ys
@[simp] theorem pNe_tint (xs ys : List Int) : pNe (.tup (xs.map .int)) (.tup (ys.map .int)) = .ok (.bl (!decide (xs = ys)), false) := EqOn.pNe (EqOn.int 11).tup xs ys
@[simp] theorem pEq_lint (xs ys : List Int) : pEq (.lst (xs.map .int)) (.lst (ys.map .int)) = .ok (.bl (decide (xs = ys)), false) := EqOn.pEq (EqOn.int 11).lst xs ys
@[simp] theorem pNe_lint (xs ys : List Int) : pNe (.lst (xs.map .int)) (.lst (ys.map .int)) = .ok (.bl (!decide (xs = ys)), false) := EqOn.pNe (EqOn.int 11).lst xs ys
@[simp] theorem pEq_lnil (xs : List PV) : pEq (.lst xs) (.lst []) = .ok (.bl xs.isEmpty, false) := by
  unfold pEq peq; rw [show DEEP = 11 + 1 from rfl, peqF]; cases xs <;> rfl
@[simp] theorem pNe_lnil (xs : List PV) : pNe (.lst xs) (.lst []) = .ok (.bl (!xs.isEmpty), false) := by
  unfold pNe peq; rw [show DEEP = 11 + 1 from rfl, peqF]; cases xs <;> rfl
@[simp] theorem pInn_lint (x : Int) (xs : List Int) : pInn (.int x) (.lst (xs.map .int)) = .ok (.bl (decide (x ∈ xs)), false) := by
  show ofB (inL (.int x) (xs.map .int)) = _
  rw [EqOn.inL (EqOn.int 12)]; rfl
@[simp] theorem pInn_tint (x : Int) (xs : List Int) : pInn (.int x) (.tup (xs.map .int)) = .ok (.bl (decide (x ∈ xs)), false) := by
  show ofB (inL (.int x) (xs.map .int)) = _
  rw [EqOn.inL (EqOn.int 12)]; rfl
@[simp] theorem pNin_lint (x : Int) (xs : List Int) : pNin (.int x) (.lst (xs.map .int)) = .ok (.bl (!decide (x ∈ xs)), false) := by
  show ofB ((inL (.int x) (xs.map .int)).map (!·)) = _
  rw [EqOn.inL (EqOn.int 12)]; rfl
@[simp] theorem pNin_tint (x : Int) (xs : List Int) : pNin (.int x) (.tup (xs.map .int)) = .ok (.bl (!decide (x ∈ xs)), false) := by
  show ofB ((inL (.int x) (xs.map .int)).map (!·)) = _
  rw [EqOn.inL (EqOn.int 12)]; rfl
theorem pIndex_int {x : Int} {xs : List Int} (h : x ∈ xs) : pIndex (.lst (xs.map .int)) (.int x) = .ok (.int (xs.idxOf x), false) := by
  show (match indexL (.int x) (xs.map .int) with | some (some k) => old (.int k) | _ => .stuck) = _
  rw [EqOn.indexL (EqOn.int 12), if_pos h]; rfl
/-! ### all, any, sums -/
theorem allB_map {α : Type} (f : α → Bool) (xs : List α) : allB (xs.map fun x => .bl (f x)) = some (xs.all f) := by
  induction xs with
  | nil => rfl
  | cons x xs ih => simp [allB, ih]
@[simp] theorem pAll_map {α : Type} (f : α → Bool) (xs : List α) : pAll (.lst (xs.map fun x => .bl (f x))) = .ok (.bl (xs.all f), false) := by
  show ofB (allB _) = _
  rw [allB_map]; rfl
theorem anyB_map {α : Type} (f : α → Bool) (xs : List α) : anyB (xs.map fun x => .bl (f x)) = some (xs.any f) := by
  induction xs with
  | nil => rfl
  | cons x xs ih => simp [anyB, ih]
@[simp] theorem pAny_map {α : Type} (f : α → Bool) (xs : List α) : pAny (.lst (xs.map fun x => .bl (f x))) = .ok (.bl (xs.any f), false) := by
  show ofB (anyB _) = _
  rw [anyB_map]; rfl
theorem sumI_map (xs : List Int) : sumI (xs.map .int) = some xs.sum := by
  induction xs with
  | nil => rfl
  | cons x xs ih => simp [sumI, ih]
@[simp] theorem pSum_lst (xs : List Int) : pSum (.lst (xs.map .int)) = .ok (.int xs.sum, false) := by
  show (match sumI (xs.map .int) with | some i => old (.int i) | none => .stuck) = _
  rw [sumI_map]; rfl
@[simp] theorem pSum_tup (xs : List Int) : pSum (.tup (xs.map .int)) = .ok (.int xs.sum, false) := by
  show (match sumI (xs.map .int) with | some i => old (.int i) | none => .stuck) = _
  rw [sumI_map]; rfl
theorem intsOf_map (xs : List Int) : intsOf (xs.map .int) = some xs := by
  induction xs with
  | nil => rfl
  | cons x xs ih => simp [intsOf, ih]
theorem nubI_nodup {xs : List Int} (h : xs.Nodup) : nubI xs = xs := by
  induction xs with
  | nil => rfl
  | cons x xs ih =>
    rw [List.nodup_cons] at h
    unfold nubI
    rw [if_neg (by simpa using h.1), ih h.2]
theorem pLenSet_int {xs : List Int} (h : xs.length ≤ 4000) : pLenSet (.tup (xs.map .int)) = .ok (.int (nubI xs).length, false) := by
  show (match intsOf (xs.map .int) with | some ns => if ns.length ≤ 4000 then old (.int (nubI ns).length) else .stuck | none => .stuck) = _
  rw [intsOf_map]
  exact if_pos h
/-! ### changes -/
@[simp] theorem mApp_lst {x : PV} {xs : List PV} (h : xs.length + 1 ≤ 16777216) : mApp x (.lst xs) = .ok (.non, .lst (xs ++ [x])) := if_pos h
@[simp] theorem mExt_lst {xs ys : List PV} (h : xs.length + ys.length ≤ 16777216) : mExt (PV.lst ys) (PV.lst xs) = .ok (.non, PV.lst (xs ++ ys)) := if_pos h
theorem eraseIdx_map' {α : Type} (f : α → PV) : ∀ (xs : List α) (k : Nat), (xs.map f).eraseIdx k = (xs.eraseIdx k).map f := by
  intro xs
  induction xs with
  | nil => intros; rfl
  | cons x xs ih => intro k; cases k with
    | zero => rfl
    | succ k => simp [ih]
theorem ixOf_of {n : Nat} {i : Int} (h : 0 ≤ i) (h2 : i < n) : ixOf n i = some i.toNat := by
  unfold ixOf; rw [if_pos h, if_pos h2]
@[simp] theorem mPop1_lst {α : Type} [Inhabited α] (f : α → PV) {xs : List α} {i : Int} (h : 0 ≤ i) (h2 : i < xs.length) : mPop1 (.int i) (.lst (xs.map f)) = .ok (f (gx xs i), PV.lst ((xs.eraseIdx i.toNat).map f)) := by
  show (match ixOf (xs.map f).length i with | some j => (match (xs.map f)[j]? with | some x => R.ok (x, PV.lst ((xs.map f).eraseIdx j)) | none => .stuck) | none => .stuck) = _
  rw [ixOf_of h (by simpa using h2)]
  have : i.toNat < xs.length := by omega
  simp only [List.getElem?_map, List.getElem?_eq_getElem this, Option.map_some, gx, List.getD_eq_getElem?_getD, Option.getD_some, eraseIdx_map']
@[simp] theorem mSet_lst {xs : List PV} {i : Int} {v : PV} (h : 0 ≤ i) (h2 : i < xs.length) : mSet (.int i) v (.lst xs) = .ok (.non, .lst (xs.set i.toNat v)) := by
  show (match ixOf xs.length i with | some j => R.ok (PV.non, PV.lst (xs.set j v)) | none => .stuck) = _
  rw [ixOf_of h h2]
/-! ### walks -/
def rng1 (ρ : Env) : PV → R (List PV × Option Nat × Env)
  | .int j => if okR j then .ok (rangeL 0 j.toNat, none, ρ) else .stuck
  | _ => .stuck
def KR1 : Opd × Env → R (List PV × Option Nat × Env) := fun x => match x with | (x, ρ) => (deref ρ x).bind (rng1 ρ)
@[simp] theorem KR1_ap (x : Opd) (ρ : Env) : KR1 (x, ρ) = (deref ρ x).bind (rng1 ρ) := (rfl)
@[simp] theorem itR1_ap (a : Op) (F : FE) (ρ : Env) : itR1 a F ρ = (a F ρ).bind KR1 := (rfl)
@[simp] theorem rng1_int {ρ : Env} {j : Int} (h1 : -4611686018427387904 ≤ j) (h2 : j < 4611686018427387904) : rng1 ρ (.int j) = .ok (rangeL 0 j.toNat, none, ρ) := if_pos (okR_of h1 h2)
def rng2 (ρ : Env) : PV → PV → R (List PV × Option Nat × Env)
  | .int i, .int j => if okR i && okR j then .ok (rangeL i (j - i).toNat, none, ρ) else .stuck
  | _, _ => .stuck
def KR2c (y : Opd) (ρ : Env) : PV → R (List PV × Option Nat × Env) := fun p => (deref ρ y).bind (rng2 ρ p)
@[simp] theorem KR2c_ap (y : Opd) (ρ : Env) (p : PV) : KR2c y ρ p = (deref ρ y).bind (rng2 ρ p) := (rfl)
def KR2b (x : Opd) : Opd × Env → R (List PV × Option Nat × Env) := fun z => match z with | (y, ρ) => (deref ρ x).bind (KR2c y ρ)
@[simp] theorem KR2b_ap (x y : Opd) (ρ : Env) : KR2b x (y, ρ) = (deref ρ x).bind (KR2c y ρ) := (rfl)
def KR2a (b : Op) (F : FE) : Opd × Env → R (List PV × Option Nat × Env) := fun z => match z with | (x, ρ) => (b F ρ).bind (KR2b x)
@[simp] theorem KR2a_ap (b : Op) (F : FE) (x : Opd) (ρ : Env) : KR2a b F (x, ρ) = (b F ρ).bind (KR2b x) := (rfl)
@[simp] theorem itR2_ap (a b : Op) (F : FE) (ρ : Env) : itR2 a b F ρ = (a F ρ).bind (KR2a b F) := (rfl)
@[simp] theorem rng2_int {ρ : Env} {i j : Int} (h1 : -4611686018427387904 ≤ i) (h2 : i < 4611686018427387904) (h3 : -4611686018427387904 ≤ j) (h4 : j < 4611686018427387904) : rng2 ρ (.int i) (.int j) = .ok (rangeL i (j - i).toNat, none, ρ) := if_pos (by rw [okR_of h1 h2, okR_of h3 h4]; rfl)
def rangeD (lo : Int) (n : Nat) : List PV := (List.range n).map fun (k : Nat) => .int (lo - (k : Int))
def rng3 (ρ : Env) : PV → PV → R (List PV × Option Nat × Env)
  | .int i, .int j => if okR i && okR j then .ok (rangeD i (i - j).toNat, none, ρ) else .stuck
  | _, _ => .stuck
def KR3c (y : Opd) (ρ : Env) : PV → R (List PV × Option Nat × Env) := fun p => (deref ρ y).bind (rng3 ρ p)
@[simp] theorem KR3c_ap (y : Opd) (ρ : Env) (p : PV) : KR3c y ρ p = (deref ρ y).bind (rng3 ρ p) := (rfl)
def KR3b (x : Opd) : Opd × Env → R (List PV × Option Nat × Env) := fun z => match z with | (y, ρ) => (deref ρ x).bind (KR3c y ρ)
@[simp] theorem KR3b_ap (x y : Opd) (ρ : Env) : KR3b x (y, ρ) = (deref ρ x).bind (KR3c y ρ) := (rfl)
def KR3a (b : Op) (F : FE) : Opd × Env → R (List PV × Option Nat × Env) := fun z => match z with | (x, ρ) => (b F ρ).bind (KR3b x)
@[simp] theorem KR3a_ap (b : Op) (F : FE) (x : Opd) (ρ : Env) : KR3a b F (x, ρ) = (b F ρ).bind (KR3b x) := (rfl)
@[simp] theorem itR3_ap (a b : Op) (F : FE) (ρ : Env) : itR3 a b F ρ = (a F ρ).bind (KR3a b F) := (rfl)
@[simp] theorem rng3_int {ρ : Env} {i j : Int} (h1 : -4611686018427387904 ≤ i) (h2 : i < 4611686018427387904) (h3 : -4611686018427387904 ≤ j) (h4 : j < 4611686018427387904) : rng3 ρ (.int i) (.int j) = .ok (rangeD i (i - j).toNat, none, ρ) := if_pos (by rw [okR_of h1 h2, okR_of h3 h4]; rfl)
@[simp] theorem rangeL_len (lo : Int) (n : Nat) : (rangeL lo n).length = n := by simp [rangeL]
def rangeI (m : Nat) : List Int := (List.range m).map fun (k : Nat) => (k : Int)
@[simp] theorem rangeI_len (m : Nat) : (rangeI m).length = m := by simp [rangeI]
theorem rangeL_0 (n : Nat) : rangeL 0 n = (rangeI n).map .int := by simp [rangeL, rangeI]
@[simp] theorem rangeI_zero : rangeI 0 = [] := by simp [rangeI]
theorem rangeI_mem {m : Nat} {x : Int} : x ∈ rangeI m ↔ 0 ≤ x ∧ x < m := by
  simp only [rangeI, List.mem_map, List.mem_range]
  constructor
  · rintro ⟨k, h, rfl⟩; omega
  · intro ⟨a, b⟩; exact ⟨x.toNat, by omega, by omega⟩
theorem rangeI_nodup (m : Nat) : (rangeI m).Nodup := by
  rw [rangeI, List.nodup_iff_pairwise_ne, List.pairwise_map]
  exact (List.nodup_iff_pairwise_ne.mp List.nodup_range).imp fun h e => h (by omega)
theorem rangeI_gx {m : Nat} {i : Int} (h : 0 ≤ i) (h2 : i < m) : gx (rangeI m) i = i := by
  have : i.toNat < m := by omega
  simp only [gx, rangeI, List.getD_eq_getElem?_getD, List.getElem?_map, List.getElem?_range this, Option.map_some, Option.getD_some]
  omega
@[simp] theorem walk_tup (xs : List PV) : walkOf (.tup xs) = some xs := (rfl)
@[simp] theorem walk_lst (xs : List PV) : walkOf (.lst xs) = some xs := (rfl)
@[simp] theorem walk_str (xs : List Nat) : walkOf (.str xs) = some (xs.map fun c => .str [c]) := (rfl)
def KiW (l : Option Nat) (ρ : Env) : List PV → R (List PV × Option Nat × Env) := fun xs => .ok (xs, l, ρ)
@[simp] theorem KiW_ap (l : Option Nat) (ρ : Env) (xs : List PV) : KiW l ρ xs = .ok (xs, l, ρ) := (rfl)
def KiE : PV × Bool × Env → R (List PV × Option Nat × Env) := fun z => match z with | (p, _, ρ) => (R.of (walkOf p)).bind (KiW none ρ)
@[simp] theorem KiE_ap (p : PV) (n : Bool) (ρ : Env) : KiE (p, n, ρ) = (R.of (walkOf p)).bind (KiW none ρ) := (rfl)
@[simp] theorem itE_ap (d : Ev) (F : FE) (ρ : Env) : itE d F ρ = (d F ρ).bind KiE := (rfl)
def slW (i : Nat) (ρ : Env) : Slot → R (List PV × Option Nat × Env)
  | .val p => (R.of (walkOf p)).bind fun xs => .ok (xs, none, ρ)
  | .own p => (R.of (walkOf p)).bind fun xs => .ok (xs, some i, sS ρ i (.lok p))
  | .lok p => (R.of (walkOf p)).bind fun xs => .ok (xs, none, ρ)
  | _ => .stuck
@[simp] theorem slW_val (i : Nat) (ρ : Env) (p : PV) : slW i ρ (.val p) = (R.of (walkOf p)).bind (KiW none ρ) := (rfl)
@[simp] theorem slW_own (i : Nat) (ρ : Env) (p : PV) : slW i ρ (.own p) = (R.of (walkOf p)).bind (KiW (some i) (sS ρ i (.lok p))) := (rfl)
@[simp] theorem slW_lok (i : Nat) (ρ : Env) (p : PV) : slW i ρ (.lok p) = (R.of (walkOf p)).bind (KiW none ρ) := (rfl)
@[simp] theorem itV_ap (i : Nat) (F : FE) (ρ : Env) : itV i F ρ = slW i ρ (gS ρ i) := by
  unfold itV slW; cases gS ρ i <;> rfl
def KZb (p : PV) : PV × Bool × Env → R (List PV × Option Nat × Env) := fun z => match z with | (q, _, ρ) => (R.of (zipV p q)).bind (KiW none ρ)
@[simp] theorem KZb_ap (p q : PV) (n : Bool) (ρ : Env) : KZb p (q, n, ρ) = (R.of (zipV p q)).bind (KiW none ρ) := (rfl)
def KZa (b : Ev) (F : FE) : PV × Bool × Env → R (List PV × Option Nat × Env) := fun z => match z with | (p, _, ρ) => (b F ρ).bind (KZb p)
@[simp] theorem KZa_ap (b : Ev) (F : FE) (p : PV) (n : Bool) (ρ : Env) : KZa b F (p, n, ρ) = (b F ρ).bind (KZb p) := (rfl)
@[simp] theorem itZ_ap (a b : Ev) (F : FE) (ρ : Env) : itZ a b F ρ = (a F ρ).bind (KZa b F) := (rfl)
theorem zipP_map {α β : Type} (f : α → PV) (g : β → PV) : ∀ (xs : List α) (ys : List β), zipP (xs.map f) (ys.map g) = (xs.zip ys).map fun z => .tup [f z.1, g z.2] := by
  intro xs
  induction xs with
  | nil => intro ys; rfl
  | cons x xs ih => intro ys; cases ys with
    | nil => rfl
    | cons y ys => simp [zipP, ih]
theorem zipP_next (f : Nat → PV) (m : Nat) : zipP ((List.range (m + 1)).map f) (((List.range (m + 1)).map f).drop 1) = (List.range m).map fun k => .tup [f k, f (k + 1)] := by
  have g : ∀ (xs ys : List PV) (i : Nat), (zipP xs ys)[i]? = match xs[i]?, ys[i]? with
    | some x, some y => some (.tup [x, y])
    | _, _ => none := by
    intro xs
    induction xs with
    | nil => intro ys i; simp [zipP]
    | cons x xs ih => intro ys i; cases ys with
      | nil => simp [zipP]
      | cons y ys => cases i with
        | zero => simp [zipP]
        | succ i => simp [zipP, ih]
  apply List.ext_getElem?
  intro i
  rw [g, List.getElem?_drop]
  by_cases h : i < m
  · simp [List.getElem?_range, h, show i < m + 1 by omega, show 1 + i < m + 1 by omega, Nat.add_comm 1 i]
  · have h1 : ¬ (1 + i < m + 1) := by omega
    rw [List.getElem?_map, List.getElem?_map, List.getElem?_map, List.getElem?_eq_none (i := 1 + i) (by simp; omega), List.getElem?_eq_none (i := i) (l := List.range m) (by simp; omega)]
    simp
@[simp] theorem zipV_lst (xs ys : List PV) : zipV (.lst xs) (.lst ys) = some (zipP xs ys) := (rfl)
@[simp] theorem zipV_tup (xs ys : List PV) : zipV (.tup xs) (.tup ys) = some (zipP xs ys) := (rfl)
/-- plain values, to a depth -/
def plain : Nat → PV → Bool
  | _, .non => true | _, .bl _ => true | _, .int _ => true | _, .str _ => true
  | n + 1, .tup xs => decide (xs.length ≤ 1000000) && xs.all (plain n)
  | _, _ => false
@[simp] theorem plain_non (n : Nat) : plain n .non = true := by cases n <;> rfl
@[simp] theorem plain_bl (n : Nat) (b : Bool) : plain n (.bl b) = true := by cases n <;> rfl
@[simp] theorem plain_int (n : Nat) (i : Int) : plain n (.int i) = true := by cases n <;> rfl
@[simp] theorem plain_str (n : Nat) (s : List Nat) : plain n (.str s) = true := by cases n <;> rfl
@[simp] theorem plain_tup (n : Nat) (xs : List PV) : plain (n + 1) (.tup xs) = (decide (xs.length ≤ 1000000) && xs.all (plain n)) := (rfl)
theorem eLC_true {own : List Nat} {it : It} {tg : Tg} {d : Ev} {F : FE} {ρ ρ1 : Env} {l : Option Nat} (n : Nat)
    (hit : it F ρ = .ok (rangeL 0 n, l, ρ1)) (hp : plainS ρ1 own = true) (hl : n ≤ 16777216) (hs : ∀ k : Nat, k < n → Ret ((tg (.int k) (wipeS own ρ1)).bind (d F)) fun r => r.1 = .bl true ∧ wipeS own r.2.2 = wipeS own ρ1) :
    ∃ xs : List Nat, eLC own it tg none d F ρ = .ok (.lst (xs.map fun _ => .bl true), true, unlock l ρ1) := ⟨List.range n, eLC_map (fun k : Nat => .int (0 + (k : Int))) (fun _ => .bl true) (List.range n) hit rfl hp (by simpa using hl) (fun k hk => by
    rw [Int.zero_add]; exact hs k (by simpa using hk))⟩
theorem range_get {n j k : Nat} (h : (List.range n)[j]? = some k) : k = j ∧ j < n := by
  by_cases q : j < n
  · rw [List.getElem?_range q] at h; cases h; exact ⟨rfl, q⟩
  · rw [List.getElem?_eq_none (by simp; omega)] at h; cases h
theorem for_range {it : It} {tg : Tg} {b : Sx} {F : FE} {ρ ρ1 : Env} {l : Option Nat} (lo : Int) (n : Nat) (I : Nat → Env → Prop) (P : Flow × Env → Prop)
    (hit : it F ρ = .ok (rangeL lo n, l, ρ1)) (h0 : I 0 ρ1)
    (hs : ∀ j ρ, j < n → I j ρ → Ret ((tg (.int (lo + (j : Int))) ρ).bind (b F)) fun r => r.1 = .nx ∧ I (j + 1) r.2)
    (hP : ∀ ρ, I n ρ → P (.nx, unlock l ρ)) : Ret (sFor it tg b F ρ) P :=
  for_inv (fun k : Nat => .int (lo + (k : Int))) (List.range n) I P hit rfl h0 (fun j x ρ hx _ hI => by
    obtain ⟨rfl, hj⟩ := range_get hx
    exact hs _ ρ hj hI) (fun ρ hI => hP ρ (by simpa using hI))
theorem for_rangeD {it : It} {tg : Tg} {b : Sx} {F : FE} {ρ ρ1 : Env} {l : Option Nat} (lo : Int) (n : Nat) (I : Nat → Env → Prop) (P : Flow × Env → Prop)
    (hit : it F ρ = .ok (rangeD lo n, l, ρ1)) (h0 : I 0 ρ1)
    (hs : ∀ j ρ, j < n → I j ρ → Ret ((tg (.int (lo - (j : Int))) ρ).bind (b F)) fun r => r.1 = .nx ∧ I (j + 1) r.2)
    (hP : ∀ ρ, I n ρ → P (.nx, unlock l ρ)) : Ret (sFor it tg b F ρ) P :=
  for_inv (fun k : Nat => .int (lo - (k : Int))) (List.range n) I P hit rfl h0 (fun j x ρ hx _ hI => by
    obtain ⟨rfl, hj⟩ := range_get hx
    exact hs _ ρ hj hI) (fun ρ hI => hP ρ (by simpa using hI))
theorem for_range_may {it : It} {tg : Tg} {b : Sx} {F : FE} {ρ ρ1 : Env} {l : Option Nat} (lo : Int) (n : Nat) (I : Nat → Env → Prop) (P : Flow × Env → Prop)
    (hit : it F ρ = .ok (rangeL lo n, l, ρ1)) (h0 : I 0 ρ1)
    (hs : ∀ j ρ, j < n → I j ρ → Ret ((tg (.int (lo + (j : Int))) ρ).bind (b F)) fun r => (r.1 = .nx ∧ I (j + 1) r.2) ∨ ∃ p n, r.1 = .rt p n ∧ P (.rt p n, unlock l r.2))
    (hP : ∀ ρ, I n ρ → P (.nx, unlock l ρ)) : Ret (sFor it tg b F ρ) P :=
  for_may (fun k : Nat => .int (lo + (k : Int))) (List.range n) I P hit rfl h0 (fun j x ρ hx _ hI => by
    obtain ⟨rfl, hj⟩ := range_get hx
    exact hs _ ρ hj hI) (fun ρ hI => hP ρ (by simpa using hI))
end Ice
end
section
set_option autoImplicit false
set_option linter.all false
namespace Ice
/-! ### players in a ring -/
/-- the first one goes behind -/
def rot1 (L : List Int) : List Int := L.drop 1 ++ L.take 1
def rotN : Nat → List Int → List Int
  | 0, L => L
  | t + 1, L => rot1 (rotN t L)
theorem rot1_len (L : List Int) : (rot1 L).length = L.length := by simp [rot1]; omega
theorem rotN_len (t : Nat) (L : List Int) : (rotN t L).length = L.length := by
  induction t with
  | zero => rfl
  | succ t ih => show (rot1 _).length = _; rw [rot1_len, ih]
theorem rot1_get (L : List Int) (i : Nat) (h : i < L.length) : (rot1 L)[i]? = L[(i + 1) % L.length]? := by
  cases L with
  | nil => simp at h
  | cons x L =>
    simp only [rot1, List.drop_succ_cons, List.drop_zero, List.take_succ_cons, List.take_zero, List.length_cons] at *
    by_cases q : i < L.length
    · rw [List.getElem?_append_left q, Nat.mod_eq_of_lt (by omega), List.getElem?_cons_succ]
    · have : i = L.length := by omega
      subst this
      rw [Nat.mod_self]
      simp
theorem rotN_get (t : Nat) (L : List Int) : ∀ i, i < L.length → (rotN t L)[i]? = L[(i + t) % L.length]? := by
  induction t with
  | zero => intro i h; simp [rotN, Nat.mod_eq_of_lt h]
  | succ t ih =>
    intro i h
    show (rot1 (rotN t L))[i]? = _
    rw [rot1_get _ _ (by rw [rotN_len]; exact h), rotN_len, ih _ (Nat.mod_lt _ (by omega))]
    congr 1
    rw [Nat.mod_add_mod]
    congr 1
    omega
theorem rot1_mem (L : List Int) (x : Int) : x ∈ rot1 L ↔ x ∈ L := by
  simp only [rot1, List.mem_append]
  rw [Or.comm, ← List.mem_append, List.take_append_drop]
theorem rotN_mem (t : Nat) (L : List Int) (x : Int) : x ∈ rotN t L ↔ x ∈ L := by
  induction t with
  | zero => rfl
  | succ t ih => show x ∈ rot1 _ ↔ _; rw [rot1_mem, ih]
theorem rot1_nodup {L : List Int} (h : L.Nodup) : (rot1 L).Nodup := by
  have : (L.take 1 ++ L.drop 1).Nodup := by rwa [List.take_append_drop]
  rw [List.nodup_append] at this
  unfold rot1
  rw [List.nodup_append]
  exact ⟨this.2.1, this.1, fun a ha b hb e => this.2.2 b hb a ha e.symm⟩
theorem rotN_nodup (t : Nat) {L : List Int} (h : L.Nodup) : (rotN t L).Nodup := by
  induction t with
  | zero => exact h
  | succ t ih => exact rot1_nodup ih
/-- how far is counted ahead of the k-th going -/
def far (rh : List Int) (k : Nat) : Nat := (gx rh (k % rh.length : Nat) - 1).toNat
/-- the ring ahead of the k-th going -/
def ringAt (rh : List Int) (L : List Int) : Nat → List Int
  | 0 => L
  | k + 1 => (rotN (far rh k) (ringAt rh L k)).drop 1
theorem ringAt_succ (rh L : List Int) (k : Nat) : ringAt rh L (k + 1) = (rotN (far rh k) (ringAt rh L k)).drop 1 := (rfl)
theorem ringAt_len (rh L : List Int) (k : Nat) : (ringAt rh L k).length = L.length - k := by
  induction k with
  | zero => rfl
  | succ k ih => simp only [ringAt, List.length_drop, rotN_len, ih]; omega
theorem ringAt_nodup (rh : List Int) {L : List Int} (h : L.Nodup) (k : Nat) : (ringAt rh L k).Nodup := by
  induction k with
  | zero => exact h
  | succ k ih => exact ((rotN_nodup _ ih).sublist (List.drop_sublist _ _))
/-- who goes -/
def goAt (rh L : List Int) (k : Nat) : Int := gx (rotN (far rh k) (ringAt rh L k)) 0
theorem ring_split (rh L : List Int) (k : Nat) (h : k < L.length) : rotN (far rh k) (ringAt rh L k) = goAt rh L k :: ringAt rh L (k + 1) := by
  have hl : (rotN (far rh k) (ringAt rh L k)).length = L.length - k := by rw [rotN_len, ringAt_len]
  rw [ringAt_succ]
  unfold goAt
  cases q : rotN (far rh k) (ringAt rh L k) with
  | nil => rw [q] at hl; simp at hl; omega
  | cons x r => rfl
/-- one of the ring is not in the next one -/
theorem ring_gone (rh : List Int) {L : List Int} (hn : L.Nodup) (k : Nat) (h : k < L.length) : (ringAt rh L k).filter (fun x => !decide (x ∈ ringAt rh L (k + 1))) = [goAt rh L k] := by
  have s := ring_split rh L k h
  have nd := rotN_nodup (far rh k) (ringAt_nodup rh hn k)
  rw [s, List.nodup_cons] at nd
  have mem : ∀ x, x ∈ ringAt rh L k ↔ x = goAt rh L k ∨ x ∈ ringAt rh L (k + 1) := fun x => by rw [← rotN_mem (far rh k), s, List.mem_cons]
  have key : ∀ M : List Int, M.Nodup → (∀ x, x ∈ M → x = goAt rh L k ∨ x ∈ ringAt rh L (k + 1)) → M.filter (fun x => !decide (x ∈ ringAt rh L (k + 1))) = if goAt rh L k ∈ M then [goAt rh L k] else [] := by
    intro M
    induction M with
    | nil => intros; rfl
    | cons y M ih =>
      intro hM hx
      rw [List.nodup_cons] at hM
      have ih := ih hM.2 fun x hx' => hx x (List.mem_cons_of_mem _ hx')
      rcases hx y (List.mem_cons_self ..) with e | e
      · subst e
        rw [List.filter_cons_of_pos (by simpa using nd.1), ih, if_neg hM.1, if_pos (List.mem_cons_self ..)]
      · rw [List.filter_cons_of_neg (by simpa using e), ih]
        have : goAt rh L k ≠ y := fun e2 => nd.1 (e2 ▸ e)
        by_cases q : goAt rh L k ∈ M
        · rw [if_pos q, if_pos (List.mem_cons_of_mem _ q)]
        · rw [if_neg q, if_neg (by simp [this, q])]
  rw [key _ (ringAt_nodup rh hn k) fun x hx => (mem x).mp hx, if_pos ((mem _).mpr (.inl rfl))]
theorem ringAt_get (rh L : List Int) (k i : Nat) (h : i + 1 < L.length - k) : (ringAt rh L (k + 1))[i]? = (ringAt rh L k)[(i + 1 + far rh k) % (L.length - k)]? := by
  rw [ringAt_succ, List.getElem?_drop, Nat.add_comm 1 i, rotN_get _ _ _ (by rw [ringAt_len]; exact h), ringAt_len]
/-- who is left, by going back: from the k-th ring on -/
theorem last_of (rh L : List Int) (z : Nat → Int) (hz : ∀ k, k + 1 < L.length → z k = (z (k + 1) + gx rh (k % rh.length : Nat)) % ((L.length - k : Nat) : Int)) (hz0 : ∀ k, k + 1 = L.length → z k = 0)
    (hr : ∀ k, 1 ≤ gx rh (k % rh.length : Nat)) : ∀ d k, k + d + 1 = L.length → 0 ≤ z k ∧ z k < (L.length - k : Nat) ∧ goAt rh L (L.length - 1) = gx (ringAt rh L k) (z k) := by
  intro d
  induction d with
  | zero =>
    intro k hk
    have hk' : k + 1 = L.length := by omega
    rw [hz0 k hk']
    refine ⟨by omega, by omega, ?_⟩
    rw [show L.length - 1 = k by omega]
    have s := ring_split rh L k (by omega)
    have hl : (ringAt rh L k).length = 1 := by rw [ringAt_len]; omega
    cases q : ringAt rh L k with
    | nil => rw [q] at hl; cases hl
    | cons x r =>
      have : x ∈ rotN (far rh k) (ringAt rh L k) := by rw [rotN_mem, q]; exact List.mem_cons_self ..
      rw [s] at this
      have e : ringAt rh L (k + 1) = [] := by
        apply List.eq_nil_of_length_eq_zero
        rw [ringAt_len]; omega
      rw [e] at this
      simp at this
      rw [← this]; rfl
  | succ d ih =>
    intro k hk
    obtain ⟨a, b, c⟩ := ih (k + 1) (by omega)
    have h1 := hz k (by omega)
    have h2 := hr k
    have pos : (0 : Int) < ((L.length - k : Nat) : Int) := by omega
    refine ⟨by rw [h1]; exact Int.emod_nonneg _ (by omega), by rw [h1]; exact Int.emod_lt_of_pos _ pos, ?_⟩
    rw [c]
    unfold gx
    rw [List.getD_eq_getElem?_getD, List.getD_eq_getElem?_getD, ringAt_get rh L k _ (by omega)]
    congr 2
    have : far rh k + 1 = (gx rh (k % rh.length : Nat)).toNat := by unfold far; omega
    rw [h1]
    have e : z (k + 1) + gx rh (k % rh.length : Nat) = (((z (k + 1)).toNat + 1 + far rh k : Nat) : Int) := by omega
    rw [e, ← Int.natCast_emod, Int.toNat_natCast]
/-! ### orders that are wanted -/
theorem erase_perm (L : List Int) (i : Nat) (h : i < L.length) : (gx L (i : Int) :: L.eraseIdx i).Perm L := by
  induction L generalizing i with
  | nil => simp at h
  | cons x L ih =>
    cases i with
    | zero => exact .refl _
    | succ i =>
      have := ih i (by simpa using h)
      have e : gx (x :: L) ((i + 1 : Nat) : Int) = gx L (i : Int) := by unfold gx; simp
      rw [e]
      exact (List.Perm.swap _ _ _).trans (this.cons x)
theorem cut_erase (L : List Int) (i : Nat) : L.take i ++ L.drop (i + 1) = L.eraseIdx i := by
  rw [List.eraseIdx_eq_take_drop_succ]
theorem gx_idx {L : List Int} {x : Int} (h : x ∈ L) : gx L (L.idxOf x : Int) = x := by
  have := List.idxOf_lt_length_iff.mpr h
  unfold gx
  rw [Int.toNat_natCast, List.getD_eq_getElem?_getD, List.getElem?_eq_getElem this, Option.getD_some, List.getElem_idxOf]
/-- who goes, by a place that is told on -/
def goes (rh : List Int) : Nat → List Int → Nat → Int → List Int
  | 0, _, _, _ => []
  | n + 1, ring, k, at' => gx ring ((at' + gx rh ((k : Int) % rh.length) - 1) % ring.length) :: goes rh n (ring.take ((at' + gx rh ((k : Int) % rh.length) - 1) % ring.length).toNat ++ ring.drop (((at' + gx rh ((k : Int) % rh.length) - 1) % ring.length).toNat + 1)) (k + 1) ((at' + gx rh ((k : Int) % rh.length) - 1) % ring.length)
/-- the least numbers for an order -/
def tells : List Int → Int → List Int → List Int
  | _, _, [] => []
  | ring, at', p :: ps => (((ring.idxOf p : Int) - at') % ring.length + 1) :: tells (ring.take (ring.idxOf p) ++ ring.drop (ring.idxOf p + 1)) (ring.idxOf p) ps
theorem tells_len : ∀ (ps ring : List Int) (a : Int), (tells ring a ps).length = ps.length := by
  intro ps
  induction ps with
  | nil => intros; rfl
  | cons p ps ih => intro ring a; simp [tells, ih]
theorem goes_tells (rh : List Int) : ∀ (ps ring pre : List Int) (a : Int), rh = pre ++ tells ring a ps → ps.Perm ring → goes rh ring.length ring pre.length a = ps := by
  intro ps
  induction ps with
  | nil => intro ring pre a _ h; rw [List.nil_perm.mp h]; rfl
  | cons p ps ih =>
    intro ring pre a hr h
    have hp : p ∈ ring := h.mem_iff.mp (List.mem_cons_self ..)
    have hi := List.idxOf_lt_length_iff.mpr hp
    have hl : ring.length = ps.length + 1 := by rw [← h.length_eq]; rfl
    have ep := erase_perm ring _ hi
    rw [gx_idx hp] at ep
    have h2 : ps.Perm (ring.eraseIdx (ring.idxOf p)) := (List.perm_cons p).mp (h.trans ep.symm)
    have hrl : rh.length = pre.length + (ps.length + 1) := by rw [hr]; simp [tells_len]
    have hk : ((pre.length : Int) % rh.length) = pre.length := Int.emod_eq_of_lt (by omega) (by omega)
    have hg : gx rh (pre.length : Int) = ((ring.idxOf p : Int) - a) % ring.length + 1 := by
      rw [hr]; unfold gx; simp [tells]
    rw [hl]
    simp only [goes]
    rw [hk, hg]
    have e : (a + (((ring.idxOf p : Int) - a) % ring.length + 1) - 1) % ring.length = (ring.idxOf p : Int) := by
      rw [show a + (((ring.idxOf p : Int) - a) % ring.length + 1) - 1 = a + ((ring.idxOf p : Int) - a) % ring.length by omega, Int.add_emod_emod]
      rw [show a + ((ring.idxOf p : Int) - a) = ring.idxOf p by omega]
      exact Int.emod_eq_of_lt (by omega) (by omega)
    rw [e, gx_idx hp, Int.toNat_natCast, cut_erase]
    congr 1
    have := ih (ring.eraseIdx (ring.idxOf p)) (pre ++ [((ring.idxOf p : Int) - a) % ring.length + 1]) (ring.idxOf p) (by
      rw [hr]; simp [tells, cut_erase]) h2
    rw [h2.length_eq]
    rw [List.length_append, List.length_singleton] at this
    exact this
theorem tells_le : ∀ (ps ring : List Int) (a : Int), ps.Perm ring → ∀ i : Nat, i < ps.length → 1 ≤ gx (tells ring a ps) i ∧ gx (tells ring a ps) i ≤ ring.length - i := by
  intro ps
  induction ps with
  | nil => intro _ _ _ i h; cases h
  | cons p ps ih =>
    intro ring a h i hi
    have hp : p ∈ ring := h.mem_iff.mp (List.mem_cons_self ..)
    have hx := List.idxOf_lt_length_iff.mpr hp
    have hl : ring.length = ps.length + 1 := by rw [← h.length_eq]; rfl
    have ep := erase_perm ring _ hx
    rw [gx_idx hp] at ep
    have h2 : ps.Perm (ring.eraseIdx (ring.idxOf p)) := (List.perm_cons p).mp (h.trans ep.symm)
    cases i with
    | zero =>
      have e : gx (tells ring a (p :: ps)) ((0 : Nat) : Int) = ((ring.idxOf p : Int) - a) % ring.length + 1 := by unfold gx; simp [tells]
      rw [e]
      have := Int.emod_nonneg ((ring.idxOf p : Int) - a) (b := ring.length) (by omega)
      have := Int.emod_lt_of_pos ((ring.idxOf p : Int) - a) (b := ring.length) (by omega)
      omega
    | succ i =>
      have e : gx (tells ring a (p :: ps)) ((i + 1 : Nat) : Int) = gx (tells (ring.eraseIdx (ring.idxOf p)) (ring.idxOf p) ps) (i : Int) := by unfold gx; simp [tells, cut_erase]
      rw [e]
      have := ih (ring.eraseIdx (ring.idxOf p)) (ring.idxOf p) h2 i (by simpa using hi)
      rw [← h2.length_eq] at this
      omega
/-! ### by twos -/
/-- a number, and its halves -/
def halves : Nat → Int → List Int
  | 0, _ => []
  | f + 1, w => if w ≤ 1 then [] else w :: halves f (w / 2)
def twoV : List Int → Int
  | [] => 0
  | x :: xs => 2 * twoV xs + (if x % 2 = 1 then 2 else 0)
theorem twoV_eq : ∀ (f : Nat) (w : Int) (k : Nat), 1 ≤ w → w < 2 ^ f → (2 : Int) ^ k ≤ w → w < 2 ^ (k + 1) → twoV (halves f w) = 2 * (w - 2 ^ k) := by
  intro f
  induction f with
  | zero => intro w k h1 h2; simp at h2; omega
  | succ f ih =>
    intro w k h1 h2 h3 h4
    unfold halves
    by_cases q : w ≤ 1
    · rw [if_pos q]
      have : w = 1 := by omega
      subst this
      cases k with
      | zero => rfl
      | succ k => rw [Int.pow_succ] at h3; have : (0 : Int) < 2 ^ k := Int.pow_pos (by omega); omega
    · rw [if_neg q]
      cases k with
      | zero => simp at h4; omega
      | succ k =>
        rw [Int.pow_succ] at h2 h3
        rw [Int.pow_succ] at h4
        have e := ih (w / 2) k (by omega) (by omega) (by omega) (by rw [Int.pow_succ] at h4 ⊢; omega)
        simp only [twoV]
        rw [e, Int.pow_succ]
        split <;> omega
end Ice
end
section
set_option autoImplicit false
set_option linter.all false
set_option maxRecDepth 100000
namespace Ice
/-! ### comprehensions that roll -/
theorem rest_get_out : ∀ (own : List Nat) (a b : Env) (i : Nat), i ∉ own → gS (restS own a b) i = gS b i := by
  intro own
  induction own with
  | nil => intros; rfl
  | cons j r ih =>
    intro a b i h
    rw [List.mem_cons, not_or] at h
    show gS (restS r a (sS b j (gS a j))) i = _
    rw [ih _ _ _ h.2, gS_sS_ne _ _ _ _ (Ne.symm h.1)]
theorem wipe_get_out : ∀ (own : List Nat) (b : Env) (i : Nat), i ∉ own → gS (wipeS own b) i = gS b i := by
  intro own
  induction own with
  | nil => intros; rfl
  | cons j r ih =>
    intro b i h
    rw [List.mem_cons, not_or] at h
    show gS (wipeS r (sS b j .un)) i = _
    rw [ih _ _ h.2, gS_sS_ne _ _ _ _ (Ne.symm h.1)]
theorem rest_of_wipe (own : List Nat) (a b : Env) (h : b.length = a.length) : restS own a b = restS own a (wipeS own b) := by
  apply env_ext
  · rw [rest_len, rest_len, wipe_len]
  intro i
  by_cases m : i ∈ own
  · rw [rest_get_in own a b i h (.inl m), rest_get_in own a _ i (by rw [wipe_len]; exact h) (.inl m)]
  · rw [rest_get_out _ _ _ _ m, rest_get_out _ _ _ _ m]
    rw [wipe_get_out _ _ _ m]
@[simp] theorem rest_nil (a b : Env) : restS [] a b = b := (rfl)
@[simp] theorem rest_cons (i : Nat) (r : List Nat) (a b : Env) : restS (i :: r) a b = restS r a (sS b i (gS a i)) := (rfl)
/-- one item -/
def Kcs (c : Option Ev) (d : Ev) (F : FE) : Env → R (List PV × Env) := fun ρ1 => (cond? c F ρ1).bind fun (k, ρ2) => if k then elOf d F ρ2 else .ok ([], ρ2)
theorem comp_inv {α : Type} {own : List Nat} {tg : Tg} {c : Option Ev} {d : Ev} {F : FE} (e : α → PV) (I : Nat → List PV → Env → Prop) : ∀ (xs : List α) (n : Nat) (acc : List PV) (ρ : Env), I n acc (wipeS own ρ) →
    (∀ k x acc w, xs[k]? = some x → I (n + k) acc w → Ret ((tg (e x) w).bind (Kcs c d F)) fun r => I (n + k + 1) (acc ++ r.1) (wipeS own r.2)) →
    Ret (compL own tg c (elOf d) F (xs.map e) ρ) fun r => I (n + xs.length) (acc ++ r.1) (wipeS own r.2) := by
  intro xs
  induction xs with
  | nil => intro n acc ρ h _; exact ⟨_, rfl, by simpa using h⟩
  | cons x xs ih =>
    intro n acc ρ h hs
    obtain ⟨⟨ps, ρ3⟩, he, hi⟩ := hs 0 x acc _ rfl h
    obtain ⟨⟨qs, ρ4⟩, he2, hi2⟩ := ih (n + 1) (acc ++ ps) ρ3 hi fun k y acc w hk hI => by
      have := hs (k + 1) y acc w (by simpa using hk) (by rw [show n + (k + 1) = n + 1 + k by omega]; exact hI)
      rw [show n + (k + 1) = n + 1 + k by omega] at this
      exact this
    refine ⟨(ps ++ qs, ρ4), ?_, by rw [List.length_cons, show n + (xs.length + 1) = n + 1 + xs.length by omega]; rw [List.append_assoc] at hi2; exact hi2⟩
    rw [List.map_cons]
    unfold compL
    unfold Kcs at he
    cases q1 : tg (e x) (wipeS own ρ) with
    | ok ρ1 =>
      rw [q1] at he
      simp only [R.ok_bind] at he ⊢
      cases q2 : cond? c F ρ1 with
      | ok kr =>
        obtain ⟨k, ρ2⟩ := kr
        rw [q2] at he
        simp only [R.ok_bind] at he ⊢
        cases k with
        | true =>
          simp only [if_true] at he ⊢
          rw [he]
          simp only [R.ok_bind]
          rw [he2]
          rfl
        | false =>
          simp only [Bool.false_eq_true, if_false] at he ⊢
          injection he with he
          injection he with e1 e2
          subst e1 e2
          rw [he2]
          rfl
      | exn => rw [q2] at he; cases he
      | stuck => rw [q2] at he; cases he
    | exn => rw [q1] at he; cases he
    | stuck => rw [q1] at he; cases he
theorem eLC_inv {α : Type} {own : List Nat} {it : It} {tg : Tg} {c : Option Ev} {d : Ev} {F : FE} {ρ ρ1 : Env} {ps : List PV} {l : Option Nat} (e : α → PV) (xs : List α) (I : Nat → List PV → Env → Prop) (P : PV × Bool × Env → Prop)
    (hit : it F ρ = .ok (ps, l, ρ1)) (hps : ps = xs.map e) (hp : plainS ρ1 own = true) (h0 : I 0 [] (wipeS own ρ1)) (hl : ∀ acc w, I xs.length acc w → w.length = ρ1.length ∧ acc.length ≤ 16777216)
    (hs : ∀ k x acc w, xs[k]? = some x → I k acc w → Ret ((tg (e x) w).bind (Kcs c d F)) fun r => I (k + 1) (acc ++ r.1) (wipeS own r.2))
    (hP : ∀ acc w, I xs.length acc w → P (.lst acc, true, unlock l (restS own ρ1 w))) : Ret (eLC own it tg c d F ρ) P := by
  subst hps
  obtain ⟨⟨qs, ρ2⟩, r', hI⟩ := comp_inv e I xs 0 [] ρ1 h0 fun k x acc w hk h => by
    rw [Nat.zero_add] at h ⊢
    exact hs k x acc w hk h
  rw [Nat.zero_add, List.nil_append] at hI
  obtain ⟨h1, h2⟩ := hl _ _ hI
  rw [wipe_len] at h1
  refine ⟨_, ?_, hP _ _ hI⟩
  unfold eLC eComp
  simp only [hit, R.ok_bind, hp, if_true, r']
  unfold finL
  rw [if_pos h2]
  simp only [R.ok_bind, R.calm_ok, rest_of_wipe own ρ1 ρ2 h1]
def Kcl : PV × Bool × Env → R (List PV × Env) := fun z => match z with | (p, _, ρ) => .ok ([p], ρ)
@[simp] theorem Kcl_ap (p : PV) (m : Bool) (ρ : Env) : Kcl (p, m, ρ) = .ok ([p], ρ) := (rfl)
@[simp] theorem Kcs_none (d : Ev) (F : FE) (ρ : Env) : Kcs none d F ρ = (d F ρ).bind Kcl := (rfl)
def Kcb (d : Ev) (F : FE) : Bool × Env → R (List PV × Env) := fun z => match z with | (k, ρ) => if k then (d F ρ).bind Kcl else .ok ([], ρ)
@[simp] theorem Kcb_ap (d : Ev) (F : FE) (k : Bool) (ρ : Env) : Kcb d F (k, ρ) = if k then (d F ρ).bind Kcl else .ok ([], ρ) := (rfl)
@[simp] theorem Kcs_some (c d : Ev) (F : FE) (ρ : Env) : Kcs (some c) d F ρ = ((c F ρ).bind tsB).bind (Kcb d F) := by
  unfold Kcs
  simp only [cond?, tst_ap]
  rfl
/-! ### zip, enumerate -/
def KMb (p : PV) : PV × Bool × Env → R (List PV × Option Nat × Env) := fun z => match z with | (q, _, ρ) => (R.of (zipW p q)).bind (KiW none ρ)
@[simp] theorem KMb_ap (p q : PV) (n : Bool) (ρ : Env) : KMb p (q, n, ρ) = (R.of (zipW p q)).bind (KiW none ρ) := (rfl)
def KMa (b : Ev) (F : FE) : PV × Bool × Env → R (List PV × Option Nat × Env) := fun z => match z with | (p, _, ρ) => (b F ρ).bind (KMb p)
@[simp] theorem KMa_ap (b : Ev) (F : FE) (p : PV) (n : Bool) (ρ : Env) : KMa b F (p, n, ρ) = (b F ρ).bind (KMb p) := (rfl)
@[simp] theorem itM_ap (a b : Ev) (F : FE) (ρ : Env) : itM a b F ρ = (a F ρ).bind (KMa b F) := (rfl)
@[simp] theorem zipW_ll (xs ys : List PV) : zipW (.lst xs) (.lst ys) = some (zipP xs ys) := (rfl)
@[simp] theorem zipW_tt (xs ys : List PV) : zipW (.tup xs) (.tup ys) = some (zipP xs ys) := (rfl)
@[simp] theorem zipW_lt (xs ys : List PV) : zipW (.lst xs) (.tup ys) = some (zipP xs ys) := (rfl)
@[simp] theorem zipW_tl (xs ys : List PV) : zipW (.tup xs) (.lst ys) = some (zipP xs ys) := (rfl)
@[simp] theorem zipW_ls (xs : List PV) (ys : List Nat) : zipW (.lst xs) (.str ys) = some (zipP xs (ys.map fun c => .str [c])) := (rfl)
@[simp] theorem zipW_ts (xs : List PV) (ys : List Nat) : zipW (.tup xs) (.str ys) = some (zipP xs (ys.map fun c => .str [c])) := (rfl)
def enumV (ρ : Env) : List PV → R (List PV × Option Nat × Env) := fun xs => .ok (enumP 0 xs, none, ρ)
@[simp] theorem enumV_ap (ρ : Env) (xs : List PV) : enumV ρ xs = .ok (enumP 0 xs, none, ρ) := (rfl)
def KEn : PV × Bool × Env → R (List PV × Option Nat × Env) := fun z => match z with | (p, _, ρ) => (R.of (walkOf p)).bind (enumV ρ)
@[simp] theorem KEn_ap (p : PV) (n : Bool) (ρ : Env) : KEn (p, n, ρ) = (R.of (walkOf p)).bind (enumV ρ) := (rfl)
@[simp] theorem itEn_ap (a : Ev) (F : FE) (ρ : Env) : itEn a F ρ = (a F ρ).bind KEn := (rfl)
theorem enumP_map {α : Type} (f : α → PV) : ∀ (xs : List α) (k : Nat), enumP k (xs.map f) = (xs.zipIdx k).map fun z => .tup [.int z.2, f z.1] := by
  intro xs
  induction xs with
  | nil => intro k; rfl
  | cons x xs ih => intro k; simp [enumP, ih]
/-! ### tuples made here -/
def KcT (xs : List PV) (ρ : Env) : PV → R (PV × Bool × Env)
  | .lst ys => if !ys.isEmpty && decide (xs.length + ys.length ≤ LIM) then .ok (.tup (xs ++ ys), true, ρ) else .stuck
  | _ => .stuck
@[simp] theorem KcT_ap (xs ys : List PV) (y : PV) (ρ : Env) (h2 : xs.length + (ys.length + 1) ≤ 16777216) : KcT xs ρ (.lst (y :: ys)) = .ok (.tup (xs ++ y :: ys), true, ρ) := by
  show (if !(y :: ys).isEmpty && decide (xs.length + (y :: ys).length ≤ LIM) then R.ok (PV.tup (xs ++ y :: ys), true, ρ) else .stuck) = _
  rw [if_pos]; simpa using h2
def KcS (xs : List PV) : Opd × Env → R (PV × Bool × Env) := fun z => match z with | (y, ρ) => (deref ρ y).bind (KcT xs ρ)
@[simp] theorem KcS_ap (xs : List PV) (y : Opd) (ρ : Env) : KcS xs (y, ρ) = (deref ρ y).bind (KcT xs ρ) := (rfl)
def slT (d : Op) (F : FE) (ρ : Env) : Slot → R (PV × Bool × Env)
  | .val (.tup xs) => (d F ρ).bind (KcS xs)
  | .xt xs => (d F ρ).bind (KcS xs)
  | _ => .stuck
@[simp] theorem slT_val (d : Op) (F : FE) (ρ : Env) (xs : List PV) : slT d F ρ (.val (.tup xs)) = (d F ρ).bind (KcS xs) := (rfl)
@[simp] theorem slT_xt (d : Op) (F : FE) (ρ : Env) (xs : List PV) : slT d F ρ (.xt xs) = (d F ρ).bind (KcS xs) := (rfl)
@[simp] theorem eCatT_ap (i : Nat) (d : Op) (F : FE) (ρ : Env) : eCatT i d F ρ = slT d F ρ (gS ρ i) := by
  have e : ∀ xs, (fun z : Opd × Env => (deref z.2 z.1).bind fun q => match q with
    | .lst ys => if !ys.isEmpty && decide (xs.length + ys.length ≤ LIM) then R.ok (PV.tup (xs ++ ys), true, z.2) else .stuck
    | _ => .stuck) = KcS xs := fun xs => by
    funext ⟨y, ρ1⟩
    show _ = (deref ρ1 y).bind (KcT xs ρ1)
    congr 1
  unfold eCatT slT
  cases gS ρ i with
  | val p =>
    cases p with
    | tup xs => exact congrArg (fun f => (d F ρ).bind f) (e xs)
    | _ => rfl
  | xt ps => exact congrArg (fun f => (d F ρ).bind f) (e ps)
  | _ => rfl
def KxP (ρ : Env) : PV × Bool → R (PV × Bool × Env) := fun z => match z with | (v, n) => .ok (v, n, ρ)
@[simp] theorem KxP_ap (ρ : Env) (v : PV) (n : Bool) : KxP ρ (v, n) = .ok (v, n, ρ) := (rfl)
def KxV (xs : List PV) (ρ : Env) : PV → R (PV × Bool × Env) := fun q => (pIndexT (.tup xs) q).bind (KxP ρ)
@[simp] theorem KxV_ap (xs : List PV) (ρ : Env) (q : PV) : KxV xs ρ q = (pIndexT (.tup xs) q).bind (KxP ρ) := (rfl)
def KxS (xs : List PV) : Opd × Env → R (PV × Bool × Env) := fun z => match z with | (y, ρ) => (deref ρ y).bind (KxV xs ρ)
@[simp] theorem KxS_ap (xs : List PV) (y : Opd) (ρ : Env) : KxS xs (y, ρ) = (deref ρ y).bind (KxV xs ρ) := (rfl)
def slX (b : Op) (F : FE) (ρ : Env) : Slot → R (PV × Bool × Env)
  | .xt xs => (b F ρ).bind (KxS xs)
  | _ => .stuck
@[simp] theorem slX_xt (b : Op) (F : FE) (ρ : Env) (xs : List PV) : slX b F ρ (.xt xs) = (b F ρ).bind (KxS xs) := (rfl)
@[simp] theorem eIxT_ap (i : Nat) (b : Op) (F : FE) (ρ : Env) : eIxT i b F ρ = slX b F ρ (gS ρ i) := by
  unfold eIxT slX
  cases gS ρ i <;> rfl
theorem pIndexT_int {x : Int} {xs : List Int} (h : x ∈ xs) : pIndexT (.tup (xs.map .int)) (.int x) = .ok (.int (xs.idxOf x), false) := by
  show (match indexL (.int x) (xs.map .int) with | some (some k) => old (.int k) | _ => .stuck) = _
  rw [EqOn.indexL (EqOn.int 12), if_pos h]; rfl
/-! ### numbers for keys -/
def kvI {β : Type} (g : β → PV) (l : List (Int × β)) : KVs := l.map fun z => (.int z.1, g z.2)
theorem dGet_kvI {β : Type} (g : β → PV) (k : Int) : ∀ l : List (Int × β), dGet (.int k) (kvI g l) = some ((l.lookup k).map g) := by
  intro l
  induction l with
  | nil => rfl
  | cons z l ih =>
    obtain ⟨a, b⟩ := z
    show (match keq (.int a) (.int k) with | some true => some (some (g b)) | some false => dGet (.int k) (kvI g l) | none => none) = _
    show (match some (a == k) with | some true => some (some (g b)) | some false => dGet (.int k) (kvI g l) | none => none) = _
    rw [ih, List.lookup_cons]
    by_cases q : a = k
    · simp [q]
    · have q2 : ¬ k = a := fun e => q e.symm
      simp [beq_eq_false_iff_ne.mpr q, beq_eq_false_iff_ne.mpr q2]
theorem dPut_new {β : Type} (g : β → PV) (k : Int) (v : β) : ∀ l : List (Int × β), (∀ z ∈ l, z.1 ≠ k) → dPut (.int k) (g v) (kvI g l) = some (kvI g (l ++ [(k, v)])) := by
  intro l
  induction l with
  | nil => intro _; rfl
  | cons z l ih =>
    intro h
    obtain ⟨a, b⟩ := z
    have ih := ih fun z hz => h z (List.mem_cons_of_mem _ hz)
    have q : a ≠ k := h _ (List.mem_cons_self ..)
    show (match some (a == k) with | some true => some ((PV.int a, g v) :: kvI g l) | some false => (dPut (.int k) (g v) (kvI g l)).map ((PV.int a, g b) :: ·) | none => none) = _
    rw [ih]
    simp [beq_eq_false_iff_ne.mpr q, kvI]
theorem puts_new {β : Type} (g : β → PV) : ∀ (ps l : List (Int × β)), ((l ++ ps).map (·.1)).Nodup → puts (ps.map fun (z : Int × β) => PV.tup [.int z.1, g z.2]) (kvI g l) = .ok (kvI g (l ++ ps)) := by
  intro ps
  induction ps with
  | nil => intro l _; simp [puts]
  | cons z ps ih =>
    intro l h
    obtain ⟨a, b⟩ := z
    have h2 : ∀ z ∈ l, z.1 ≠ a := fun z hz e => by
      rw [List.map_append, List.nodup_append] at h
      exact h.2.2 z.1 (List.mem_map_of_mem hz) a (by simp) e
    show (match dPut (.int a) (g b) (kvI g l) with | some d' => puts (ps.map fun (z : Int × β) => PV.tup [.int z.1, g z.2]) d' | none => .stuck) = _
    rw [dPut_new g a b l h2]
    show puts _ _ = _
    rw [ih (l ++ [(a, b)]) (by simpa using h)]
    simp
/-- a dict of pairs, no key twice -/
theorem eDC_run {α β : Type} {own : List Nat} {it : It} {tg : Tg} {k v : Ev} {F : FE} {ρ ρ1 : Env} {ps : List PV} {l : Option Nat} (e : α → PV) (g : β → PV) (p : α → Int × β) (xs : List α)
    (hit : it F ρ = .ok (ps, l, ρ1)) (hps : ps = xs.map e) (hp : plainS ρ1 own = true) (hl : xs.length ≤ 16777216) (hn : (xs.map fun x => (p x).1).Nodup)
    (hs : ∀ x ∈ xs, ∃ ρ', ((tg (e x) (wipeS own ρ1)).bind (el2 k v F)) = .ok ([.tup [.int (p x).1, g (p x).2]], ρ') ∧ wipeS own ρ' = wipeS own ρ1) :
    eDC own it tg none k v F ρ = .ok (.dct (kvI g (xs.map p)), true, unlock l ρ1) := by
  subst hps
  have key : ∀ (xs : List α) (ρ : Env), wipeS own ρ = wipeS own ρ1 → (∀ x ∈ xs, ∃ ρ', ((tg (e x) (wipeS own ρ1)).bind (el2 k v F)) = .ok ([.tup [.int (p x).1, g (p x).2]], ρ') ∧ wipeS own ρ' = wipeS own ρ1) →
      ∃ ρ', wipeS own ρ' = wipeS own ρ1 ∧ compL own tg none (el2 k v) F (xs.map e) ρ = .ok (xs.map fun x => .tup [.int (p x).1, g (p x).2], ρ') := by
    intro xs
    induction xs with
    | nil => intro ρ h _; exact ⟨ρ, h, rfl⟩
    | cons x xs ih =>
      intro ρ hw h
      obtain ⟨ρ3, he, hw3⟩ := h x (List.mem_cons_self ..)
      obtain ⟨ρ4, hw4, he4⟩ := ih ρ3 hw3 fun y hy => h y (List.mem_cons_of_mem _ hy)
      refine ⟨ρ4, hw4, ?_⟩
      rw [List.map_cons]
      unfold compL
      rw [hw]
      cases q1 : tg (e x) (wipeS own ρ1) with
      | ok ρ2 =>
        rw [q1] at he
        simp only [R.ok_bind, cond?, if_true] at he ⊢
        rw [he]
        simp only [R.ok_bind]
        rw [he4]
        rfl
      | exn => rw [q1] at he; cases he
      | stuck => rw [q1] at he; cases he
  obtain ⟨ρ', w', r'⟩ := key xs ρ1 rfl hs
  have hf : finD (xs.map fun x => .tup [.int (p x).1, g (p x).2]) = .ok (.dct (kvI g (xs.map p))) := by
    unfold finD finDN
    rw [if_pos (by simpa using hl)]
    have := puts_new g (xs.map p) [] (by rw [List.nil_append, List.map_map]; exact hn)
    rw [List.map_map, List.nil_append] at this
    rw [show puts (xs.map fun x => .tup [.int (p x).1, g (p x).2]) [] = .ok (kvI g (xs.map p)) from this]
    rfl
  unfold eDC eComp
  simp only [hit, R.ok_bind, hp, if_true, r', hf, R.calm_ok, rest_wipe w']
def Kd2 (p : PV) : PV × Bool × Env → R (List PV × Env) := fun z => match z with | (q, _, ρ) => .ok ([.tup [p, q]], ρ)
@[simp] theorem Kd2_ap (p q : PV) (n : Bool) (ρ : Env) : Kd2 p (q, n, ρ) = .ok ([.tup [p, q]], ρ) := (rfl)
def Kd1 (v : Ev) (F : FE) : PV × Bool × Env → R (List PV × Env) := fun z => match z with | (p, _, ρ) => (v F ρ).bind (Kd2 p)
@[simp] theorem Kd1_ap (v : Ev) (F : FE) (p : PV) (n : Bool) (ρ : Env) : Kd1 v F (p, n, ρ) = (v F ρ).bind (Kd2 p) := (rfl)
@[simp] theorem el2_ap (k v : Ev) (F : FE) (ρ : Env) : el2 k v F ρ = (k F ρ).bind (Kd1 v F) := (rfl)
theorem pIx_kvI {β : Type} (g : β → PV) (k : Int) (l : List (Int × β)) (v : β) (h : l.lookup k = some v) : pIx (.dct (kvI g l)) (.int k) = .ok (g v, false) := by
  show (if (PV.int k).isKey then (match dGet (.int k) (kvI g l) with | some (some v) => old v | _ => .stuck) else .stuck) = _
  rw [dGet_kvI, h]; rfl
end Ice
end
section
set_option autoImplicit false
set_option linter.all false
set_option maxRecDepth 100000
namespace Ice
/-! ### a ring that is told on from a place -/
theorem swp_get (L : List Int) (a i : Nat) (ha : a ≤ L.length) (h : i < L.length) : (L.drop a ++ L.take a)[i]? = L[(i + a) % L.length]? := by
  by_cases q : i < L.length - a
  · rw [List.getElem?_append_left (by simp; omega), List.getElem?_drop, Nat.mod_eq_of_lt (by omega), Nat.add_comm]
  · rw [List.getElem?_append_right (by simp; omega), List.length_drop, List.getElem?_take_of_lt (by omega)]
    have : (i + a) % L.length = i + a - L.length := by rw [Nat.mod_eq_sub_mod (by omega), Nat.mod_eq_of_lt (by omega)]
    rw [this]; congr 1; omega
theorem rot_swp (L : List Int) (a t : Nat) (ha : a ≤ L.length) (hl : 0 < L.length) : rotN t (L.drop a ++ L.take a) = L.drop ((a + t) % L.length) ++ L.take ((a + t) % L.length) := by
  have hb := Nat.mod_lt (a + t) hl
  have hlen : (L.drop a ++ L.take a).length = L.length := by simp; omega
  apply List.ext_getElem?
  intro i
  by_cases q : i < L.length
  · rw [rotN_get _ _ _ (by omega), hlen, swp_get L a _ ha (Nat.mod_lt _ hl), swp_get L _ i (by omega) q]
    congr 1
    rw [Nat.mod_add_mod, Nat.add_mod_mod]; congr 1; omega
  · rw [List.getElem?_eq_none (by rw [rotN_len]; omega), List.getElem?_eq_none (by simp; omega)]
theorem gx_app0 (L : List Int) (b : Nat) (h : b < L.length) : gx (L.drop b ++ L.take b) 0 = gx L (b : Int) := by
  unfold gx
  simp only [Int.toNat_zero, Int.toNat_natCast, List.getD_eq_getElem?_getD]
  rw [swp_get L b 0 (by omega) (by omega), Nat.zero_add, Nat.mod_eq_of_lt h]
theorem drop1_swp (L : List Int) (b : Nat) (h : b < L.length) : (L.drop b ++ L.take b).drop 1 = L.drop (b + 1) ++ L.take b := by
  rw [List.drop_append_of_le_length (by simp; omega), List.drop_drop]
theorem far_eq (rh : List Int) (k : Nat) (hr : ∀ x ∈ rh, 1 ≤ x) (h0 : 0 < rh.length) : gx rh ((k : Int) % rh.length) = (far rh k : Int) + 1 := by
  have e : ((k % rh.length : Nat) : Int) = (k : Int) % rh.length := by omega
  have hq : 0 ≤ (k : Int) % rh.length := Int.emod_nonneg _ (by omega)
  have hq2 : (k : Int) % rh.length < rh.length := Int.emod_lt_of_pos _ (by omega)
  have := hr _ (gx_mem hq hq2)
  unfold far
  rw [e]
  omega
theorem goes_ring (rh L : List Int) (hr : ∀ x ∈ rh, 1 ≤ x) (h0 : 0 < rh.length) : ∀ (n k : Nat) (ring : List Int) (a : Nat), ring.length = n → n + k = L.length → a ≤ n → ringAt rh L k = ring.drop a ++ ring.take a →
    goes rh n ring k a = (List.range n).map fun i => goAt rh L (k + i) := by
  intro n
  induction n with
  | zero => intros; rfl
  | succ n ih =>
    intro k ring a hl hk ha hR
    have e1 := far_eq rh k hr h0
    have e2 : ((a : Int) + gx rh ((k : Int) % rh.length) - 1) % ring.length = (((a + far rh k) % ring.length : Nat) : Int) := by
      rw [e1, show (a : Int) + ((far rh k : Int) + 1) - 1 = ((a + far rh k : Nat) : Int) by omega]
      omega
    have hb := Nat.mod_lt (a + far rh k) (show 0 < ring.length by omega)
    have hrot := rot_swp ring a (far rh k) (by omega) (by omega)
    rw [← hR] at hrot
    simp only [goes]
    rw [e2]
    generalize (a + far rh k) % ring.length = b at *
    rw [Int.toNat_natCast, List.range_succ_eq_map, List.map_cons, List.map_map]
    congr 1
    · unfold goAt
      rw [Nat.add_zero, hrot, gx_app0 _ _ hb]
    · have hlt : (ring.take b).length = b := by simp; omega
      rw [ih (k + 1) (ring.take b ++ ring.drop (b + 1)) b (by simp; omega) (by omega) (by omega) (by
        rw [ringAt_succ, hrot, drop1_swp _ _ hb, List.drop_left' hlt, List.take_left' hlt])]
      apply List.map_congr_left
      intro i _
      show goAt rh L (k + 1 + i) = goAt rh L (k + (i + 1))
      congr 1; omega
theorem goes_perm (rh : List Int) : ∀ (n : Nat) (ring : List Int) (k : Nat) (a : Int), ring.length = n → (goes rh n ring k a).Perm ring := by
  intro n
  induction n with
  | zero => intro ring k a h; rw [List.eq_nil_of_length_eq_zero h]; exact .nil
  | succ n ih =>
    intro ring k a h
    have p1 : 0 ≤ (a + gx rh ((k : Int) % rh.length) - 1) % ring.length := Int.emod_nonneg _ (by omega)
    have p2 : (a + gx rh ((k : Int) % rh.length) - 1) % ring.length < ring.length := Int.emod_lt_of_pos _ (by omega)
    simp only [goes]
    generalize (a + gx rh ((k : Int) % rh.length) - 1) % ring.length = b at *
    rw [cut_erase]
    have e : (b.toNat : Int) = b := by omega
    have := erase_perm ring b.toNat (by omega)
    rw [e] at this
    exact ((ih _ (k + 1) b (by rw [List.length_eraseIdx_of_lt (by omega)]; omega)).cons _).trans this
/-- who goes, one after another -/
def due (rh : List Int) (m : Nat) : List Int := (List.range m).map (goAt rh (rangeI m))
theorem due_goes {rh : List Int} {m : Nat} (hr : ∀ x ∈ rh, 1 ≤ x) (h0 : 0 < rh.length) : goes rh m (rangeI m) 0 0 = due rh m := by
  have := goes_ring rh (rangeI m) hr h0 m 0 (rangeI m) 0 (by simp) (by simp) (by omega) (by simp [ringAt])
  rw [show ((0 : Nat) : Int) = 0 from rfl] at this
  rw [this]
  unfold due
  apply List.map_congr_left
  intro i _
  rw [Nat.zero_add]
theorem due_perm {rh : List Int} {m : Nat} (hr : ∀ x ∈ rh, 1 ≤ x) (h0 : 0 < rh.length) : (due rh m).Perm (rangeI m) := by
  rw [← due_goes hr h0]
  exact goes_perm rh m (rangeI m) 0 0 (by simp)
@[simp] theorem due_len (rh : List Int) (m : Nat) : (due rh m).length = m := by simp [due]
/-- the program's rings -/
theorem ringAt_step (rh L : List Int) (k : Nat) (h : k < L.length) : ringAt rh L (k + 1) = (ringAt rh L k).drop (far rh k % (ringAt rh L k).length + 1) ++ (ringAt rh L k).take (far rh k % (ringAt rh L k).length) := by
  have hl := ringAt_len rh L k
  have hb := Nat.mod_lt (far rh k) (show 0 < (ringAt rh L k).length by omega)
  have := rot_swp (ringAt rh L k) 0 (far rh k) (by omega) (by omega)
  rw [List.drop_zero, List.take_zero, List.append_nil, Nat.zero_add] at this
  rw [ringAt_succ, this, drop1_swp _ _ hb]
/-- who is last -/
def Jr (rh : List Int) (m : Nat) : Nat → Int
  | 0 => 0
  | s + 1 => (Jr rh m s + gx rh (((m : Int) - ((s : Int) + 1)) % rh.length)) % ((s : Int) + 1)
theorem Jr_one (rh : List Int) (m : Nat) : Jr rh m 1 = 0 := by
  show (0 + gx rh _) % (((0 : Nat) : Int) + 1) = 0
  simp [Int.emod_one]
theorem gl_map_range (f : Nat → Int) (m : Nat) (h : 1 ≤ m) : gl ((List.range m).map f) = f (m - 1) := by
  obtain ⟨k, rfl⟩ : ∃ k, m = k + 1 := ⟨m - 1, by omega⟩
  unfold gl
  rw [List.range_succ, List.map_append, List.map_singleton, List.getLast?_append]
  simp
theorem last_due {rh : List Int} {m : Nat} (hr : ∀ x ∈ rh, 1 ≤ x) (h0 : 0 < rh.length) (hm : 1 ≤ m) : Jr rh m m = gl (due rh m) := by
  have hl : (rangeI m).length = m := rangeI_len m
  have hcast : ∀ k : Nat, ((k % rh.length : Nat) : Int) = (k : Int) % rh.length := fun k => by omega
  obtain ⟨a, b, c⟩ := last_of rh (rangeI m) (fun k => Jr rh m (m - k)) (fun k hk => by
    rw [hl] at hk ⊢
    obtain ⟨s, hs⟩ : ∃ s, m - k = s + 1 := ⟨m - k - 1, by omega⟩
    show Jr rh m (m - k) = (Jr rh m (m - (k + 1)) + _) % _
    rw [show m - (k + 1) = s by omega, hs]
    show (Jr rh m s + gx rh (((m : Int) - ((s : Int) + 1)) % rh.length)) % ((s : Int) + 1) = _
    rw [hcast, show (m : Int) - ((s : Int) + 1) = k by omega]
    congr 1) (fun k hk => by
    rw [hl] at hk
    show Jr rh m (m - k) = 0
    rw [show m - k = 1 by omega, Jr_one]) (fun k => by
    rw [hcast]
    exact hr _ (gx_mem (Int.emod_nonneg _ (by omega)) (Int.emod_lt_of_pos _ (by omega)))) (m - 1) 0 (by rw [hl]; omega)
  rw [hl] at b c
  have b : Jr rh m (m - 0) < ((m - 0 : Nat) : Int) := b
  have a : 0 ≤ Jr rh m (m - 0) := a
  have c : goAt rh (rangeI m) (m - 1) = gx (rangeI m) (Jr rh m (m - 0)) := c
  rw [Nat.sub_zero] at a b c
  unfold due
  rw [gl_map_range _ _ hm, c, rangeI_gx a (by omega)]
/-- told one by one, nobody is passed over -/
theorem due_one {rh : List Int} {m : Nat} (h : ∀ x ∈ rh, x = 1) (h0 : 0 < rh.length) : due rh m = rangeI m := by
  have hf : ∀ k, far rh k = 0 := fun k => by
    have := far_eq rh k (fun x hx => by rw [h x hx]; exact Int.le_refl _) h0
    rw [h _ (gx_mem (Int.emod_nonneg _ (by omega)) (Int.emod_lt_of_pos _ (by omega)))] at this
    omega
  have hR : ∀ k, ringAt rh (rangeI m) k = (rangeI m).drop k := fun k => by
    induction k with
    | zero => rfl
    | succ k ih => rw [ringAt_succ, hf, ih]; show ((rangeI m).drop k).drop 1 = _; rw [List.drop_drop]
  unfold due
  rw [show rangeI m = (List.range m).map (fun (k : Nat) => (k : Int)) from rfl]
  apply List.map_congr_left
  intro k hk
  have hk : k < m := by simpa using hk
  show goAt rh (rangeI m) k = k
  unfold goAt
  rw [hf, hR]
  show gx ((rangeI m).drop k) 0 = _
  unfold gx
  rw [List.getD_eq_getElem?_getD, List.getElem?_drop]
  have := rangeI_gx (m := m) (i := k) (by omega) (by omega)
  unfold gx at this
  rw [List.getD_eq_getElem?_getD] at this
  simpa using this
end Ice
end
section
set_option autoImplicit false
set_option linter.all false
set_option maxRecDepth 100000
namespace Ice
/-! ### sorted -/
def insI (x : Int) : List Int → List Int
  | [] => [x]
  | y :: r => if y < x then y :: insI x r else x :: y :: r
def sortI : List Int → List Int
  | [] => []
  | x :: r => insI x (sortI r)
theorem ltb_int (a b : Int) : ltb (.int a) (.int b) = decide (a < b) := by
  show (match plt (.int a) (.int b) with | some b => b | none => false) = _
  rw [plt_int]
theorem insS_map (x : Int) (xs : List Int) : sortP.insS' (.int x) (xs.map .int) = (insI x xs).map .int := by
  induction xs with
  | nil => rfl
  | cons y r ih =>
    simp only [List.map_cons, sortP.insS', insI, ltb_int]
    by_cases q : y < x
    · simp [q, ih]
    · simp [q]
theorem sortP_map (xs : List Int) : sortP (xs.map .int) = (sortI xs).map .int := by
  induction xs with
  | nil => rfl
  | cons x r ih => simp only [List.map_cons, sortP, sortI, ih, insS_map]
theorem insI_perm (x : Int) (xs : List Int) : (insI x xs).Perm (x :: xs) := by
  induction xs with
  | nil => exact .refl _
  | cons y r ih =>
    unfold insI
    split
    · exact (ih.cons y).trans (.swap _ _ _)
    · exact .refl _
theorem sortI_perm (xs : List Int) : (sortI xs).Perm xs := by
  induction xs with
  | nil => exact .refl _
  | cons x r ih => exact (insI_perm x _).trans (ih.cons x)
theorem insI_le (x : Int) (xs : List Int) (h : xs.Pairwise (· ≤ ·)) : (insI x xs).Pairwise (· ≤ ·) := by
  induction xs with
  | nil => simp [insI]
  | cons y r ih =>
    rw [List.pairwise_cons] at h
    unfold insI
    split
    · rw [List.pairwise_cons]
      refine ⟨fun z hz => ?_, ih h.2⟩
      rcases List.mem_cons.mp ((insI_perm x r).mem_iff.mp hz) with e | e
      · omega
      · exact h.1 z e
    · rw [List.pairwise_cons, List.pairwise_cons]
      refine ⟨fun z hz => ?_, h⟩
      rcases List.mem_cons.mp hz with e | e
      · omega
      · have := h.1 z e; omega
theorem sortI_le (xs : List Int) : (sortI xs).Pairwise (· ≤ ·) := by
  induction xs with
  | nil => exact .nil
  | cons x r ih => exact insI_le x _ ih
theorem sortI_lt {xs : List Int} (h : xs.Nodup) : (sortI xs).Pairwise (· < ·) := by
  have h2 := (sortI_perm xs).nodup_iff.mpr h
  rw [List.nodup_iff_pairwise_ne] at h2
  exact ((sortI_le xs).and h2).imp fun ⟨a, b⟩ => by omega
@[simp] theorem sortI_len (xs : List Int) : (sortI xs).length = xs.length := (sortI_perm xs).length_eq
theorem okc_int (a b : Int) : okcF DEEP (.int a) (.int b) = true := (rfl)
theorem okPairs_int (xs : List Int) : okPairs (xs.map .int) = true := by
  unfold okPairs
  rw [List.all_eq_true]
  intro x hx
  rw [List.all_eq_true]
  intro y hy
  obtain ⟨a, _, rfl⟩ := List.mem_map.mp hx
  obtain ⟨b, _, rfl⟩ := List.mem_map.mp hy
  exact okc_int a b
theorem okSort_int (xs : List Int) : (xs.map PV.int).all okSort = true := by
  rw [List.all_eq_true]
  intro x hx
  obtain ⟨a, _, rfl⟩ := List.mem_map.mp hx
  rfl
@[simp] theorem pSorted_lint {xs : List Int} (h : xs.length ≤ 16777216) : pSorted (.lst (xs.map .int)) = .ok (.lst ((sortI xs).map .int), true) := by
  show (if okPairs (xs.map PV.int) && (xs.map PV.int).all okSort && decide ((xs.map PV.int).length ≤ LIM) then _ else _) = _
  rw [okPairs_int, okSort_int, sortP_map, if_pos (by simpa using h)]; rfl
@[simp] theorem pSorted_tint {xs : List Int} (h : xs.length ≤ 16777216) : pSorted (.tup (xs.map .int)) = .ok (.lst ((sortI xs).map .int), true) := by
  show (if okPairs (xs.map PV.int) && (xs.map PV.int).all okSort && decide ((xs.map PV.int).length ≤ LIM) then _ else _) = _
  rw [okPairs_int, okSort_int, sortP_map, if_pos (by simpa using h)]; rfl
/-! ### joined signs -/
theorem strsOf_chars {α : Type} (f : α → Nat) (xs : List α) : strsOf (xs.map fun x => .str [f x]) = some (xs.map fun x => [f x]) := by
  induction xs with
  | nil => rfl
  | cons x r ih => simp [strsOf, ih]
theorem joinS_chars {α : Type} (f : α → Nat) (xs : List α) : joinS [] (xs.map fun x => [f x]) = xs.map f := by
  induction xs with
  | nil => rfl
  | cons x r ih =>
    cases r with
    | nil => rfl
    | cons y r => 
      show [f x] ++ [] ++ joinS [] ((y :: r).map fun x => [f x]) = _
      rw [ih]; rfl
theorem pJoin_chars {α : Type} (f : α → Nat) {xs : List α} (h : xs.length ≤ 16777216) : pJoin (.str []) (.lst (xs.map fun x => .str [f x])) = .ok (.str (xs.map f), false) := by
  show joinO [] _ = _
  unfold joinO
  rw [strsOf_chars]
  have : ((xs.map fun x => [f x]).map List.length).sum ≤ xs.length := by
    clear h
    induction xs with
    | nil => simp
    | cons x r ih => simp at ih ⊢; omega
  simp only []
  rw [if_pos (by simp only [List.length_nil, Nat.mul_zero, Nat.add_zero]; exact Nat.le_trans this h), joinS_chars]; rfl
/-! ### rounds -/
/-- one is put behind, if it is not there -/
def grow (f : Int → Int) (r : List Int) : List Int := r ++ (if f (gl r) ∈ r then [] else [f (gl r)])
def rowN (f : Int → Int) (b : Int) : Nat → List Int
  | 0 => [b]
  | n + 1 => grow f (rowN f b n)
@[simp] theorem gl_one (r : List Int) (x : Int) : gl (r ++ [x]) = x := by simp [gl]
theorem gl_mem {r : List Int} (h : r ≠ []) : gl r ∈ r := by
  have : gl r ∈ r.dropLast ++ [gl r] := by simp
  rwa [← split_last h] at this
theorem rowN_ne (f : Int → Int) (b : Int) (n : Nat) : rowN f b n ≠ [] := by
  cases n with
  | zero => simp [rowN]
  | succ n => 
    have := rowN_ne f b n
    simp [rowN, grow, this]
theorem rowN_nodup (f : Int → Int) (b : Int) (n : Nat) : (rowN f b n).Nodup := by
  induction n with
  | zero => simp [rowN]
  | succ n ih =>
    unfold rowN grow
    split
    · simpa using ih
    · rename_i h
      rw [List.nodup_append]
      exact ⟨ih, by simp, fun a ha c hc e => by rw [List.mem_singleton.mp hc] at e; exact h (e ▸ ha)⟩
theorem rowN_stop (f : Int → Int) (b : Int) (n : Nat) (h : f (gl (rowN f b n)) ∈ rowN f b n) : ∀ k, rowN f b (n + k) = rowN f b n := by
  intro k
  induction k with
  | zero => rfl
  | succ k ih =>
    show grow f (rowN f b (n + k)) = _
    rw [ih]
    unfold grow
    rw [if_pos h, List.append_nil]
/-- all but the last go on within, and what is not the first comes from within -/
theorem rowN_steps (f : Int → Int) (b : Int) (n : Nat) : (∀ x ∈ rowN f b n, x = gl (rowN f b n) ∨ f x ∈ rowN f b n) ∧ ∀ y ∈ rowN f b n, y = b ∨ ∃ x ∈ rowN f b n, x ≠ gl (rowN f b n) ∧ f x = y := by
  induction n with
  | zero => simp [rowN, gl]
  | succ n ih =>
    obtain ⟨h1, h2⟩ := ih
    unfold rowN grow
    split
    · simpa using ⟨h1, h2⟩
    · rename_i hn
      rw [gl_one]
      have gm := gl_mem (rowN_ne f b n)
      refine ⟨fun x hx => ?_, fun y hy => ?_⟩
      · rcases List.mem_append.mp hx with hx | hx
        · rcases h1 x hx with e | e
          · right; rw [e]; simp
          · right; simp [e]
        · left; simpa using hx
      · rcases List.mem_append.mp hy with hy | hy
        · rcases h2 y hy with e | ⟨x, hx, hne, e⟩
          · exact .inl e
          · refine .inr ⟨x, by simp [hx], fun z => hn (z ▸ hx), e⟩
        · right
          rw [List.mem_singleton.mp hy]
          refine ⟨gl (rowN f b n), by simp [gm], fun z => hn (z ▸ gm), rfl⟩
/-- a whole round: closed, both ways -/
theorem round_closed {f : Int → Int} {b : Int} {n m : Nat} (hf : ∀ x, (0 ≤ x ∧ x < (m : Int)) → ∀ y, (0 ≤ y ∧ y < (m : Int)) → f x = f y → x = y) (hR : ∀ x ∈ rowN f b n, 0 ≤ x ∧ x < (m : Int)) (h : f (gl (rowN f b n)) ∈ rowN f b n) :
    (∀ x ∈ rowN f b n, f x ∈ rowN f b n) ∧ ∀ x, (0 ≤ x ∧ x < (m : Int)) → f x ∈ rowN f b n → x ∈ rowN f b n := by
  obtain ⟨h1, h2⟩ := rowN_steps f b n
  have gm := gl_mem (rowN_ne f b n)
  refine ⟨fun x hx => ?_, fun x hx hfx => ?_⟩
  · rcases h1 x hx with e | e
    · rw [e]; exact h
    · exact e
  · rcases h2 _ hfx with e | ⟨y, hy, _, e⟩
    · rcases h2 _ h with e2 | ⟨y, hy, hne, e2⟩
      · rw [hf x hx _ (hR _ gm) (e.trans e2.symm)]; exact gm
      · exact absurd (hf y (hR _ hy) _ (hR _ gm) e2) hne
    · rw [hf x hx y (hR _ hy) e.symm]; exact hy
/-- the rounds of those that are left -/
def rnds (f : Int → Int) (m : Nat) : Nat → List Int → List (List Int)
  | 0, _ => []
  | _ + 1, [] => []
  | n + 1, b :: l => rowN f b m :: rnds f m n ((b :: l).filter fun x => !decide (x ∈ rowN f b m))
theorem rowN_head (f : Int → Int) (b : Int) (n : Nat) : b ∈ rowN f b n := by
  induction n with
  | zero => simp [rowN]
  | succ n ih => simp [rowN, grow, ih]
theorem nodup_le {l L : List Int} (h : l.Nodup) (hs : ∀ x ∈ l, x ∈ L) : l.length ≤ L.length := by
  induction l generalizing L with
  | nil => simp
  | cons x l ih =>
    rw [List.nodup_cons] at h
    have hx := hs x (List.mem_cons_self ..)
    have := ih (L := L.erase x) h.2 fun y hy => (List.mem_erase_of_ne (fun (e : y = x) => h.1 (e ▸ hy))).mpr (hs y (List.mem_cons_of_mem _ hy))
    rw [List.length_erase_of_mem hx] at this
    have := List.length_pos_of_mem hx
    simp; omega
end Ice
namespace Ice
@[simp] theorem pIn_char (c : Nat) (s : List Nat) : pInn (.str [c]) (.str s) = .ok (.bl (s.contains c), false) := (rfl)
theorem pNin_kvI {β : Type} (g : β → PV) (k : Int) (l : List (Int × β)) : pNin (.int k) (.dct (kvI g l)) = .ok (.bl (!(l.lookup k).isSome), false) := by
  show ofB ((if (PV.int k).isKey then (dGet (.int k) (kvI g l)).map Option.isSome else none).map (!·)) = _
  rw [dGet_kvI, if_pos (show (PV.int k).isKey = true from rfl)]
  cases l.lookup k <;> rfl
theorem mSet_kvI {β : Type} (g : β → PV) (k : Int) (v : β) (l : List (Int × β)) (h : ∀ z ∈ l, z.1 ≠ k) (h2 : l.length < 16777216) : mSet (.int k) (g v) (.dct (kvI g l)) = .ok (.non, .dct (kvI g (l ++ [(k, v)]))) := by
  show (if (PV.int k).isKey then (match dPut (.int k) (g v) (kvI g l) with | some d => if (kvI g l).length < LIM then R.ok (PV.non, PV.dct d) else .stuck | none => .stuck) else .stuck) = _
  rw [dPut_new g k v l h, if_pos (show (PV.int k).isKey = true from rfl)]
  exact if_pos (by simpa [kvI] using h2)
theorem lookup_some_mem {β : Type} {k : Int} : ∀ {l : List (Int × β)}, (l.lookup k).isSome = decide (k ∈ l.map (·.1)) := by
  intro l
  induction l with
  | nil => rfl
  | cons z l ih =>
    obtain ⟨a, b⟩ := z
    rw [List.lookup_cons]
    by_cases q : k = a
    · simp [q]
    · simp [beq_eq_false_iff_ne.mpr q, ih, q]
theorem lookup_zip {β : Type} [Inhabited β] : ∀ (l : List Int) (cs : List β) (p : Int), p ∈ l → l.length = cs.length → (l.zip cs).lookup p = some (gx cs (l.idxOf p : Int)) := by
  intro l
  induction l with
  | nil => intro cs p h; cases h
  | cons a l ih =>
    intro cs p h hl
    cases cs with
    | nil => simp at hl
    | cons c cs =>
      rw [List.zip_cons_cons, List.lookup_cons]
      by_cases q : p = a
      · subst q; simp [gx]
      · have hp : p ∈ l := by simpa [q] using h
        have := ih cs p hp (by simpa using hl)
        simp only [beq_eq_false_iff_ne.mpr q]
        rw [this, List.idxOf_cons, beq_eq_false_iff_ne.mpr (fun e => q e.symm)]
        simp [gx]
theorem map_fst_zip {β : Type} : ∀ (l : List Int) (cs : List β), l.length = cs.length → (l.zip cs).map (·.1) = l := by
  intro l
  induction l with
  | nil => intros; rfl
  | cons a l ih => intro cs h; cases cs with
    | nil => simp at h
    | cons c cs => simp at h ⊢; exact ih cs h
theorem pIx_strm {cs : List Nat} {i : Int} (h : 0 ≤ i) (h2 : i < cs.length) : pIx (.str cs) (.int i) = .ok (.str [gx cs i], false) := by
  show (match atIx cs i with | some c => old (.str [c]) | none => .stuck) = _
  rw [atIx_of h h2]; rfl
/-- those that stand where they go -/
def fixes (l : List Int) : List Int := (rangeI l.length).filter fun i => decide (gx l i = i)
theorem fixes_enum (l : List Int) : ((l.zipIdx 0).filter fun z => decide ((z.2 : Int) = z.1)).map (fun z => (z.2 : Int)) = fixes l := by
  have e : l.zipIdx 0 = (List.range l.length).map fun (i : Nat) => (gx l (i : Int), i) := by
    apply List.ext_getElem?
    intro i
    rw [List.getElem?_zipIdx, List.getElem?_map]
    by_cases h : i < l.length
    · simp [List.getElem?_range h, List.getElem?_eq_getElem h, gx, List.getD_eq_getElem?_getD]
    · rw [List.getElem?_eq_none (by omega), List.getElem?_eq_none (by simp; omega)]; rfl
  rw [e, List.filter_map, List.map_map]
  unfold fixes rangeI
  rw [List.filter_map]
  have : ((fun z : Int × Nat => decide ((z.2 : Int) = z.1)) ∘ fun i : Nat => (gx l (i : Int), i)) = ((fun i : Int => decide (gx l i = i)) ∘ fun k : Nat => (k : Int)) := by
    funext i
    simp only [Function.comp]
    by_cases h : (i : Int) = gx l i
    · rw [decide_eq_true h, decide_eq_true h.symm]
    · rw [decide_eq_false h, decide_eq_false fun e => h e.symm]
  rw [this]
  rfl
end Ice
namespace Ice
@[simp] theorem pNe_tnil (xs : List PV) : pNe (.tup xs) (.tup []) = .ok (.bl (!xs.isEmpty), false) := by
  unfold pNe peq; rw [show DEEP = 11 + 1 from rfl, peqF]; cases xs <;> rfl
theorem left_head {m j : Nat} (hj : j < m) {K : List Int} (h : ∀ i : Int, 0 ≤ i → i < j → i ∈ K) (hn : (j : Int) ∉ K) : ∃ l, (rangeI m).filter (fun x => !decide (x ∈ K)) = (j : Int) :: l := by
  have e : rangeI m = (rangeI m).take j ++ (j : Int) :: (rangeI m).drop (j + 1) := by
    have : (rangeI m)[j]'(by simpa using hj) = (j : Int) := by simp [rangeI]
    conv => lhs; rw [← List.take_append_drop j (rangeI m), List.drop_eq_getElem_cons (by simpa using hj), this]
  have h1 : ((rangeI m).take j).filter (fun x => !decide (x ∈ K)) = [] := by
    rw [List.filter_eq_nil_iff]
    intro x hx
    obtain ⟨i, hi, rfl⟩ := List.mem_iff_getElem.mp hx
    simp only [List.length_take, rangeI_len] at hi
    have : ((rangeI m).take j)[i] = (i : Int) := by simp [rangeI]
    rw [this]
    simpa using h i (by omega) (by omega)
  rw [e, List.filter_append, h1, List.nil_append, List.filter_cons_of_pos (by simpa using hn)]
  exact ⟨_, rfl⟩
theorem rnds_nil (f : Int → Int) (m q : Nat) : rnds f m q [] = [] := by cases q <;> rfl
theorem filter_filter' (K R l : List Int) : (l.filter fun x => !decide (x ∈ K)).filter (fun x => !decide (x ∈ R)) = l.filter fun x => !decide (x ∈ K ++ R) := by
  rw [List.filter_filter]
  congr 1
  funext x
  by_cases a : x ∈ K <;> by_cases b : x ∈ R <;> simp [a, b]
/-- what is known, on the way -/
structure Kn (f : Int → Int) (m j : Nat) (K : List Int) : Prop where
  nd : K.Nodup
  rg : ∀ x ∈ K, 0 ≤ x ∧ x < (m : Int)
  fw : ∀ x ∈ K, f x ∈ K
  bw : ∀ x, (0 ≤ x ∧ x < (m : Int)) → f x ∈ K → x ∈ K
  lo : ∀ i : Int, 0 ≤ i → i < j → i ∈ K
/-- a row, on the way -/
structure Rw (f : Int → Int) (m j : Nat) (K R : List Int) (here : Int) : Prop where
  nd : (K ++ R).Nodup
  rg : ∀ x ∈ R, 0 ≤ x ∧ x < (m : Int)
  hr : 0 ≤ here ∧ here < (m : Int)
  sh : (R = [] ∧ here = j) ∨ ∃ n, R = rowN f j n ∧ R.length = n + 1 ∧ here = f (gl R)
theorem Rw.start {f : Int → Int} {m j : Nat} {K : List Int} (k : Kn f m j K) (hj : j < m) : Rw f m j K [] j := ⟨by simpa using k.nd, by simp, by omega, .inl ⟨rfl, rfl⟩⟩
theorem Rw.le {f : Int → Int} {m j : Nat} {K R : List Int} {here : Int} (k : Kn f m j K) (r : Rw f m j K R here) : K.length + R.length ≤ m := by
  have := nodup_le (L := rangeI m) r.nd fun x hx => rangeI_mem.mpr (by
    rcases List.mem_append.mp hx with h | h
    · exact k.rg x h
    · exact r.rg x h)
  simpa using this
theorem Rw.step {f : Int → Int} {m j : Nat} {K R : List Int} {here : Int} (hf : ∀ x, (0 ≤ x ∧ x < (m : Int)) → 0 ≤ f x ∧ f x < (m : Int)) (r : Rw f m j K R here) (h : here ∉ K ++ R) : Rw f m j K (R ++ [here]) (f here) := by
  refine ⟨?_, fun x hx => ?_, hf _ r.hr, .inr ?_⟩
  · rw [← List.append_assoc, List.nodup_append]
    exact ⟨r.nd, by simp, fun a ha b hb e => h (by rw [List.mem_singleton.mp hb] at e; exact e ▸ ha)⟩
  · rcases List.mem_append.mp hx with q | q
    · exact r.rg x q
    · rw [List.mem_singleton.mp q]; exact r.hr
  · rw [gl_one]
    rcases r.sh with ⟨rfl, rfl⟩ | ⟨n, e, hl, rfl⟩
    · exact ⟨0, rfl, rfl, rfl⟩
    · refine ⟨n + 1, ?_, by simp [hl], rfl⟩
      have : f (gl R) ∉ R := fun q => h (List.mem_append_right _ q)
      show _ = grow f (rowN f j n)
      rw [← e]
      unfold grow
      rw [if_neg this]
theorem Rw.known {f : Int → Int} {m j : Nat} {K R : List Int} {here : Int} (r : Rw f m j K R here) (hk : (j : Int) ∈ K) : R = [] := by
  rcases r.sh with ⟨e, _⟩ | ⟨n, e, _, _⟩
  · exact e
  · have := r.nd
    rw [List.nodup_append] at this
    exact absurd rfl (this.2.2 _ hk _ (by rw [e]; exact rowN_head f j n))
theorem Rw.new {f : Int → Int} {m j : Nat} {K R : List Int} {here : Int} (hf : ∀ x, (0 ≤ x ∧ x < (m : Int)) → ∀ y, (0 ≤ y ∧ y < (m : Int)) → f x = f y → x = y) (k : Kn f m j K) (r : Rw f m j K R here) (hj : j < m) (hk : (j : Int) ∉ K) (h : here ∈ K ++ R) :
    R = rowN f j m ∧ Kn f m (j + 1) (K ++ R) := by
  rcases r.sh with ⟨rfl, rfl⟩ | ⟨n, e, hl, rfl⟩
  · rw [List.append_nil] at h; exact absurd h hk
  · have hne : R ≠ [] := by rw [e]; exact rowN_ne f j n
    have gm := gl_mem hne
    have hR : f (gl R) ∈ R := by
      rcases List.mem_append.mp h with q | q
      · have := k.bw _ (r.rg _ gm) q
        have nd := r.nd
        rw [List.nodup_append] at nd
        exact absurd rfl (nd.2.2 _ this _ gm)
      · exact q
    have hle := r.le k
    have hn : n ≤ m := by omega
    have e2 : rowN f j m = R := by
      have := rowN_stop f j n (by rw [← e]; exact hR) (m - n)
      rw [show n + (m - n) = m by omega] at this
      rw [this, e]
    obtain ⟨c1, c2⟩ := round_closed (n := n) hf (by rw [← e]; exact r.rg) (by rw [← e]; exact hR)
    rw [← e] at c1 c2
    refine ⟨e2.symm, r.nd, fun x hx => ?_, fun x hx => ?_, fun x hx hfx => ?_, fun i h1 h2 => ?_⟩
    · rcases List.mem_append.mp hx with q | q
      · exact k.rg x q
      · exact r.rg x q
    · rcases List.mem_append.mp hx with q | q
      · exact List.mem_append_left _ (k.fw x q)
      · exact List.mem_append_right _ (c1 x q)
    · rcases List.mem_append.mp hfx with q | q
      · exact List.mem_append_left _ (k.bw x hx q)
      · exact List.mem_append_right _ (c2 x hx q)
    · by_cases q : i < j
      · exact List.mem_append_left _ (k.lo i h1 q)
      · have : i = j := by omega
        subst this
        exact List.mem_append_right _ (by rw [e]; exact rowN_head f j n)
theorem Kn.next {f : Int → Int} {m j : Nat} {K : List Int} (k : Kn f m j K) (h : (j : Int) ∈ K) : Kn f m (j + 1) K := ⟨k.nd, k.rg, k.fw, k.bw, fun i h1 h2 => by
  by_cases q : i < j
  · exact k.lo i h1 q
  · have : i = j := by omega
    subst this; exact h⟩
/-- what is left -/
def leftO (m : Nat) (K : List Int) : List Int := (rangeI m).filter fun x => !decide (x ∈ K)
theorem leftO_new {f : Int → Int} {m j q : Nat} {K : List Int} (k : Kn f m j K) (hj : j < m) (hk : (j : Int) ∉ K) (hq : (leftO m K).length ≤ q) :
    ∃ q', (leftO m (K ++ rowN f j m)).length ≤ q' ∧ rnds f m q (leftO m K) = rowN f j m :: rnds f m q' (leftO m (K ++ rowN f j m)) := by
  obtain ⟨l, e⟩ := left_head hj k.lo hk
  have e : leftO m K = (j : Int) :: l := e
  rw [e] at hq ⊢
  cases q with
  | zero => simp at hq
  | succ q =>
    have e2 : leftO m (K ++ rowN f j m) = ((j : Int) :: l).filter fun x => !decide (x ∈ rowN f j m) := by
      rw [← e]; exact (filter_filter' K _ _).symm
    refine ⟨q, ?_, by rw [e2]; rfl⟩
    rw [e2, List.filter_cons_of_neg (by simpa using rowN_head f j m)]
    have := List.length_filter_le (fun x => !decide (x ∈ rowN f j m)) l
    simp at hq
    omega
theorem leftO_end {f : Int → Int} {m : Nat} {K : List Int} (k : Kn f m m K) : leftO m K = [] := by
  unfold leftO
  rw [List.filter_eq_nil_iff]
  intro x hx
  have := rangeI_mem.mp hx
  simpa using k.lo x this.1 this.2
end Ice
namespace Ice
theorem nodup_inj {l : List Int} (h : l.Nodup) : ∀ {i j : Nat} (hi : i < l.length) (hj : j < l.length), l[i] = l[j] → i = j := by
  intro i j hi hj e
  rw [List.nodup_iff_pairwise_ne, List.pairwise_iff_getElem] at h
  rcases Nat.lt_trichotomy i j with q | q | q
  · exact absurd e (h i j hi hj q)
  · exact q
  · exact absurd e.symm (h j i hj hi q)
@[simp] theorem eD_nil (F : FE) (ρ : Env) : eD [] F ρ = .ok (.dct [], true, ρ) := (rfl)
theorem leftO_nil (m : Nat) : leftO m [] = rangeI m := by
  unfold leftO
  rw [List.filter_eq_self]
  simp
end Ice
namespace Ice
theorem reps_one {α : Type} (x : α) (n : Nat) : reps [x] n = List.replicate n x := by
  unfold reps
  induction n with
  | zero => rfl
  | succ n ih => rw [List.replicate_succ, List.flatten_cons, ih, List.replicate_succ]; rfl
theorem pMul_one {x : PV} {k : Int} (h : 0 ≤ k) (h2 : k ≤ 1000) : pMul (.tup [x]) (.int k) = .ok (.tup (List.replicate k.toNat x), false) := by
  show (if okRep [x].length k then old (.tup (reps [x] k.toNat)) else .stuck) = _
  rw [reps_one, if_pos]; · rfl
  unfold okRep
  simp only [Bool.and_eq_true, decide_eq_true_eq, List.length_singleton, Nat.one_mul]
  have : LIM = 16777216 := rfl
  omega
theorem rowN_rg {f : Int → Int} {m : Nat} (hf : ∀ x, (0 ≤ x ∧ x < (m : Int)) → 0 ≤ f x ∧ f x < (m : Int)) {b : Int} (hb : 0 ≤ b ∧ b < (m : Int)) (n : Nat) : ∀ x ∈ rowN f b n, 0 ≤ x ∧ x < (m : Int) := by
  induction n with
  | zero => intro x hx; rw [List.mem_singleton.mp hx]; exact hb
  | succ n ih =>
    intro x hx
    unfold rowN grow at hx
    rcases List.mem_append.mp hx with q | q
    · exact ih x q
    · split at q
      · cases q
      · rw [List.mem_singleton.mp q]; exact hf _ (ih _ (gl_mem (rowN_ne f b n)))
theorem rowN_len (f : Int → Int) (b : Int) (n : Nat) : (rowN f b n).length ≤ n + 1 := by
  induction n with
  | zero => exact Nat.le_refl _
  | succ n ih =>
    unfold rowN grow
    split <;> simp <;> omega
end Ice
namespace Ice
theorem rangeI_succ (k : Nat) : rangeI (k + 1) = rangeI k ++ [(k : Int)] := by simp [rangeI, List.range_succ]
theorem rangeI_lt (m : Nat) : (rangeI m).Pairwise (· < ·) := by
  induction m with
  | zero => simp
  | succ m ih =>
    rw [rangeI_succ, List.pairwise_append]
    exact ⟨ih, by simp, fun a ha b hb => by rw [List.mem_singleton.mp hb]; exact (rangeI_mem.mp ha).2⟩
end Ice
namespace Ice
theorem rnds_len (f : Int → Int) (m : Nat) : ∀ (q : Nat) (l : List Int), (rnds f m q l).length ≤ q ∧ ∀ r ∈ rnds f m q l, r.length ≤ m + 1 := by
  intro q
  induction q with
  | zero => intro l; simp [rnds]
  | succ q ih =>
    intro l
    cases l with
    | nil => simp [rnds]
    | cons b l =>
      obtain ⟨a, c⟩ := ih ((b :: l).filter fun x => !decide (x ∈ rowN f b m))
      refine ⟨by show (rowN f b m :: _).length ≤ _; rw [List.length_cons]; omega, fun r hr => ?_⟩
      rcases List.mem_cons.mp hr with e | e
      · rw [e]; exact rowN_len f b m
      · exact c r e
theorem fixes_all (m : Nat) : fixes (rangeI m) = rangeI m := by
  unfold fixes
  rw [rangeI_len, List.filter_eq_self]
  intro x hx
  have := rangeI_mem.mp hx
  simpa using rangeI_gx this.1 this.2
theorem gl_rangeI {m : Nat} (h : 1 ≤ m) : gl (rangeI m) = (m : Int) - 1 := by
  unfold rangeI
  rw [gl_map_range _ _ h]
  omega
theorem fixes_len (l : List Int) : (fixes l).length ≤ l.length := by
  have := List.length_filter_le (fun i => decide (gx l i = i)) (rangeI l.length)
  rw [rangeI_len] at this
  exact this
end Ice
end
section
set_option autoImplicit false
set_option linter.all false
set_option maxRecDepth 100000
namespace Ice
/-! ### lists of lists that nobody else holds -/
abbrev frV (fr : List (List Int)) : List (List PV) := fr.map fun l => l.map PV.int
theorem frV_get {fr : List (List Int)} {n : Nat} (h : n < fr.length) : (frV fr)[n]? = some ((gx fr (n : Int)).map PV.int) := by
  simp [gx, List.getD_eq_getElem?_getD, List.getElem?_eq_getElem h]
theorem frV_set (fr : List (List Int)) (n : Nat) (zs : List Int) : (frV fr).set n (zs.map PV.int) = frV (fr.set n zs) := by
  simp [frV, List.map_set]
def slY {α : Type} (x : R α) : Slot → R α
  | .ow2 _ => x
  | _ => .stuck
@[simp] theorem slY_ow2 {α : Type} (x : R α) (xs : List (List PV)) : slY x (.ow2 xs) = x := (rfl)
@[simp] theorem own2_ap {α : Type} (i : Nat) (ρ : Env) (x : R α) : own2 i ρ x = slY x (gS ρ i) := by
  unfold own2 slY; cases gS ρ i <;> rfl
def slK (f : PV → Out) (ρ : Env) (s : Slot) (q : PV) : R (PV × Bool × Env) := match at2 s q with
  | some (xs, n) => match xs[n]? with
    | some ys => (f (.lst ys)).bind (KxP ρ)
    | none => .stuck
  | none => .stuck
@[simp] theorem slK_fr (f : PV → Out) (ρ : Env) (fr : List (List Int)) {j : Int} (h0 : 0 ≤ j) (h1 : j < fr.length) : slK f ρ (.ow2 (frV fr)) (.int j) = (f (.lst ((gx fr j).map PV.int))).bind (KxP ρ) := by
  have e : at2 (.ow2 (frV fr)) (.int j) = some (frV fr, j.toNat) := by
    show (ixOf (frV fr).length j).map _ = _
    rw [ixOf_of h0 (by simpa using h1)]; rfl
  unfold slK
  rw [e]
  show (match (frV fr)[j.toNat]? with | some ys => (f (.lst ys)).bind (KxP ρ) | none => .stuck) = _
  rw [frV_get (by omega), show ((j.toNat : Nat) : Int) = j by omega]
def KeT (f : PV → Out) (i : Nat) (ρ : Env) : PV → R (PV × Bool × Env) := fun q => slK f ρ (gS ρ i) q
@[simp] theorem KeT_ap (f : PV → Out) (i : Nat) (ρ : Env) (q : PV) : KeT f i ρ q = slK f ρ (gS ρ i) q := (rfl)
def KeS (f : PV → Out) (i : Nat) : Opd × Env → R (PV × Bool × Env) := fun z => match z with | (x, ρ) => (deref ρ x).bind (KeT f i ρ)
@[simp] theorem KeS_ap (f : PV → Out) (i : Nat) (x : Opd) (ρ : Env) : KeS f i (x, ρ) = (deref ρ x).bind (KeT f i ρ) := (rfl)
@[simp] theorem eS2_ap (f : PV → Out) (i : Nat) (k : Op) (F : FE) (ρ : Env) : eS2 f i k F ρ = slY ((k F ρ).bind (KeS f i)) (gS ρ i) := by
  rw [← own2_ap]
  unfold eS2
  congr 2
def KuW (i : Nat) (n : Nat) (xs : List (List PV)) (ρ : Env) : PV × PV → R (Flow × Env) := fun z => match z with | (_, z) => match z with
  | .lst zs => .ok (.nx, sS ρ i (.ow2 (xs.set n zs)))
  | _ => .stuck
@[simp] theorem KuW_fr (i : Nat) (n : Nat) (fr : List (List Int)) (ρ : Env) (w : PV) (zs : List Int) : KuW i n (frV fr) ρ (w, .lst (zs.map PV.int)) = .ok (.nx, sS ρ i (.ow2 (frV (fr.set n zs)))) := by
  show R.ok (Flow.nx, sS ρ i (.ow2 ((frV fr).set n (zs.map PV.int)))) = _
  rw [frV_set]
def slM (f : PV → PV → R (PV × PV)) (i n : Nat) (p : PV) (ρ : Env) : Slot → R (Flow × Env)
  | .lk2 ys => match ys[n]? with
    | some y => (f p (.lst y)).bind (KuW i n ys ρ)
    | none => .stuck
  | _ => .stuck
@[simp] theorem slM_fr (f : PV → PV → R (PV × PV)) (i n : Nat) (p : PV) (ρ : Env) (fr : List (List Int)) (h : n < fr.length) : slM f i n p ρ (.lk2 (frV fr)) = (f p (.lst ((gx fr (n : Int)).map PV.int))).bind (KuW i n (frV fr) ρ) := by
  show (match (frV fr)[n]? with | some y => (f p (.lst y)).bind (KuW i n (frV fr) ρ) | none => .stuck) = _
  rw [frV_get h]
def KuV (f : PV → PV → R (PV × PV)) (i n : Nat) : PV × Bool × Env → R (Flow × Env) := fun z => match z with | (p, _, ρ) => slM f i n p ρ (gS ρ i)
@[simp] theorem KuV_ap (f : PV → PV → R (PV × PV)) (i n : Nat) (p : PV) (m : Bool) (ρ : Env) : KuV f i n (p, m, ρ) = slM f i n p ρ (gS ρ i) := (rfl)
def slL (f : PV → PV → R (PV × PV)) (i : Nat) (v : Ev) (F : FE) (ρ : Env) (s : Slot) (q : PV) : R (Flow × Env) := match at2 s q with
  | some (xs, n) => (v F (sS ρ i (.lk2 xs))).bind (KuV f i n)
  | none => .stuck
@[simp] theorem slL_fr (f : PV → PV → R (PV × PV)) (i : Nat) (v : Ev) (F : FE) (ρ : Env) (fr : List (List Int)) {j : Int} (h0 : 0 ≤ j) (h1 : j < fr.length) : slL f i v F ρ (.ow2 (frV fr)) (.int j) = (v F (sS ρ i (.lk2 (frV fr)))).bind (KuV f i j.toNat) := by
  have e : at2 (.ow2 (frV fr)) (.int j) = some (frV fr, j.toNat) := by
    show (ixOf (frV fr).length j).map _ = _
    rw [ixOf_of h0 (by simpa using h1)]; rfl
  unfold slL
  rw [e]
def KuT (f : PV → PV → R (PV × PV)) (i : Nat) (v : Ev) (F : FE) (ρ : Env) : PV → R (Flow × Env) := fun q => slL f i v F ρ (gS ρ i) q
@[simp] theorem KuT_ap (f : PV → PV → R (PV × PV)) (i : Nat) (v : Ev) (F : FE) (ρ : Env) (q : PV) : KuT f i v F ρ q = slL f i v F ρ (gS ρ i) q := (rfl)
def KuS (f : PV → PV → R (PV × PV)) (i : Nat) (v : Ev) (F : FE) : Opd × Env → R (Flow × Env) := fun z => match z with | (x, ρ) => (deref ρ x).bind (KuT f i v F ρ)
@[simp] theorem KuS_ap (f : PV → PV → R (PV × PV)) (i : Nat) (v : Ev) (F : FE) (x : Opd) (ρ : Env) : KuS f i v F (x, ρ) = (deref ρ x).bind (KuT f i v F ρ) := (rfl)
@[simp] theorem sSub2_ap (f : PV → PV → R (PV × PV)) (i : Nat) (k : Op) (v : Ev) (F : FE) (ρ : Env) : sSub2 f i k v F ρ = slY ((k F ρ).bind (KuS f i v F)) (gS ρ i) := by
  rw [← own2_ap]
  unfold sSub2
  congr 2
@[simp] theorem mRem_lst {k : Int} {xs : List Int} (h : k ∈ xs) : mRem (.int k) (.lst (xs.map .int)) = .ok (.non, .lst ((xs.erase k).map .int)) := by
  show (match PV.int k, intsOf (xs.map .int) with | .int k, some ns => if k ∈ ns then R.ok (PV.non, PV.lst ((ns.erase k).map .int)) else .stuck | _, _ => .stuck) = _
  rw [intsOf_map]
  exact if_pos h
/-! ### a[b], c = v, w -/
def KjE : PV × Env → R Env := fun z => match z with | (_, ρ) => .ok ρ
@[simp] theorem KjE_ap (v : PV) (ρ : Env) : KjE (v, ρ) = .ok ρ := (rfl)
def slJ (i : Nat) (p : PV) (ρ : Env) : Slot → R Env
  | .val q => (chg i (mSet q p) ρ).bind KjE
  | _ => .stuck
@[simp] theorem slJ_val (i : Nat) (p : PV) (ρ : Env) (q : PV) : slJ i p ρ (.val q) = (chg i (mSet q p) ρ).bind KjE := (rfl)
@[simp] theorem tgS_ap (i j : Nat) (p : PV) (ρ : Env) : tgS i j p ρ = slJ i p ρ (gS ρ j) := by
  unfold tgS slJ
  cases gS ρ j <;> rfl
/-! ### least, greatest -/
def minI (m : Int) : List Int → Int
  | [] => m
  | x :: r => minI (if x < m then x else m) r
theorem minL_map : ∀ (r : List Int) (m : Int), minL (.int m) (r.map .int) = .int (minI m r) := by
  intro r
  induction r with
  | nil => intro m; rfl
  | cons x r ih =>
    intro m
    show minL (if ltb (.int x) (.int m) then .int x else .int m) (r.map .int) = _
    rw [ltb_int]
    by_cases q : x < m
    · simp [q, ih, minI]
    · simp [q, ih, minI]
@[simp] theorem pMin_lint (m : Int) (r : List Int) : pMin (.lst (.int m :: r.map .int)) = .ok (.int (minI m r), false) := by
  show (if okPairs (.int m :: r.map .int) then old (minL (.int m) (r.map .int)) else .stuck) = _
  have := okPairs_int (m :: r)
  rw [List.map_cons] at this
  rw [this, minL_map]; rfl
theorem minI_spec : ∀ (r : List Int) (m : Int), minI m r ∈ m :: r ∧ ∀ x ∈ m :: r, minI m r ≤ x := by
  intro r
  induction r with
  | nil => intro m; simp [minI]
  | cons x r ih =>
    intro m
    obtain ⟨a, b⟩ := ih (if x < m then x else m)
    unfold minI
    by_cases q : x < m
    · rw [if_pos q] at a b ⊢
      refine ⟨?_, fun y hy => ?_⟩
      · rcases List.mem_cons.mp a with e | e
        · rw [e]; simp
        · simp [e]
      · have := b x (List.mem_cons_self ..)
        simp only [List.mem_cons] at hy
        rcases hy with rfl | rfl | hy
        · omega
        · exact this
        · exact b y (List.mem_cons_of_mem _ hy)
    · rw [if_neg q] at a b ⊢
      refine ⟨?_, fun y hy => ?_⟩
      · rcases List.mem_cons.mp a with e | e
        · rw [e]; simp
        · simp [e]
      · have := b m (List.mem_cons_self ..)
        simp only [List.mem_cons] at hy
        rcases hy with rfl | rfl | hy
        · exact this
        · omega
        · exact b y (List.mem_cons_of_mem _ hy)
@[simp] theorem pNil_lst (xs : List PV) : pNil (.lst xs) = .ok (.bl xs.isEmpty, false) := pEq_lnil xs
theorem pMul_lst1 {x : PV} {k : Int} (h : 0 ≤ k) (h2 : k ≤ 1000) : pMul (.lst [x]) (.int k) = .ok (.lst (List.replicate k.toNat x), true) := by
  show (if okRep [x].length k then new (.lst (reps [x] k.toNat)) else .stuck) = _
  rw [reps_one, if_pos]; · rfl
  unfold okRep
  simp only [Bool.and_eq_true, decide_eq_true_eq, List.length_singleton, Nat.one_mul]
  have : LIM = 16777216 := rfl
  omega
/-- a = [[..] for ..] -/
theorem sAsg2_map {α : Type} {i : Nat} {own : List Nat} {it : It} {tg : Tg} {d : Ev} {F : FE} {ρ ρ1 : Env} {ps : List PV} {l : Option Nat} (e : α → PV) (g : α → List PV) (xs : List α)
    (hit : it F ρ = .ok (ps, l, ρ1)) (hps : ps = xs.map e) (hp : plainS ρ1 own = true) (hl : xs.length ≤ 16777216) (hi : gS (unlock l ρ1) i = .un)
    (hs : ∀ x ∈ xs, Ret ((tg (e x) (wipeS own ρ1)).bind (d F)) fun r => r.1 = .lst (g x) ∧ r.2.1 = true ∧ wipeS own r.2.2 = wipeS own ρ1) :
    sAsg2 i own it tg d F ρ = .ok (.nx, sS (unlock l ρ1) i (.ow2 (xs.map g))) := by
  subst hps
  have key : ∀ (xs : List α) (ρ : Env), wipeS own ρ = wipeS own ρ1 → (∀ x ∈ xs, Ret ((tg (e x) (wipeS own ρ1)).bind (d F)) fun r => r.1 = .lst (g x) ∧ r.2.1 = true ∧ wipeS own r.2.2 = wipeS own ρ1) →
      ∃ ρ', wipeS own ρ' = wipeS own ρ1 ∧ compL own tg none (elFr d) F (xs.map e) ρ = .ok (xs.map fun x => .lst (g x), ρ') := by
    intro xs
    induction xs with
    | nil => intro ρ h _; exact ⟨ρ, h, rfl⟩
    | cons x xs ih =>
      intro ρ hw h
      obtain ⟨⟨v, m, ρ3⟩, he, h1, h2, hw3⟩ := h x (List.mem_cons_self ..)
      obtain ⟨ρ4, hw4, he4⟩ := ih ρ3 hw3 fun y hy => h y (List.mem_cons_of_mem _ hy)
      refine ⟨ρ4, hw4, ?_⟩
      rw [List.map_cons]
      unfold compL
      rw [hw]
      have h1 : v = .lst (g x) := h1
      have h2 : m = true := h2
      subst h1 h2
      cases q1 : tg (e x) (wipeS own ρ1) with
      | ok ρ2 =>
        rw [q1] at he
        simp only [R.ok_bind, cond?, if_true] at he ⊢
        have hf : elFr d F ρ2 = .ok ([.lst (g x)], ρ3) := by
          unfold elFr
          rw [he]; rfl
        rw [hf]
        simp only [R.ok_bind]
        rw [he4]
        rfl
      | exn => rw [q1] at he; cases he
      | stuck => rw [q1] at he; cases he
  obtain ⟨ρ', w', r'⟩ := key xs ρ1 rfl hs
  have hls : ∀ yss : List α, lists (yss.map fun x => .lst (g x)) = some (yss.map g) := by
    intro yss
    induction yss with
    | nil => rfl
    | cons y yss ih => simp [lists, ih]
  unfold sAsg2 eComp
  simp only [hit, R.ok_bind, hp, if_true, r']
  unfold finL
  rw [if_pos (by simpa using hl)]
  simp only [R.ok_bind, R.calm_ok, rest_wipe w', hi, hls]
  rfl
end Ice
end
section
set_option autoImplicit false
set_option linter.all false
set_option maxRecDepth 100000
namespace Ice
/-! ### loans of pairs -/
abbrev Loan : Type := Int × Int × Int
abbrev loV (z : Loan) : PV := .tup [.int z.1, .int z.2.1, .int z.2.2]
def optI : Option Int → PV
  | none => .non
  | some i => .int i
/-- one loan: when it begins, what is free then -/
def lend1 (fr : List (List Int)) (z : Loan) : Option Int × List (List Int) := match gx fr z.2.1 with
  | [] => (none, fr)
  | f :: r => (some (if z.1 < minI f r then minI f r else z.1), fr.set z.2.1.toNat ((f :: r).erase (minI f r) ++ [(if z.1 < minI f r then minI f r else z.1) + z.2.2]))
def lend : List Loan → List (List Int) → List (Option Int)
  | [], _ => []
  | z :: L, fr => (lend1 fr z).1 :: lend L (lend1 fr z).2
theorem gx_set {α : Type} [Inhabited α] (fr : List α) (n : Nat) (x : α) (h : n < fr.length) : gx (fr.set n x) (n : Int) = x := by
  simp [gx, List.getD_eq_getElem?_getD, h]
theorem gx_set_ne {α : Type} [Inhabited α] (fr : List α) (n : Nat) (x : α) (s : Int) (h0 : 0 ≤ s) (h : s ≠ n) : gx (fr.set n x) s = gx fr s := by
  have : n ≠ s.toNat := by omega
  simp [gx, List.getD_eq_getElem?_getD, List.getElem?_set_ne this]
/-- a loan of size s that is not over at x -/
def still (s x : Int) (w : Loan) : Bool := decide (w.2.1 = s) && decide (x < w.1 + w.2.2)
/-- nobody waits: there is a pair for everyone -/
def good (p : Int → Nat) : List Loan → List Loan → Bool
  | _, [] => true
  | P, z :: R => decide (P.countP (still z.2.1 z.1) < p z.2.1) && good p (P ++ [z]) R
/-- what is free, behind the loans P of which nobody waited, from the time t on -/
structure FrOk (p : Int → Nat) (P : List Loan) (fr : List (List Int)) (t : Int) : Prop where
  len : ∀ s : Int, 0 ≤ s → s < fr.length → (gx fr s).length = p s
  cnt : ∀ s : Int, 0 ≤ s → s < fr.length → ∀ x, t ≤ x → (gx fr s).countP (fun e => decide (x < e)) = P.countP (still s x)
theorem countP_erase {l : List Int} {m : Int} (h : m ∈ l) (q : Int → Bool) : l.countP q = (l.erase m).countP q + (if q m then 1 else 0) := by
  have := (List.perm_cons_erase h).countP_eq q
  rw [this, List.countP_cons]
theorem good_iff (p : Int → Nat) : ∀ (R P : List Loan) (fr : List (List Int)) (t : Int), FrOk p P fr t → (∀ z ∈ R, t ≤ z.1) → R.Pairwise (fun a b => a.1 ≤ b.1) → (∀ z ∈ R, 0 ≤ z.2.1 ∧ z.2.1 < fr.length) →
    (lend R fr = R.map (fun z => some z.1) ↔ good p P R = true) := by
  intro R
  induction R with
  | nil => intro P fr t _ _ _ _; simp [lend, good]
  | cons z R ih =>
    intro P fr t O ht hs hz
    rw [List.pairwise_cons] at hs
    obtain ⟨z0, z1⟩ := hz z (List.mem_cons_self ..)
    have zt := ht z (List.mem_cons_self ..)
    have hl := O.len _ z0 z1
    have hc := O.cnt _ z0 z1 z.1 zt
    show ((lend1 fr z).1 :: lend R (lend1 fr z).2 = some z.1 :: R.map _) ↔ (decide (P.countP (still z.2.1 z.1) < p z.2.1) && good p (P ++ [z]) R) = true
    rw [List.cons_eq_cons, Bool.and_eq_true, decide_eq_true_eq, ← hc, ← hl]
    cases hg : gx fr z.2.1 with
    | nil =>
      have : lend1 fr z = (none, fr) := by unfold lend1; rw [hg]
      rw [this]
      simp
    | cons f r =>
      have e1 : lend1 fr z = (some (if z.1 < minI f r then minI f r else z.1), fr.set z.2.1.toNat ((f :: r).erase (minI f r) ++ [(if z.1 < minI f r then minI f r else z.1) + z.2.2])) := by unfold lend1; rw [hg]
      obtain ⟨mm, ml⟩ := minI_spec r f
      rw [e1]
      by_cases q : z.1 < minI f r
      · have : (f :: r).countP (fun e => decide (z.1 < e)) = (f :: r).length := by
          rw [List.countP_eq_length]
          intro e he
          have := ml e he
          simp; omega
        rw [this]
        simp [q]
        intro h; omega
      · have hlt : (f :: r).countP (fun e => decide (z.1 < e)) < (f :: r).length := by
          rw [countP_erase mm]
          have h1 := List.countP_le_length (p := fun e => decide (z.1 < e)) (l := (f :: r).erase (minI f r))
          rw [List.length_erase_of_mem mm] at h1
          rw [if_neg (by simpa using q)]
          simp at h1 ⊢
          omega
        rw [if_neg q]
        simp only [hlt, true_and]
        have sn : z.2.1.toNat < fr.length := by omega
        have sc : ((z.2.1.toNat : Nat) : Int) = z.2.1 := by omega
        have gs : gx (fr.set z.2.1.toNat ((f :: r).erase (minI f r) ++ [z.1 + z.2.2])) z.2.1 = (f :: r).erase (minI f r) ++ [z.1 + z.2.2] := by
          have := gx_set fr z.2.1.toNat ((f :: r).erase (minI f r) ++ [z.1 + z.2.2]) sn
          rwa [sc] at this
        refine ih (P ++ [z]) _ z.1 ⟨fun s s0 s1 => ?_, fun s s0 s1 x hx => ?_⟩ hs.1 hs.2 (fun w hw => by rw [List.length_set]; exact hz w (List.mem_cons_of_mem _ hw))
        · rw [List.length_set] at s1
          by_cases e : s = z.2.1
          · subst e
            rw [gs, ← hl, hg, List.length_append, List.length_erase_of_mem mm]
            simp
          · rw [gx_set_ne _ _ _ _ s0 (by omega)]; exact O.len s s0 s1
        · rw [List.length_set] at s1
          rw [List.countP_append, List.countP_singleton]
          have o := O.cnt s s0 s1 x (by omega)
          by_cases e : s = z.2.1
          · subst e
            rw [hg, countP_erase mm, if_neg (by simp; omega), Nat.add_zero] at o
            rw [gs]
            rw [List.countP_append, List.countP_singleton, o]
            simp [still]
          · rw [gx_set_ne _ _ _ _ s0 (by omega), o]
            have : still s x z = false := by simp [still, Ne.symm e]
            simp [this]
end Ice
namespace Ice
/-- a loan of size s that is on at x -/
def onAt (s x : Int) (z : Loan) : Bool := decide (z.2.1 = s) && (decide (z.1 ≤ x) && decide (x < z.1 + z.2.2))
def crowd (s x : Int) (L : List Loan) : Nat := L.countP (onAt s x)
theorem crowd_le {p : Int → Nat} : ∀ (R P : List Loan), good p P R = true → (∀ s x, crowd s x P ≤ p s) → ∀ s x, crowd s x (P ++ R) ≤ p s := by
  intro R
  induction R with
  | nil => intro P _ h s x; rw [List.append_nil]; exact h s x
  | cons z R ih =>
    intro P hg h s x
    have hg : (decide (P.countP (still z.2.1 z.1) < p z.2.1) && good p (P ++ [z]) R) = true := hg
    rw [Bool.and_eq_true, decide_eq_true_eq] at hg
    have := ih (P ++ [z]) hg.2 (fun s x => by
      unfold crowd
      rw [List.countP_append, List.countP_singleton]
      by_cases q : onAt s x z = true
      · rw [if_pos q]
        unfold onAt at q
        simp only [Bool.and_eq_true, decide_eq_true_eq] at q
        obtain ⟨rfl, q1, q2⟩ := q
        have : P.countP (onAt z.2.1 x) ≤ P.countP (still z.2.1 z.1) := by
          refine List.countP_mono_left fun w _ hw => ?_
          unfold onAt at hw
          simp only [Bool.and_eq_true, decide_eq_true_eq] at hw
          unfold still
          simp only [Bool.and_eq_true, decide_eq_true_eq]
          exact ⟨hw.1, by omega⟩
        omega
      · rw [if_neg q]; exact h s x) s x
    rw [List.append_assoc] at this
    exact this
theorem good_of {p : Int → Nat} : ∀ (R P : List Loan), (P ++ R).Pairwise (fun a b => a.1 ≤ b.1) → (∀ z ∈ R, 1 ≤ z.2.2) → (∀ z ∈ R, crowd z.2.1 z.1 (P ++ R) ≤ p z.2.1) → good p P R = true := by
  intro R
  induction R with
  | nil => intros; rfl
  | cons z R ih =>
    intro P hs h1 hc
    show (decide (P.countP (still z.2.1 z.1) < p z.2.1) && good p (P ++ [z]) R) = true
    rw [Bool.and_eq_true, decide_eq_true_eq]
    refine ⟨?_, ih (P ++ [z]) (by rw [List.append_assoc]; exact hs) (fun w hw => h1 w (List.mem_cons_of_mem _ hw)) fun w hw => by rw [List.append_assoc]; exact hc w (List.mem_cons_of_mem _ hw)⟩
    have hz := h1 z (List.mem_cons_self ..)
    have hcz := hc z (List.mem_cons_self ..)
    unfold crowd at hcz
    rw [List.countP_append, List.countP_cons] at hcz
    have on : onAt z.2.1 z.1 z = true := by
      simp [onAt]
      omega
    rw [if_pos on] at hcz
    rw [List.pairwise_append] at hs
    have : P.countP (still z.2.1 z.1) ≤ P.countP (onAt z.2.1 z.1) := by
      refine List.countP_mono_left fun w hw hst => ?_
      unfold still at hst
      simp only [Bool.and_eq_true, decide_eq_true_eq] at hst
      unfold onAt
      simp only [Bool.and_eq_true, decide_eq_true_eq]
      exact ⟨hst.1, hs.2.2 w hw z (List.mem_cons_self ..), hst.2⟩
    omega
/-- nobody waits, if there are as many pairs as the largest crowd; and only then -/
theorem lend_crowd {p : Int → Nat} {L : List Loan} {fr : List (List Int)} (O : FrOk p [] fr 0) (h0 : ∀ z ∈ L, 0 ≤ z.1) (hs : L.Pairwise (fun a b => a.1 ≤ b.1)) (h1 : ∀ z ∈ L, 1 ≤ z.2.2) (hz : ∀ z ∈ L, 0 ≤ z.2.1 ∧ z.2.1 < fr.length) :
    (lend L fr = L.map (fun z => some z.1) ↔ ∀ z ∈ L, crowd z.2.1 z.1 L ≤ p z.2.1) ∧ (lend L fr = L.map (fun z => some z.1) → ∀ s x, crowd s x L ≤ p s) := by
  have g := good_iff p L [] fr 0 O h0 hs hz
  have c : good p [] L = true → ∀ s x, crowd s x L ≤ p s := fun h => crowd_le L [] h (fun s x => Nat.zero_le _)
  exact ⟨⟨fun h z _ => c (g.mp h) _ _, fun h => g.mpr (good_of L [] hs h1 h)⟩, fun h => c (g.mp h)⟩
end Ice
namespace Ice
/-! ### numbers or nothing -/
theorem optI_eq (n : Nat) (a b : Option Int) : peqF n (optI a) (optI b) = some (decide (a = b)) := by
  cases a with
  | none => cases b with
    | none => rw [show Ice.optI none = PV.non from rfl, peqF] <;> first | rfl | simp
    | some j => rw [show Ice.optI none = PV.non from rfl, show Ice.optI (some j) = PV.int j from rfl, peqF] <;> first | rfl | simp
  | some i => cases b with
    | none => rw [show Ice.optI none = PV.non from rfl, show Ice.optI (some i) = PV.int i from rfl, peqF] <;> first | rfl | simp
    | some j =>
      have := EqOn.int n i j
      rw [show Ice.optI (some i) = PV.int i from rfl, show Ice.optI (some j) = PV.int j from rfl, this]
      congr 1
      simp
theorem pNin_optI (xs : List (Option Int)) : pNin .non (.lst (xs.map optI)) = .ok (.bl (!decide (none ∈ xs)), false) := by
  have e := EqOn.inL (f := optI) (fun a b => optI_eq 12 a b) none xs
  have e : inL .non (xs.map optI) = some (decide (none ∈ xs)) := Eq.trans e (by congr 1; exact decide_eq_decide.mpr Iff.rfl)
  show ofB ((inL .non (xs.map optI)).map (!·)) = _
  rw [e]; rfl
def maxI (m : Int) : List Int → Int
  | [] => m
  | x :: r => maxI (if m < x then x else m) r
theorem maxL_map : ∀ (r : List Int) (m : Int), maxL (.int m) (r.map .int) = .int (maxI m r) := by
  intro r
  induction r with
  | nil => intro m; rfl
  | cons x r ih =>
    intro m
    show maxL (if ltb (.int m) (.int x) then .int x else .int m) (r.map .int) = _
    rw [ltb_int]
    by_cases q : m < x
    · simp [q, ih, maxI]
    · simp [q, ih, maxI]
theorem pMax_lint (m : Int) (r : List Int) : pMax (.lst ((m :: r).map .int)) = .ok (.int (maxI m r), false) := by
  show (if okPairs ((m :: r).map .int) then old (maxL (.int m) (r.map .int)) else .stuck) = _
  rw [okPairs_int, maxL_map]; rfl
theorem maxI_spec : ∀ (r : List Int) (m : Int), maxI m r ∈ m :: r ∧ ∀ x ∈ m :: r, x ≤ maxI m r := by
  intro r
  induction r with
  | nil => intro m; simp [maxI]
  | cons x r ih =>
    intro m
    obtain ⟨a, b⟩ := ih (if m < x then x else m)
    unfold maxI
    by_cases q : m < x
    · rw [if_pos q] at a b ⊢
      refine ⟨?_, fun y hy => ?_⟩
      · rcases List.mem_cons.mp a with e | e
        · rw [e]; simp
        · simp [e]
      · have := b x (List.mem_cons_self ..)
        simp only [List.mem_cons] at hy
        rcases hy with rfl | rfl | hy
        · omega
        · exact this
        · exact b y (List.mem_cons_of_mem _ hy)
    · rw [if_neg q] at a b ⊢
      refine ⟨?_, fun y hy => ?_⟩
      · rcases List.mem_cons.mp a with e | e
        · rw [e]; simp
        · simp [e]
      · have := b m (List.mem_cons_self ..)
        simp only [List.mem_cons] at hy
        rcases hy with rfl | rfl | hy
        · exact this
        · omega
        · exact b y (List.mem_cons_of_mem _ hy)
theorem lend_len : ∀ (L : List Loan) (fr : List (List Int)), (lend L fr).length = L.length := by
  intro L
  induction L with
  | nil => intros; rfl
  | cons z L ih => intro fr; simp [lend, ih]
theorem lend_ge : ∀ (L : List Loan) (fr : List (List Int)), ∀ z ∈ L.zip (lend L fr), ∀ i, z.2 = some i → z.1.1 ≤ i := by
  intro L
  induction L with
  | nil => intro fr z hz; simp at hz
  | cons w L ih =>
    intro fr z hz i hi
    simp only [lend, List.zip_cons_cons, List.mem_cons] at hz
    rcases hz with rfl | hz
    · unfold lend1 at hi
      split at hi
      · cases hi
      · simp only [Option.some.injEq] at hi
        split at hi <;> (subst hi; simp; try omega)
    · exact ih _ z hz i hi
/-- how long each waits -/
def waits (L : List Loan) (b : List (Option Int)) : List (Option Int) := (L.zip b).map fun z => z.2.map fun i => i - z.1.1
theorem waits_zero : ∀ (L : List Loan) (b : List (Option Int)), b.length = L.length → (∀ z ∈ L.zip b, ∀ i, z.2 = some i → z.1.1 ≤ i) →
    ((none ∉ waits L b ∧ ∀ i, some i ∈ waits L b → i ≤ 0) ↔ b = L.map fun z => some z.1) := by
  intro L
  induction L with
  | nil => intro b h _; rw [List.eq_nil_of_length_eq_zero h]; simp [waits]
  | cons z L ih =>
    intro b h hg
    cases b with
    | nil => simp at h
    | cons c b =>
      have ih := ih b (by simpa using h) (fun w hw => hg w (by simp [hw]))
      have hc := hg (z, c) (by simp)
      unfold waits at ih ⊢
      simp only [List.zip_cons_cons, List.map_cons, List.mem_cons, not_or, List.cons.injEq]
      rw [← ih]
      cases c with
      | none => simp
      | some i =>
        have := hc i rfl
        have this : z.1 ≤ i := this
        simp only [Option.map_some, Option.some.injEq]
        constructor
        · rintro ⟨⟨_, a⟩, c⟩
          have := c (i - z.1) (.inl rfl)
          exact ⟨by omega, a, fun j hj => c j (.inr hj)⟩
        · rintro ⟨e, a, c⟩
          refine ⟨⟨by simp, a⟩, fun j hj => ?_⟩
          rcases hj with hj | hj
          · omega
          · exact c j hj
end Ice
namespace Ice
/-! ### the largest crowd -/
/-- the loans of a size -/
def own (s : Int) (L : List Loan) : List Loan := L.filter fun z => decide (z.2.1 = s)
theorem own_mem {s : Int} {L : List Loan} {z : Loan} : z ∈ own s L ↔ z ∈ L ∧ z.2.1 = s := by simp [own]
theorem crowd_own (s x : Int) (L : List Loan) : crowd s x (own s L) = crowd s x L := by
  unfold crowd own
  rw [List.countP_filter]
  apply List.countP_congr
  intro z _
  simp [onAt]
  intro a b c
  exact a
def mostIn (L : List Loan) (s : Int) : Nat := ((List.range 31).map fun (t : Nat) => crowd s (t : Int) L).foldr max 0
theorem foldr_max (xs : List Nat) (p : Nat) : xs.foldr max 0 ≤ p ↔ ∀ x ∈ xs, x ≤ p := by
  induction xs with
  | nil => simp
  | cons x xs ih => simp only [List.foldr_cons, List.mem_cons, forall_eq_or_imp, ← ih]; omega
theorem mostIn_le (L : List Loan) (s : Int) (p : Nat) : mostIn L s ≤ p ↔ ∀ t : Nat, t < 31 → crowd s (t : Int) L ≤ p := by
  unfold mostIn
  rw [foldr_max]
  simp
theorem mostIn_own (L : List Loan) (s : Int) : mostIn L s ≤ (own s L).length := by
  rw [mostIn_le]
  intro t _
  rw [← crowd_own]
  exact List.countP_le_length
theorem range_head (m : Nat) : ∀ n, m ≤ n → ∃ r, (List.range (n + 1)).filter (fun k => decide (m ≤ k)) = m :: r := by
  intro n
  induction n with
  | zero => intro h; have : m = 0 := by omega
            subst this; exact ⟨[], rfl⟩
  | succ n ih =>
    intro h
    rw [List.range_succ, List.filter_append]
    by_cases q : m ≤ n
    · obtain ⟨r, e⟩ := ih q
      rw [e]; exact ⟨_, rfl⟩
    · have : m = n + 1 := by omega
      subst this
      rw [List.filter_eq_nil_iff.mpr (by intro k hk; have := List.mem_range.mp hk; simp; omega)]
      simp
end Ice
namespace Ice
/-- pairs of one size alone -/
def only (s p : Int) : List Int := (List.range 3).map fun k : Nat => if (k : Int) = s then p else 0
theorem only_len (s p : Int) : (only s p).length = 3 := by simp [only]
abbrev fr0 (stock : List Int) : List (List Int) := stock.map fun k => List.replicate k.toNat 0
theorem fr0_gx (st : List Int) (s : Int) (h0 : 0 ≤ s) (h : s < st.length) : gx (fr0 st) s = List.replicate (gx st s).toNat 0 := by
  have : s.toNat < st.length := by omega
  simp [gx, fr0, List.getD_eq_getElem?_getD, List.getElem?_eq_getElem this]
theorem fr0_ok (st : List Int) : FrOk (fun s => (gx st s).toNat) [] (fr0 st) 0 := by
  refine ⟨fun s h0 h => ?_, fun s h0 h x hx => ?_⟩
  · rw [fr0_gx st s h0 (by simpa using h)]; simp
  · rw [fr0_gx st s h0 (by simpa using h), List.countP_nil, List.countP_eq_zero]
    intro e he
    rw [(List.mem_replicate.mp he).2]
    simp; omega
theorem only_gx (s p : Int) (h0 : 0 ≤ s) (h : s ≤ 2) : gx (only s p) s = p := by
  have : s = 0 ∨ s = 1 ∨ s = 2 := by omega
  rcases this with rfl | rfl | rfl <;> simp [only, gx, List.range_succ]
theorem short_most {L : List Loan} {s p : Int} (h0 : 0 ≤ s) (h2 : s ≤ 2) (ht : ∀ z ∈ L, 0 ≤ z.1 ∧ z.1 ≤ 30) (h1 : ∀ z ∈ L, 1 ≤ z.2.2) (hs : L.Pairwise fun a b => a.1 ≤ b.1) :
    lend (own s L) (fr0 (only s p)) = (own s L).map (fun z => some z.1) ↔ mostIn L s ≤ p.toNat := by
  have g := lend_crowd (L := own s L) (fr0_ok (only s p)) (fun z hz => (ht z (own_mem.mp hz).1).1) (hs.filter _) (fun z hz => h1 z (own_mem.mp hz).1) (fun z hz => by
    rw [(own_mem.mp hz).2]; simp [only_len]; omega)
  constructor
  · intro e
    rw [mostIn_le]
    intro t _
    have := g.2 e s t
    rw [crowd_own] at this
    simpa [only_gx s p h0 h2] using this
  · intro h
    rw [g.1]
    intro z hz
    obtain ⟨zL, zs⟩ := own_mem.mp hz
    obtain ⟨t0, t1⟩ := ht z zL
    rw [zs, crowd_own, only_gx s p h0 h2]
    have := (mostIn_le L s p.toNat).mp h z.1.toNat (by omega)
    rwa [show ((z.1.toNat : Nat) : Int) = z.1 by omega] at this
end Ice
namespace Ice
theorem Ret.thn_may {x : R (Flow × Env)} {b : Sx} {F : FE} {Q : Env → Prop} {P : Flow × Env → Prop} (h : Ret x fun r => (r.1 = .nx ∧ Q r.2) ∨ ((∃ p n, r.1 = .rt p n) ∧ P r)) (k : ∀ ρ, Q ρ → Ret (b F ρ) P) : Ret (Ice.thn x b F) P := by
  obtain ⟨⟨f, ρ⟩, e, h⟩ := h
  rw [e]
  rcases h with ⟨q, h⟩ | ⟨⟨p, n, q⟩, h⟩
  · have q : f = .nx := q
    subst q
    exact k ρ h
  · have q : f = .rt p n := q
    subst q
    exact ⟨_, thn_rt p n ρ b F, h⟩
/-- who is there -/
def thereN (L : List Loan) (s x : Int) : List Nat := (List.range L.length).filter fun i => onAt s x (gx L (i : Int))
theorem zipIdx_range {α : Type} [Inhabited α] (l : List α) : l.zipIdx 0 = (List.range l.length).map fun (i : Nat) => (gx l (i : Int), i) := by
  apply List.ext_getElem?
  intro i
  rw [List.getElem?_zipIdx, List.getElem?_map]
  by_cases h : i < l.length
  · simp [List.getElem?_range h, List.getElem?_eq_getElem h, gx, List.getD_eq_getElem?_getD]
  · rw [List.getElem?_eq_none (by omega), List.getElem?_eq_none (by simp; omega)]; rfl
theorem range_gx {α : Type} [Inhabited α] (l : List α) : (List.range l.length).map (fun (i : Nat) => gx l (i : Int)) = l := by
  apply List.ext_getElem?
  intro i
  rw [List.getElem?_map]
  by_cases h : i < l.length
  · simp [List.getElem?_range h, List.getElem?_eq_getElem h, gx, List.getD_eq_getElem?_getD]
  · rw [List.getElem?_eq_none (l := l) (by omega), List.getElem?_eq_none (by simp; omega)]; rfl
theorem there_len (L : List Loan) (s x : Int) : (thereN L s x).length = crowd s x L := by
  unfold thereN crowd
  conv => rhs; rw [← range_gx L]
  rw [List.countP_map, List.countP_eq_length_filter]
  rfl
/-- the first time with a crowd -/
def firstC (L : List Loan) (s : Int) (m : Nat) : Option Nat := (List.range 31).find? fun t => decide (m ≤ crowd s (t : Int) L)
def paperV (L : List Loan) (s : Int) (m : Nat) : PV := match firstC L s m with
  | none => .non
  | some t => .tup [.int t, .tup ((thereN L s t).map fun (i : Nat) => .int (i : Int))]
end Ice
namespace Ice
theorem nubI_spec (xs : List Int) : (nubI xs).length ≤ xs.length ∧ ((nubI xs).length = xs.length ↔ xs.Nodup) := by
  induction xs with
  | nil => simp [nubI]
  | cons x xs ih =>
    unfold nubI
    by_cases q : x ∈ xs
    · have q2 : xs.contains x = true := by simpa using q
      simp only [q, q2, if_true, List.length_cons, List.nodup_cons, not_true_eq_false, false_and, iff_false]
      omega
    · have q2 : xs.contains x = false := by simpa using q
      simp only [q, q2, Bool.false_eq_true, if_false, List.length_cons, List.nodup_cons, not_false_eq_true, true_and]
      exact ⟨by omega, by rw [← ih.2]; omega⟩
/-- some of those that are there, many enough, no one twice -/
def isCrowd (L : List Loan) (s : Int) (m : Nat) (t : Int) (ps : List Int) : Bool := decide (m ≤ ps.length) && (decide ps.Nodup && ps.all fun p => onAt s t (gx L p))
end Ice
end
section
set_option autoImplicit false
set_option linter.all false
set_option maxRecDepth 100000
namespace Ice
/-! ### what is told of begins: by it they are what goes on hour by hour -/
abbrev Zl : Type := Loan × Option Int
def outZ (s x : Int) (z : Zl) : Bool := decide (z.1.2.1 = s) && (match z.2 with
  | some b => decide (b ≤ x) && decide (x < b + z.1.2.2)
  | none => false)
def busyZ (s x : Int) (P : List Zl) : Nat := P.countP (outZ s x)
structure Fct (p : Int → Nat) (P : List Zl) (z : Loan) (o : Option Int) : Prop where
  nn : o = none → p z.2.1 = 0
  ge : ∀ b, o = some b → z.1 ≤ b
  mono : ∀ b, o = some b → ∀ w ∈ P, w.1.2.1 = z.2.1 → ∀ c, w.2 = some c → c ≤ b
  room : ∀ b, o = some b → busyZ z.2.1 b P < p z.2.1
  full : ∀ b, o = some b → ∀ x, z.1 ≤ x → x < b → p z.2.1 ≤ busyZ z.2.1 x P
def Fcts (p : Int → Nat) : List Zl → List Zl → Prop
  | _, [] => True
  | P, z :: R => Fct p P z.1 z.2 ∧ Fcts p (P ++ [z]) R
structure FrI (p : Int → Nat) (P : List Zl) (t s : Int) (F : List Int) : Prop where
  len : F.length = p s
  ex : ∃ β : Int, (∀ w ∈ P, w.1.2.1 = s → ∀ c, w.2 = some c → c ≤ β) ∧ (∀ x, β ≤ x → F.countP (fun e => decide (x < e)) = busyZ s x P) ∧ (∀ f ∈ F, β ≤ t ∨ β ≤ f) ∧ ∀ x, t ≤ x → x < β → p s ≤ busyZ s x P
theorem FrI.mono {p : Int → Nat} {P : List Zl} {t t' s : Int} {F : List Int} (h : FrI p P t s F) (ht : t ≤ t') : FrI p P t' s F := by
  obtain ⟨h1, β, a, b, c, d⟩ := h
  refine ⟨h1, β, a, b, fun f hf => ?_, fun x hx => d x (by omega)⟩
  rcases c f hf with q | q
  · exact .inl (by omega)
  · exact .inr q
theorem busyZ_snoc (s x : Int) (P : List Zl) (z : Zl) : busyZ s x (P ++ [z]) = busyZ s x P + (if outZ s x z then 1 else 0) := by
  simp [busyZ, List.countP_append, List.countP_singleton]
theorem FrI.other {p : Int → Nat} {P : List Zl} {t s : Int} {F : List Int} {z : Zl} (h : FrI p P t s F) (hz : z.1.2.1 ≠ s ∨ z.2 = none) : FrI p (P ++ [z]) t s F := by
  obtain ⟨h1, β, a, b, c, d⟩ := h
  have e : ∀ x, outZ s x z = false := by
    intro x
    unfold outZ
    rcases hz with q | q
    · simp [q]
    · simp [q]
  have e2 : ∀ x, busyZ s x (P ++ [z]) = busyZ s x P := by intro x; rw [busyZ_snoc, e]; simp
  refine ⟨h1, β, fun w hw hs c hc => ?_, fun x hx => by rw [e2]; exact b x hx, c, fun x h1 h2 => by rw [e2]; exact d x h1 h2⟩
  rcases List.mem_append.mp hw with q | q
  · exact a w q hs c hc
  · simp at q; subst q
    rcases hz with q | q
    · exact absurd hs q
    · rw [q] at hc; cases hc
/-- one loan by a pair that is free first -/
theorem FrI.step {p : Int → Nat} {P : List Zl} {t s h : Int} {f : Int} {r : List Int} (I : FrI p P t s (f :: r)) (hh : 1 ≤ h) :
    Fct p P (t, s, h) (some (if t < minI f r then minI f r else t)) ∧
    FrI p (P ++ [((t, s, h), some (if t < minI f r then minI f r else t))]) t s ((f :: r).erase (minI f r) ++ [(if t < minI f r then minI f r else t) + h]) := by
  obtain ⟨mm, ml⟩ := minI_spec r f
  obtain ⟨h1, β, a, b, c, d⟩ := I
  obtain ⟨m, hm⟩ : ∃ m, minI f r = m := ⟨_, rfl⟩
  rw [hm] at mm ml ⊢
  obtain ⟨g, hg⟩ : ∃ g, (if t < m then m else t) = g := ⟨_, rfl⟩
  rw [hg]
  have g1 : t ≤ g := by rw [← hg]; split <;> omega
  have g2 : m ≤ g := by rw [← hg]; split <;> omega
  have g3 : g = t ∨ g = m := by rw [← hg]; split <;> simp
  have hβ : β ≤ g := by rcases c m mm with q | q <;> omega
  obtain ⟨F, hF⟩ : ∃ F, f :: r = F := ⟨_, rfl⟩
  rw [hF] at mm ml h1 b c ⊢
  have hF1 : F.length = (F.erase m).length + 1 := by
    rw [List.length_erase_of_mem mm]
    have := List.length_pos_of_mem mm
    omega
  have cnt : ∀ x, F.countP (fun e => decide (x < e)) = (F.erase m).countP (fun e => decide (x < e)) + (if decide (x < m) then 1 else 0) := fun x => countP_erase mm _
  have full : ∀ x, t ≤ x → x < g → p s ≤ busyZ s x P := by
    intro x x1 x2
    have hgm : g = m := by omega
    by_cases q : β ≤ x
    · rw [← b x q, ← h1]
      have : F.countP (fun e => decide (x < e)) = F.length := by
        rw [List.countP_eq_length]
        intro e he
        have := ml e he
        simp; omega
      omega
    · exact d x x1 (by omega)
  refine ⟨⟨by simp, ?_, ?_, ?_, ?_⟩, ?_, g, ?_, ?_, ?_, ?_⟩
  · intro b' e; cases e; exact g1
  · intro b' e w hw hs c hc; cases e
    have := a w hw hs c hc
    omega
  · intro b' e; cases e
    show busyZ s g P < p s
    rw [← b g hβ, ← h1, cnt g]
    have := List.countP_le_length (p := fun e => decide (g < e)) (l := F.erase m)
    rw [if_neg (by simp; omega)]
    omega
  · intro b' e x x1 x2; cases e
    exact full x x1 x2
  · simp; omega
  · intro w hw hs c hc
    rcases List.mem_append.mp hw with q | q
    · have := a w q hs c hc; omega
    · simp at q; subst q
      simp at hc; omega
  · intro x hx
    rw [busyZ_snoc, ← b x (by omega), cnt x, List.countP_append, List.countP_singleton]
    have e1 : outZ s x ((t, s, h), some g) = decide (x < g + h) := by
      simp [outZ, hx]
    have e2 : decide (x < m) = false := by simp; omega
    rw [e1, e2]
    simp
  · intro e he
    rcases g3 with q | q
    · exact .inl (by omega)
    · rcases List.mem_append.mp he with q2 | q2
      · have := ml e (List.mem_of_mem_erase q2); exact .inr (by omega)
      · simp at q2; exact .inr (by omega)
  · intro x x1 x2
    rw [busyZ_snoc]
    have := full x x1 x2
    omega
theorem lend_fcts (p : Int → Nat) : ∀ (L : List Loan) (P : List Zl) (fr : List (List Int)) (t : Int), (∀ s : Int, 0 ≤ s → s < fr.length → FrI p P t s (gx fr s)) → (∀ z ∈ L, t ≤ z.1) → L.Pairwise (fun a b => a.1 ≤ b.1) → (∀ z ∈ L, 0 ≤ z.2.1 ∧ z.2.1 < fr.length) → (∀ z ∈ L, 1 ≤ z.2.2) →
    Fcts p P (L.zip (lend L fr)) := by
  intro L
  induction L with
  | nil => intro P fr t _ _ _ _ _; trivial
  | cons z L ih =>
    intro P fr t I ht hs hz hh
    rw [List.pairwise_cons] at hs
    obtain ⟨z0, z1⟩ := hz z (List.mem_cons_self ..)
    have zt := ht z (List.mem_cons_self ..)
    have I := fun s a b => (I s a b).mono zt
    have I0 := I _ z0 z1
    show Fct p P z (lend1 fr z).1 ∧ Fcts p (P ++ [(z, (lend1 fr z).1)]) (L.zip (lend L (lend1 fr z).2))
    cases hg : gx fr z.2.1 with
    | nil =>
      have : lend1 fr z = (none, fr) := by unfold lend1; rw [hg]
      rw [this]
      rw [hg] at I0
      have hl := I0.len
      refine ⟨⟨fun _ => by simpa using hl.symm, by simp, by simp, by simp, by simp⟩, ?_⟩
      exact ih _ fr z.1 (fun s a b => (I s a b).other (.inr rfl)) hs.1 hs.2 (fun w hw => hz w (List.mem_cons_of_mem _ hw)) (fun w hw => hh w (List.mem_cons_of_mem _ hw))
    | cons f r =>
      have e1 : lend1 fr z = (some (if z.1 < minI f r then minI f r else z.1), fr.set z.2.1.toNat ((f :: r).erase (minI f r) ++ [(if z.1 < minI f r then minI f r else z.1) + z.2.2])) := by unfold lend1; rw [hg]
      rw [hg] at I0
      obtain ⟨a, b⟩ := I0.step (hh z (List.mem_cons_self ..))
      rw [e1]
      refine ⟨a, ih _ _ z.1 ?_ hs.1 hs.2 (fun w hw => by simpa using hz w (List.mem_cons_of_mem _ hw)) (fun w hw => hh w (List.mem_cons_of_mem _ hw))⟩
      intro s s0 s1
      by_cases q : s = z.2.1
      · subst q
        have := gx_set fr z.2.1.toNat ((f :: r).erase (minI f r) ++ [(if z.1 < minI f r then minI f r else z.1) + z.2.2]) (by omega)
        rw [show ((z.2.1.toNat : Nat) : Int) = z.2.1 by omega] at this
        rw [this]
        exact b
      · rw [gx_set_ne _ _ _ _ s0 (by omega)]
        exact (I s s0 (by simpa using s1)).other (.inl (by simpa using fun e => q e.symm))
theorem fr0_frI (st : List Int) (s : Int) (h0 : 0 ≤ s) (h : s < (fr0 st).length) : FrI (fun s => (gx st s).toNat) [] 0 s (gx (fr0 st) s) := by
  rw [fr0_gx st s h0 (by simpa using h)]
  refine ⟨by simp, 0, by simp, fun x hx => ?_, fun f hf => .inl (by omega), fun x h1 h2 => by omega⟩
  rw [busyZ, List.countP_nil, List.countP_eq_zero]
  intro e he
  rw [(List.mem_replicate.mp he).2]
  simp; omega
theorem Fcts.at {p : Int → Nat} : ∀ {R P : List Zl}, Fcts p P R → ∀ (i : Nat) (z : Zl), R[i]? = some z → Fct p (P ++ R.take i) z.1 z.2 := by
  intro R
  induction R with
  | nil => intro P _ i z h; simp at h
  | cons w R ih =>
    intro P h i z hz
    cases i with
    | zero => simp at hz; subst hz; simpa using h.1
    | succ i =>
      have := ih h.2 i z (by simpa using hz)
      simpa using this
/-- those of a size that have theirs before x, and still at x; those that begin at x -/
def heldZ (s x : Int) (z : Zl) : Bool := decide (z.1.2.1 = s) && (match z.2 with
  | some b => decide (b < x) && decide (x < b + z.1.2.2)
  | none => false)
def nowZ (s x : Int) (z : Zl) : Bool := decide (z.1.2.1 = s) && decide (z.2 = some x)
theorem countP_add {α : Type} (p q r : α → Bool) (l : List α) (h : ∀ z ∈ l, (if r z then 1 else 0) = (if p z then 1 else 0) + (if q z then 1 else 0)) : l.countP r = l.countP p + l.countP q := by
  induction l with
  | nil => rfl
  | cons z l ih =>
    rw [List.countP_cons, List.countP_cons, List.countP_cons, ih fun y hy => h y (List.mem_cons_of_mem _ hy), h z (List.mem_cons_self ..)]
    omega
/-- hour by hour: who gets one now -/
theorem turn_iff {p : Int → Nat} {Z : List Zl} (F : Fcts p [] Z) (hh : ∀ z ∈ Z, 1 ≤ z.1.2.2) {x : Int} {i : Nat} {z : Zl} (hz : Z[i]? = some z) (ht : z.1.1 ≤ x) (hb : ∀ b, z.2 = some b → x ≤ b) :
    (0 < (p z.1.2.1 : Int) - Z.countP (heldZ z.1.2.1 x) - (Z.take i).countP (nowZ z.1.2.1 x)) ↔ z.2 = some x := by
  have f := F.at i z hz
  rw [List.nil_append] at f
  have later : ∀ (j : Nat) (w : Zl), i ≤ j → Z[j]? = some w → w.1.2.1 = z.1.2.1 → ∀ c, w.2 = some c → x ≤ c ∧ z.2 ≠ none := by
    intro j w hj hw hs c hc
    have g := F.at j w hw
    rw [List.nil_append] at g
    cases hz2 : z.2 with
    | none =>
      have := f.nn hz2
      have := g.room c hc
      rw [hs] at this
      omega
    | some b =>
      by_cases q : j = i
      · subst q
        rw [hz] at hw; cases hw
        rw [hz2] at hc; cases hc
        exact ⟨hb _ hz2, by simp⟩
      · have hm : z ∈ Z.take j := by
          rw [List.mem_take_iff_getElem]
          rw [List.getElem?_eq_some_iff] at hz
          obtain ⟨h1, h2⟩ := hz
          exact ⟨i, by omega, h2⟩
        have := g.mono c hc z hm hs.symm b hz2
        have := hb b hz2
        exact ⟨by omega, by simp⟩
  have h1 : Z.countP (heldZ z.1.2.1 x) = (Z.take i).countP (heldZ z.1.2.1 x) := by
    conv => lhs; rw [← List.take_append_drop i Z]
    rw [List.countP_append]
    have : (Z.drop i).countP (heldZ z.1.2.1 x) = 0 := by
      rw [List.countP_eq_zero]
      intro w hw
      obtain ⟨k, hk⟩ := List.mem_iff_getElem?.mp hw
      rw [List.getElem?_drop] at hk
      unfold heldZ
      by_cases q : w.1.2.1 = z.1.2.1
      · cases hc : w.2 with
        | none => simp
        | some c =>
          have := (later (i + k) w (by omega) hk q c hc).1
          simp; omega
      · simp [q]
    omega
  have h2 : busyZ z.1.2.1 x (Z.take i) = (Z.take i).countP (heldZ z.1.2.1 x) + (Z.take i).countP (nowZ z.1.2.1 x) := by
    unfold busyZ
    apply countP_add
    intro w hw
    have := hh w (List.mem_of_mem_take hw)
    unfold outZ heldZ nowZ
    by_cases q : w.1.2.1 = z.1.2.1
    · cases hc : w.2 with
      | none => simp
      | some c =>
        by_cases e1 : c < x
        · have e2 : ¬ c = x := by omega
          have e3 : c ≤ x := by omega
          simp [q, e1, e2, e3]
        · by_cases e2 : c = x
          · have e4 : x < c + w.1.2.2 := by omega
            simp [q, e2] ; omega
          · have e3 : ¬ c ≤ x := by omega
            simp [q, e1, e2, e3]
    · simp [q]
  rw [h1]
  constructor
  · intro h
    have : busyZ z.1.2.1 x (Z.take i) < p z.1.2.1 := by omega
    cases hc : z.2 with
    | none => have := f.nn hc; omega
    | some c =>
      have := hb c hc
      by_cases q : x < c
      · have := f.full c hc x ht q; omega
      · rw [show c = x by omega]
  · intro h
    have := f.room x h
    omega
/-- what is found behind some hours, some sizes of the next one, and some loans of the next size -/
def cutZ (x s : Int) (i : Nat) (z : Zl) (j : Nat) : Option Int := match z.2 with
  | some b => if b < x ∨ (b = x ∧ (z.1.2.1 < s ∨ (z.1.2.1 = s ∧ j < i))) then some b else none
  | none => none
def stg (Z : List Zl) (x s : Int) (i : Nat) : List (Option Int) := (Z.zipIdx 0).map fun w => cutZ x s i w.1 w.2
theorem stg_len (Z : List Zl) (x s : Int) (i : Nat) : (stg Z x s i).length = Z.length := by simp [stg]
theorem stg_get (Z : List Zl) (x s : Int) (i j : Nat) : (stg Z x s i)[j]? = (Z[j]?).map fun z => cutZ x s i z j := by
  unfold stg
  rw [List.getElem?_map, List.getElem?_zipIdx]
  cases Z[j]? <;> simp
theorem stg_zero (Z : List Zl) (hb : ∀ z ∈ Z, ∀ b, z.2 = some b → 0 ≤ b) (hs : ∀ z ∈ Z, 0 ≤ z.1.2.1) : stg Z 0 0 0 = List.replicate Z.length none := by
  apply List.ext_getElem?
  intro j
  rw [stg_get]
  cases hj : Z[j]? with
  | none =>
    rw [List.getElem?_eq_none]
    · rfl
    · simp; exact List.getElem?_eq_none_iff.mp hj
  | some z =>
    have hm := List.mem_of_getElem? hj
    have hl : j < Z.length := by
      rw [List.getElem?_eq_some_iff] at hj; exact hj.1
    rw [List.getElem?_replicate, if_pos hl]
    simp only [Option.map_some]
    congr 1
    unfold cutZ
    cases hc : z.2 with
    | none => rfl
    | some b =>
      have := hb z hm b hc
      have := hs z hm
      simp only
      rw [if_neg]; omega
theorem stg_size (Z : List Zl) (x s : Int) : stg Z x (s + 1) 0 = stg Z x s Z.length := by
  apply List.ext_getElem?
  intro j
  rw [stg_get, stg_get]
  cases hj : Z[j]? with
  | none => rfl
  | some z =>
    have hl : j < Z.length := by
      rw [List.getElem?_eq_some_iff] at hj; exact hj.1
    simp only [Option.map_some]
    congr 1
    unfold cutZ
    cases hc : z.2 with
    | none => rfl
    | some b =>
      simp only
      congr 1
      apply propext
      omega
theorem stg_hour (Z : List Zl) (x : Int) (hs : ∀ z ∈ Z, 0 ≤ z.1.2.1 ∧ z.1.2.1 < 3) : stg Z (x + 1) 0 0 = stg Z x 3 0 := by
  apply List.ext_getElem?
  intro j
  rw [stg_get, stg_get]
  cases hj : Z[j]? with
  | none => rfl
  | some z =>
    obtain ⟨s0, s1⟩ := hs z (List.mem_of_getElem? hj)
    simp only [Option.map_some]
    congr 1
    unfold cutZ
    cases hc : z.2 with
    | none => rfl
    | some b =>
      simp only
      congr 1
      apply propext
      omega
theorem stg_end (Z : List Zl) (x : Int) (hb : ∀ z ∈ Z, ∀ b, z.2 = some b → b < x) : stg Z x 0 0 = Z.map (·.2) := by
  apply List.ext_getElem?
  intro j
  rw [stg_get, List.getElem?_map]
  cases hj : Z[j]? with
  | none => rfl
  | some z =>
    have hm := List.mem_of_getElem? hj
    simp only [Option.map_some]
    congr 1
    unfold cutZ
    cases hc : z.2 with
    | none => rfl
    | some b =>
      have := hb z hm b hc
      simp only
      rw [if_pos]; omega
/-- one loan in the turn of its hour and size -/
theorem stg_step (Z : List Zl) (x s : Int) (i : Nat) (z : Zl) (hz : Z[i]? = some z) : stg Z x s (i + 1) = if z.1.2.1 = s ∧ z.2 = some x then (stg Z x s i).set i (some x) else stg Z x s i := by
  have hl : i < Z.length := by
    rw [List.getElem?_eq_some_iff] at hz; exact hz.1
  apply List.ext_getElem?
  intro j
  have e : ∀ w : Zl, j ≠ i → cutZ x s (i + 1) w j = cutZ x s i w j := by
    intro w hj
    unfold cutZ
    cases hc : w.2 with
    | none => rfl
    | some b =>
      simp only
      congr 1
      apply propext
      omega
  by_cases q : z.1.2.1 = s ∧ z.2 = some x
  · rw [if_pos q]
    by_cases hj : j = i
    · subst hj
      rw [List.getElem?_set_self (by rw [stg_len]; exact hl), stg_get, hz]
      simp [cutZ, q.1, q.2]
    · rw [List.getElem?_set_ne (by omega), stg_get, stg_get]
      cases Z[j]? with
      | none => rfl
      | some w => simp only [Option.map_some]; rw [e w hj]
  · rw [if_neg q, stg_get, stg_get]
    by_cases hj : j = i
    · subst hj
      rw [hz]
      simp only [Option.map_some]
      congr 1
      unfold cutZ
      cases hc : z.2 with
      | none => rfl
      | some b =>
        rw [hc] at q
        have q : ¬ (z.1.2.1 = s ∧ b = x) := by simpa using q
        simp only
        congr 1
        apply propext
        omega
    · cases Z[j]? with
      | none => rfl
      | some w => simp only [Option.map_some]; rw [e w hj]
/-! ### how long it can last, and what more pairs change -/
def after : List Loan → List (List Int) → List (List Int)
  | [], fr => fr
  | z :: L, fr => after L (lend1 fr z).2
theorem lend_app : ∀ (L M : List Loan) (fr : List (List Int)), lend (L ++ M) fr = lend L fr ++ lend M (after L fr) := by
  intro L
  induction L with
  | nil => intro M fr; rfl
  | cons z L ih => intro M fr; show (lend1 fr z).1 :: lend (L ++ M) _ = _; rw [ih]; rfl
theorem lend1_len' (fr : List (List Int)) (z : Loan) : (lend1 fr z).2.length = fr.length := by
  unfold lend1
  split <;> simp
theorem after_len : ∀ (L : List Loan) (fr : List (List Int)), (after L fr).length = fr.length := by
  intro L
  induction L with
  | nil => intro fr; rfl
  | cons z L ih => intro fr; show (after L _).length = _; rw [ih, lend1_len']
theorem gx_in {fr : List (List Int)} {s f : Int} {r : List Int} (h : gx fr s = f :: r) : f :: r ∈ fr := by
  simp only [gx, List.getD_eq_getElem?_getD] at h
  cases e : fr[s.toNat]? with
  | none => rw [e] at h; cases h
  | some l => rw [e] at h; simp at h; rw [← h]; exact List.mem_of_getElem? e
theorem lend1_bound {M : Int} {fr : List (List Int)} {z : Loan} (h : ∀ l ∈ fr, ∀ f ∈ l, f ≤ M) (hz : z.1 ≤ M) (h0 : 0 ≤ z.2.2) (h9 : z.2.2 ≤ 9) :
    (∀ b, (lend1 fr z).1 = some b → b ≤ M) ∧ ∀ l ∈ (lend1 fr z).2, ∀ f ∈ l, f ≤ M + 9 := by
  unfold lend1
  cases hg : gx fr z.2.1 with
  | nil => exact ⟨by simp, fun l hl f hf => by have := h l hl f hf; omega⟩
  | cons f r =>
    have hin := gx_in hg
    obtain ⟨mm, _⟩ := minI_spec r f
    have hm := h _ hin _ mm
    simp only
    refine ⟨fun b hb => by simp at hb; omega, fun l hl e he => ?_⟩
    rcases List.mem_or_eq_of_mem_set hl with q | q
    · have := h l q e he; omega
    · rw [q] at he
      rcases List.mem_append.mp he with q2 | q2
      · have := h _ hin e (List.mem_of_mem_erase q2); omega
      · simp at q2; omega
theorem lend_bound : ∀ (L : List Loan) (M : Int) (fr : List (List Int)), (∀ l ∈ fr, ∀ f ∈ l, f ≤ M) → (∀ z ∈ L, z.1 ≤ M ∧ 0 ≤ z.2.2 ∧ z.2.2 ≤ 9) →
    (∀ b, some b ∈ lend L fr → b ≤ M + 9 * L.length) ∧ ∀ l ∈ after L fr, ∀ f ∈ l, f ≤ M + 9 * L.length := by
  intro L
  induction L with
  | nil => intro M fr h _; exact ⟨by simp [lend], fun l hl f hf => by have := h l hl f hf; simp; omega⟩
  | cons z L ih =>
    intro M fr h hL
    obtain ⟨z1, z2, z3⟩ := hL z (List.mem_cons_self ..)
    obtain ⟨a, b⟩ := lend1_bound h z1 z2 z3
    obtain ⟨c, d⟩ := ih (M + 9) _ b fun w hw => by have := hL w (List.mem_cons_of_mem _ hw); omega
    refine ⟨fun g hg => ?_, fun l hl f hf => ?_⟩
    · have hg : some g ∈ (lend1 fr z).1 :: lend L (lend1 fr z).2 := hg
      rcases List.mem_cons.mp hg with q | q
      · have := a g q.symm; simp; omega
      · have := c g q; simp; omega
    · have := d l hl f hf
      simp; omega
/-- as many pairs that are free by x, or more -/
def Dom (F F' : List Int) : Prop := F = [] ∨ (F' ≠ [] ∧ ∀ x : Int, F.countP (fun e => decide (e ≤ x)) ≤ F'.countP (fun e => decide (e ≤ x)))
theorem Dom.refl (F : List Int) : Dom F F := by
  cases F with
  | nil => exact .inl rfl
  | cons f r => exact .inr ⟨by simp, fun x => Nat.le_refl _⟩
theorem min_of_count {F : List Int} {f : Int} {r : List Int} {m : Int} (h : 0 < (f :: r).countP (fun e => decide (e ≤ m))) : minI f r ≤ m := by
  rw [List.countP_pos_iff] at h
  obtain ⟨e, he, hm⟩ := h
  have := (minI_spec r f).2 e he
  simp at hm; omega
theorem Dom.step {f f' t h : Int} {r r' : List Int} (D : Dom (f :: r) (f' :: r')) (hh : 1 ≤ h) : (if t < minI f' r' then minI f' r' else t) ≤ (if t < minI f r then minI f r else t) ∧
    Dom ((f :: r).erase (minI f r) ++ [(if t < minI f r then minI f r else t) + h]) ((f' :: r').erase (minI f' r') ++ [(if t < minI f' r' then minI f' r' else t) + h]) := by
  rcases D with q | ⟨_, D⟩
  · cases q
  obtain ⟨mm, ml⟩ := minI_spec r f
  obtain ⟨mm', ml'⟩ := minI_spec r' f'
  have hle : minI f' r' ≤ minI f r := by
    apply min_of_count (F := [])
    have := D (minI f r)
    have : 0 < (f :: r).countP (fun e => decide (e ≤ minI f r)) := by
      rw [List.countP_pos_iff]
      exact ⟨_, mm, by simp⟩
    omega
  obtain ⟨F, hF⟩ : ∃ F, f :: r = F := ⟨_, rfl⟩
  obtain ⟨F', hF'⟩ : ∃ F', f' :: r' = F' := ⟨_, rfl⟩
  generalize minI f r = m at *
  generalize minI f' r' = m' at *
  rw [hF] at D mm ml ⊢
  rw [hF'] at D mm' ml' ⊢
  have hb : (if t < m' then m' else t) ≤ (if t < m then m else t) := by split <;> split <;> omega
  refine ⟨hb, .inr ⟨by simp, fun x => ?_⟩⟩
  obtain ⟨g, hg⟩ : ∃ g, (if t < m then m else t) = g := ⟨_, rfl⟩
  obtain ⟨g', hg'⟩ : ∃ g, (if t < m' then m' else t) = g := ⟨_, rfl⟩
  have hgm : m ≤ g := by rw [← hg]; split <;> omega
  rw [hg, hg'] at hb ⊢
  have c1 := countP_erase mm fun e => decide (e ≤ x)
  have c2 := countP_erase mm' fun e => decide (e ≤ x)
  have := D x
  rw [List.countP_append, List.countP_append, List.countP_singleton, List.countP_singleton]
  by_cases q : m ≤ x
  · have q' : m' ≤ x := by omega
    simp only [q, q', decide_true, if_true] at c1 c2
    by_cases q2 : g + h ≤ x
    · have q3 : g' + h ≤ x := by omega
      simp only [q2, q3, decide_true, if_true]
      omega
    · simp only [q2, decide_false, if_neg (by simp : ¬ (false = true))]
      omega
  · have e : (F.erase m).countP (fun e => decide (e ≤ x)) = 0 := by
      rw [List.countP_eq_zero]
      intro y hy
      have := ml y (List.mem_of_mem_erase hy)
      simp; omega
    have q2 : ¬ g + h ≤ x := by omega
    simp only [q2, decide_false, if_neg (by simp : ¬ (false = true))]
    omega
theorem lend_dom : ∀ (L : List Loan) (fr fr' : List (List Int)), fr.length = fr'.length → (∀ s : Int, 0 ≤ s → s < fr.length → Dom (gx fr s) (gx fr' s)) → (∀ z ∈ L, 0 ≤ z.2.1 ∧ z.2.1 < fr.length) → (∀ z ∈ L, 1 ≤ z.2.2) →
    ∀ w ∈ (lend L fr).zip (lend L fr'), ∀ b, w.1 = some b → ∃ b', w.2 = some b' ∧ b' ≤ b := by
  intro L
  induction L with
  | nil => intro fr fr' _ _ _ _ w hw; simp [lend] at hw
  | cons z L ih =>
    intro fr fr' hl D hz hh w hw b hb
    obtain ⟨z0, z1⟩ := hz z (List.mem_cons_self ..)
    have h1 := hh z (List.mem_cons_self ..)
    have d := D _ z0 z1
    have hw : w ∈ ((lend1 fr z).1, (lend1 fr' z).1) :: (lend L (lend1 fr z).2).zip (lend L (lend1 fr' z).2) := hw
    cases hg : gx fr z.2.1 with
    | nil =>
      have e : lend1 fr z = (none, fr) := by unfold lend1; rw [hg]
      rw [e] at hw
      rcases List.mem_cons.mp hw with q | q
      · rw [q] at hb; cases hb
      · refine ih fr (lend1 fr' z).2 (by rw [lend1_len']; exact hl) ?_ (fun w hw => hz w (List.mem_cons_of_mem _ hw)) (fun w hw => hh w (List.mem_cons_of_mem _ hw)) w q b hb
        intro s s0 s1
        by_cases q : s = z.2.1
        · rw [q, hg]; exact .inl rfl
        · have : gx (lend1 fr' z).2 s = gx fr' s := by
            unfold lend1
            cases gx fr' z.2.1 with
            | nil => rfl
            | cons f r => exact gx_set_ne _ _ _ _ s0 (by omega)
          rw [this]
          exact D s s0 s1
    | cons f r =>
      rw [hg] at d
      cases hg' : gx fr' z.2.1 with
      | nil => rw [hg'] at d; rcases d with q | ⟨q, _⟩; cases q; exact absurd rfl q
      | cons f' r' =>
        rw [hg'] at d
        obtain ⟨a, c⟩ := d.step (t := z.1) h1
        have e1 : lend1 fr z = (some (if z.1 < minI f r then minI f r else z.1), fr.set z.2.1.toNat ((f :: r).erase (minI f r) ++ [(if z.1 < minI f r then minI f r else z.1) + z.2.2])) := by unfold lend1; rw [hg]
        have e2 : lend1 fr' z = (some (if z.1 < minI f' r' then minI f' r' else z.1), fr'.set z.2.1.toNat ((f' :: r').erase (minI f' r') ++ [(if z.1 < minI f' r' then minI f' r' else z.1) + z.2.2])) := by unfold lend1; rw [hg']
        rw [e1, e2] at hw
        rcases List.mem_cons.mp hw with q | q
        · rw [q] at hb ⊢
          simp only [Option.some.injEq] at hb
          exact ⟨_, rfl, by omega⟩
        · refine ih _ _ (by simpa using hl) ?_ (fun w hw => by simpa using hz w (List.mem_cons_of_mem _ hw)) (fun w hw => hh w (List.mem_cons_of_mem _ hw)) w q b hb
          intro s s0 s1
          by_cases q : s = z.2.1
          · subst q
            have x1 := gx_set fr z.2.1.toNat ((f :: r).erase (minI f r) ++ [(if z.1 < minI f r then minI f r else z.1) + z.2.2]) (by omega)
            have x2 := gx_set fr' z.2.1.toNat ((f' :: r').erase (minI f' r') ++ [(if z.1 < minI f' r' then minI f' r' else z.1) + z.2.2]) (by omega)
            rw [show ((z.2.1.toNat : Nat) : Int) = z.2.1 by omega] at x1 x2
            rw [x1, x2]
            exact c
          · rw [gx_set_ne _ _ _ _ s0 (by omega), gx_set_ne _ _ _ _ s0 (by omega)]
            exact D s s0 (by simpa using s1)
theorem fr0_dom {st st' : List Int} (hl : st.length = st'.length) (h : ∀ s : Int, 0 ≤ s → s < st.length → gx st s ≤ gx st' s) : ∀ s : Int, 0 ≤ s → s < (fr0 st).length → Dom (gx (fr0 st) s) (gx (fr0 st') s) := by
  intro s s0 s1
  have s1 : s < st.length := by simpa using s1
  rw [fr0_gx st s s0 s1, fr0_gx st' s s0 (by omega)]
  have := h s s0 s1
  by_cases q : (gx st s).toNat = 0
  · rw [q]; exact .inl rfl
  · refine .inr ⟨by simp; omega, fun x => ?_⟩
    rw [List.countP_replicate, List.countP_replicate]
    split <;> omega
theorem lend_many {L : List Loan} {st : List Int} (hn : ∀ s : Int, 0 ≤ s → s < st.length → (L.length : Int) ≤ gx st s) (h0 : ∀ z ∈ L, 0 ≤ z.1) (hs : L.Pairwise (fun a b => a.1 ≤ b.1)) (h1 : ∀ z ∈ L, 1 ≤ z.2.2) (hz : ∀ z ∈ L, 0 ≤ z.2.1 ∧ z.2.1 < st.length) :
    lend L (fr0 st) = L.map fun z => some z.1 := by
  have g := lend_crowd (L := L) (fr0_ok st) h0 hs h1 (fun z h => by simpa using hz z h)
  rw [g.1]
  intro z h
  have := hn z.2.1 (hz z h).1 (hz z h).2
  have := List.countP_le_length (p := onAt z.2.1 z.1) (l := L)
  unfold crowd
  omega
end Ice
end
section
set_option maxRecDepth 100000
set_option linter.all false
namespace Ice.K81
open Ice
def d_is_whole : FD := .d ⟨3, 3, blk [
    sRet (eAnd (e1 (pIs isInt) (oV 0)) (eAnd (eNot (e1 (pIs isBool) (oV 0))) (eCh pLe pLe (oV 1) (oV 0) (oV 2))))]⟩
def d_is_tuple_of : FD := .d ⟨3, 3, blk [
    sRet (eAnd (e1 (pIs isTup) (oV 0)) (eCh pLe pLe (oV 1) (oE (e1 pLen (oV 0))) (oV 2)))]⟩
def d_fits_loan : FD := .d ⟨1, 1, blk [
    sIf (eOr (eNot (eF 124 [oE (eV 0), oE (eC (.int 3)), oE (eC (.int 3))])) (eNot (eF 125 [oE (e2 pIx (oV 0) (oE (eC (.int 0)))), oE (eC (.int 0)), oE (eC (.int 30))]))) (blk [sRet (eC (.bl false))]) (blk []),
    sRet (eAnd (eF 125 [oE (e2 pIx (oV 0) (oE (eC (.int 1)))), oE (eC (.int 0)), oE (e2 pSub (oE (eC (.int 3))) (oE (eC (.int 1))))]) (eF 125 [oE (e2 pIx (oV 0) (oE (eC (.int 2)))), oE (eC (.int 1)), oE (eC (.int 9))]))]⟩
def d_fits_loans : FD := .d ⟨1, 3, blk [
    sIf (eOr (eNot (eF 124 [oE (eV 0), oE (eC (.int 1)), oE (eC (.int 8))])) (eNot (e1 pAll (oE (eLC [1] (itV 0) (tgN 1) none (eF 92 [oE (eV 1)])))))) (blk [sRet (eC (.bl false))]) (blk []),
    sRet (e1 pAll (oE (eLC [1, 2] (itM (eV 0) (eCut (oV 0) (some (oE (eC (.int 1)))) none)) (tgT [tgN 1, tgN 2]) none (e2 pLe (oE (e2 pIx (oV 1) (oE (eC (.int 0))))) (oE (e2 pIx (oV 2) (oE (eC (.int 0)))))))))]⟩
def d_fits_stock : FD := .d ⟨1, 2, blk [
    sRet (eAnd (eF 124 [oE (eV 0), oE (eC (.int 3)), oE (eC (.int 3))]) (e1 pAll (oE (eLC [1] (itV 0) (tgN 1) none (eF 125 [oE (eV 1), oE (eC (.int 0)), oE (eC (.int 8))])))))]⟩
def d_need_loans : FD := .d ⟨1, 1, blk [
    sIf (eNot (eF 93 [oE (eV 0)])) (blk [sRaise 24]) (blk [])]⟩
def d_need_stock : FD := .d ⟨2, 2, blk [
    sEx (eF 160 [oE (eV 0)]),
    sIf (eNot (eF 100 [oE (eV 1)])) (blk [sRaise 24]) (blk [])]⟩
def d_need_size : FD := .d ⟨1, 1, blk [
    sIf (eNot (eF 125 [oE (eV 0), oE (eC (.int 0)), oE (e2 pSub (oE (eC (.int 3))) (oE (eC (.int 1))))])) (blk [sRaise 2]) (blk [])]⟩
def d_lent : FD := .d ⟨2, 10, blk [
    sAsg2 2 [9] (itV 1) (tgN 9) (e2 pMul (oE (eL [eC (.int 0)])) (oV 9)),
    sAsg 3 (eL []),
    sFor (itV 0) (tgT [tgN 4, tgN 5, tgN 6]) (blk [sIf (eS2 pNil 2 (oV 5)) (blk [sApp 3 (eC .non)]) (blk [sAsg 7 (eS2 pMin 2 (oV 5)), sAsg 8 (e2 pMax2 (oV 4) (oV 7)), sSub2 mRem 2 (oV 5) (eV 7), sSub2 mApp 2 (oV 5) (e2 pAdd (oV 8) (oV 6)), sApp 3 (eV 8)])]),
    sRetV 3]⟩
def d_waits_of : FD := .d ⟨2, 4, blk [
    sRet (eLC [2, 3] (itM (eV 0) (eV 1)) (tgT [tgN 2, tgN 3]) none (eIf (e1 (pIsN isNon) (oV 3)) (e2 pSub (oV 3) (oE (e2 pIx (oV 2) (oE (eC (.int 0)))))) (eC .non)))]⟩
def d_longest_in : FD := .d ⟨2, 3, blk [
    sAsg 2 (eF 223 [oE (eV 0), oE (eF 141 [oE (eV 0), oE (eV 1)])]),
    sRet (eIf (e2 pNin (oE (eC .non)) (oV 2)) (e1 pMax (oV 2)) (eC .non))]⟩
def d_waits : FD := .d ⟨2, 2, blk [
    sEx (eF 171 [oE (eV 0), oE (eV 1)]),
    sRet (e1 pTuple (oE (eF 223 [oE (eV 0), oE (eF 141 [oE (eV 0), oE (eV 1)])])))]⟩
def d_longest_wait : FD := .d ⟨2, 2, blk [
    sEx (eF 171 [oE (eV 0), oE (eV 1)]),
    sRet (eF 146 [oE (eV 0), oE (eV 1)])]⟩
def d_need_wait : FD := .d ⟨1, 1, blk [
    sIf (eNot (eF 125 [oE (eV 0), oE (eC (.int 0)), oE (eC (.int 100))])) (blk [sRaise 2]) (blk [])]⟩
def d_first_for : FD := .d ⟨4, 6, blk [
    sEx (eF 171 [oE (eV 0), oE (eV 1)]),
    sEx (eF 169 [oE (eV 2)]),
    sEx (eF 173 [oE (eV 3)]),
    sIf (e2 pEq (oE (e2 pIx (oV 1) (oV 2))) (oE (eC (.int 0)))) (blk [sRet (eC .non)]) (blk []),
    sAsg 4 (e2 pIx (oE (e2 pIx (oV 0) (oE (e1 pNeg (oE (eC (.int 1))))))) (oE (eC (.int 0)))),
    sAsg 5 (eF 141 [oE (e2 pAdd (oV 0) (oE (eT [eT [eV 4, eV 2, eC (.int 1)]]))), oE (eV 1)]),
    sRet (e2 pMax2 (oV 4) (oE (e2 pSub (oE (e2 pIx (oV 5) (oE (e1 pNeg (oE (eC (.int 1))))))) (oV 3))))]⟩
def d_law_cup : FD := .d ⟨1, 2, blk [
    sAsg 1 (e1 pAbs (oE (e2 pIx (oE (e2 pAdd (oE (e1 pList (oV 0))) (oE (eL [eC (.int 0)])))) (oE (eC (.int 0)))))),
    sRet (eL [eIf (e2 pGe (oV 1) (oE (e2 pPow (oE (eC (.int 10))) (oE (eC (.int 18)))))) (e2 pFdiv (oV 1) (oE (eC (.int 181)))) (eC (.int 0)), e2 pAdd (oE (e2 pMod (oE (e1 pInt (oE (e2 pAdd (oE (e2 pMul (oV 1) (oE (eC (.int 433))))) (oE (eC (.int 4201))))))) (oE (eC (.int 2077504987))))) (oE (eC (.int 263)))])]⟩
def d_law_roll : FD := .d ⟨2, 4, blk [
    sIf (e2 pGt (oE (e2 pIx (oV 0) (oE (eC (.int 0))))) (oE (eC (.int 0)))) (blk [sAsg 2 (e2 pMod (oE (e1 pInt (oE (e2 pIx (oV 0) (oE (eC (.int 0))))))) (oV 1)), sSet 0 (oE (eC (.int 0))) (e2 pFdiv (oE (e2 pIx (oV 0) (oE (eC (.int 0))))) (oV 1)), sRetV 2]) (blk []),
    sSet 0 (oE (eC (.int 1))) (e2 pMod (oE (e1 pInt (oE (e2 pAdd (oE (e2 pMul (oE (e2 pIx (oV 0) (oE (eC (.int 1))))) (oE (eC (.int 31091))))) (oE (eC (.int 8087))))))) (oE (eC (.int 2147483399)))),
    sAsg 3 (e2 pMod (oE (e1 pInt (oE (e2 pMul (oE (e2 pIx (oV 0) (oE (eC (.int 1))))) (oE (e2 pAdd (oE (e2 pIx (oV 0) (oE (eC (.int 1))))) (oE (eC (.int 349))))))))) (oE (eC (.int 2147483563)))),
    sRet (e2 pMod (oE (e1 pInt (oE (e2 pFdiv (oV 3) (oE (eC (.int 947))))))) (oV 1))]⟩
def d_law_some : FD := .d ⟨2, 2, blk [
    sRet (e2 pIx (oV 1) (oE (eF 33 [oV 0, oE (e1 pLen (oV 1))])))]⟩
def d_law_same : FD := .d ⟨2, 3, blk [
    sIf (e1 (pIs isTup) (oV 1)) (blk [sIf (eOr (eNot (e1 (pIs isTup) (oV 0))) (e2 pNe (oE (e1 pLen (oV 0))) (oE (e1 pLen (oV 1))))) (blk [sRet (eC (.bl false))]) (blk []), sRet (e1 pAll (oE (eLC [2] (itR1 (oE (e1 pLen (oV 1)))) (tgN 2) none (eF 34 [oE (e2 pIx (oV 0) (oV 2)), oE (e2 pIx (oV 1) (oV 2))]))))]) (blk []),
    sIf (e1 (pIs isNon) (oV 1)) (blk [sRet (e1 (pIs isNon) (oV 0))]) (blk []),
    sIf (e1 (pIs isBool) (oV 1)) (blk [sRet (eIf (eV 1) (e1 (pIs isTrue) (oV 0)) (e1 (pIs isFalse) (oV 0)))]) (blk []),
    sIf (e1 (pIs isInt) (oV 1)) (blk [sRet (eAnd (e1 (pIs isInt) (oV 0)) (eAnd (eNot (e1 (pIs isBool) (oV 0))) (e2 pEq (oE (e1 pInt (oV 0))) (oV 1))))]) (blk []),
    sRet (eAnd (e1 (pIs isStr) (oV 0)) (e2 pEq (oE (e1 pStr (oV 0))) (oV 1)))]⟩
def d_law_loans : FD := .d ⟨2, 11, blk [
    sAsgs [2, 3, 4] [eL [], eF 37 [oV 0, oE (eL [eC (.int 6), eC (.int 12), eC (.int 31)])], eF 37 [oV 0, oE (eL [eC (.int 3), eC (.int 9)])]],
    sFor (itR1 (oE (e2 pAdd (oE (eC (.int 1))) (oE (eF 33 [oV 0, oE (eV 1)]))))) (tgN 5) (blk [sApp 2 (eT [eF 33 [oV 0, oE (eV 3)], eF 37 [oV 0, oE (eL [eC (.int 0), eC (.int 0), eC (.int 1), eC (.int 2)])], e2 pAdd (oE (eC (.int 1))) (oE (eF 33 [oV 0, oE (eV 4)]))])]),
    sAsg 6 (e1 pSorted (oE (eLC [7, 8, 9] (itV 2) (tgT [tgN 7, tgN 8, tgN 9]) none (eV 7)))),
    sRet (e1 pTuple (oE (eLC [10] (itR1 (oE (e1 pLen (oV 2)))) (tgN 10) none (eT [e2 pIx (oV 6) (oV 10), e2 pIx (oE (e2 pIx (oV 2) (oV 10))) (oE (eC (.int 1))), e2 pIx (oE (e2 pIx (oV 2) (oV 10))) (oE (eC (.int 2)))]))))]⟩
def d_law_begins : FD := .d ⟨2, 8, blk [
    sAsg 2 (e2 pMul (oE (eL [eC .non])) (oE (e1 pLen (oV 0)))),
    sFor (itR1 (oE (eC (.int 103)))) (tgN 3) (blk [sFor (itR1 (oE (eC (.int 3)))) (tgN 4) (blk [sAsg 5 (eLC [7] (itR1 (oE (e1 pLen (oV 0)))) (tgN 7) (some (eAnd (e2 pEq (oE (e2 pIx (oE (e2 pIx (oV 0) (oV 7))) (oE (eC (.int 1))))) (oV 4)) (eAnd (e1 (pIsN isNon) (oE (e2 pIx (oV 2) (oV 7)))) (e2 pLt (oV 3) (oE (e2 pAdd (oE (e2 pIx (oV 2) (oV 7))) (oE (e2 pIx (oE (e2 pIx (oV 0) (oV 7))) (oE (eC (.int 2))))))))))) (eV 7)), sAsg 6 (e2 pSub (oE (e2 pIx (oV 1) (oV 4))) (oE (e1 pLen (oV 5)))), sFor (itR1 (oE (e1 pLen (oV 0)))) (tgN 7) (blk [sIf (eAnd (e2 pEq (oE (e2 pIx (oE (e2 pIx (oV 0) (oV 7))) (oE (eC (.int 1))))) (oV 4)) (eAnd (e2 pLe (oE (e2 pIx (oE (e2 pIx (oV 0) (oV 7))) (oE (eC (.int 0))))) (oV 3)) (eAnd (e1 (pIs isNon) (oE (e2 pIx (oV 2) (oV 7)))) (e2 pGt (oV 6) (oE (eC (.int 0))))))) (blk [sTg (tgT [tgS 2 7, tgN 6]) (eT [eV 3, e2 pSub (oV 6) (oE (eC (.int 1)))])]) (blk [])])])]),
    sRet (e1 pTuple (oV 2))]⟩
def d_law_waits : FD := .d ⟨2, 4, blk [
    sAsg 2 (eF 3 [oE (eV 0), oE (eV 1)]),
    sRet (e1 pTuple (oE (eLC [3] (itR1 (oE (e1 pLen (oV 0)))) (tgN 3) none (eIf (e1 (pIsN isNon) (oE (e2 pIx (oV 2) (oV 3)))) (e2 pSub (oE (e2 pIx (oV 2) (oV 3))) (oE (e2 pIx (oE (e2 pIx (oV 0) (oV 3))) (oE (eC (.int 0)))))) (eC .non)))))]⟩
def d_law_first : FD := .d ⟨4, 6, blk [
    sIf (e2 pEq (oE (e2 pIx (oV 1) (oV 2))) (oE (eC (.int 0)))) (blk [sRet (eC .non)]) (blk []),
    sFor (itR2 (oE (e2 pIx (oE (e2 pIx (oV 0) (oE (e1 pNeg (oE (eC (.int 1))))))) (oE (eC (.int 0))))) (oE (eC (.int 103)))) (tgN 4) (blk [sAsg 5 (e2 pIx (oE (eF 45 [oE (e2 pAdd (oV 0) (oE (eT [eT [eV 4, eV 2, eC (.int 1)]]))), oE (eV 1)])) (oE (e1 pNeg (oE (eC (.int 1)))))), sIf (eAnd (e1 (pIsN isNon) (oV 5)) (e2 pLe (oV 5) (oV 3))) (blk [sRetV 4]) (blk [])]),
    sRet (eC .non)]⟩
def d_law_right : FD := .d ⟨1, 12, blk [
    sAsgs [1, 2] [eF 21 [oV 0, oE (eC (.int 6))], e1 pTuple (oE (eLC [4] (itR1 (oE (eC (.int 3)))) (tgN 4) none (eF 37 [oV 0, oE (eL [eC (.int 0), eC (.int 1), eC (.int 1), eC (.int 2)])])))],
    sFor (itR1 (oE (eC (.int 3)))) (tgN 3) (blk [sAsgs [4, 5] [eF 33 [oV 0, oE (eC (.int 3))], eF 37 [oV 0, oE (eL [eC (.int 0), eF 33 [oV 0, oE (eC (.int 10))], eC (.int 100)])]], sAsg 6 (eF 85 [oE (eV 1), oE (eV 2), oE (eV 4), oE (eV 5)]), sIf (eNot (eF 34 [oE (eV 6), oE (eF 11 [oE (eV 1), oE (eV 2), oE (eV 4), oE (eV 5)])])) (blk [sRet (eC (.bl false))]) (blk []), sIf (eAnd (e1 (pIsN isNon) (oV 6)) (eAnd (e2 pLe (oV 6) (oE (eC (.int 30)))) (e2 pNe (oE (eCut (oE (eF 222 [oE (e2 pAdd (oV 1) (oE (eT [eT [eV 6, eV 4, eC (.int 1)]]))), oE (eV 2)])) none (some (oE (e1 pNeg (oE (eC (.int 1)))))))) (oE (eF 222 [oE (eV 1), oE (eV 2)]))))) (blk [sRet (eC (.bl false))]) (blk [])]),
    sAsg 7 (e2 pAdd (oE (eT [e2 pAdd (oE (e2 pIx (oV 2) (oE (eC (.int 0))))) (oE (eC (.int 1)))])) (oE (eCut (oV 2) (some (oE (eC (.int 1)))) none))),
    sAsgs [8, 9] [eF 222 [oE (eV 1), oE (eV 2)], eF 222 [oE (eV 1), oE (eV 7)]],
    sFor (itM (eV 8) (eV 9)) (tgT [tgN 10, tgN 11]) (blk [sIf (eAnd (e1 (pIsN isNon) (oV 10)) (eOr (e1 (pIs isNon) (oV 11)) (e2 pGt (oV 11) (oV 10)))) (blk [sRet (eC (.bl false))]) (blk [])]),
    sRet (e2 pEq (oE (eF 147 [oE (eV 1), oE (eT [eC (.int 8), eC (.int 8), eC (.int 8)])])) (oE (eC (.int 0))))]⟩
def d_law : FD := .d ⟨1, 8, blk [
    sAsg 1 (eF 9 [oE (eV 0)]),
    sFor (itR1 (oE (eC (.int 4)))) (tgN 2) (blk [sIf (eNot (eF 30 [oV 1])) (blk [sRet (eC (.bl false))]) (blk [])]),
    sAsgs [3, 4, 5] [e2 pAdd (oE (eC (.int 1))) (oE (eF 33 [oV 1, oE (eC (.int 9))])), eF 33 [oV 1, oE (eC (.int 12))], e2 pAdd (oE (eC (.int 1))) (oE (eF 33 [oV 1, oE (eC (.int 8))]))],
    sAsg 6 (e2 pMul (oE (eT [eT [eC (.int 3), eC (.int 0), eV 3]])) (oV 5)),
    sAsg 7 (eT [eF 85 [oE (eV 6), oE (eT [eC (.int 1), eC (.int 0), eC (.int 0)]), oE (eC (.int 0)), oE (eV 4)], eF 85 [oE (eV 6), oE (eT [eC (.int 8), eC (.int 1), eC (.int 0)]), oE (eC (.int 1)), oE (eV 4)], eF 85 [oE (eV 6), oE (eT [eC (.int 1), eC (.int 0), eC (.int 0)]), oE (eC (.int 2)), oE (eV 4)]]),
    sRet (eF 34 [oE (eV 7), oE (eT [e2 pMax2 (oE (eC (.int 3))) (oE (e2 pSub (oE (e2 pAdd (oE (eC (.int 3))) (oE (e2 pMul (oV 5) (oV 3))))) (oV 4))), eC (.int 3), eC .non])])]⟩
def tab : Tab := fun
  | 125 => some d_is_whole
  | 124 => some d_is_tuple_of
  | 92 => some d_fits_loan
  | 93 => some d_fits_loans
  | 100 => some d_fits_stock
  | 160 => some d_need_loans
  | 171 => some d_need_stock
  | 169 => some d_need_size
  | 141 => some d_lent
  | 223 => some d_waits_of
  | 146 => some d_longest_in
  | 222 => some d_waits
  | 147 => some d_longest_wait
  | 173 => some d_need_wait
  | 85 => some d_first_for
  | 9 => some d_law_cup
  | 33 => some d_law_roll
  | 37 => some d_law_some
  | 34 => some d_law_same
  | 21 => some d_law_loans
  | 3 => some d_law_begins
  | 45 => some d_law_waits
  | 11 => some d_law_first
  | 30 => some d_law_right
  | 137 => some d_law
  | _ => none
end Ice.K81
end
section
set_option autoImplicit false
set_option linter.all false
set_option maxRecDepth 100000
namespace Ice
theorem mApp_ints {v : Int} {xs : List Int} (h : xs.length + 1 ≤ 16777216) : mApp (.int v) (.lst (xs.map .int)) = .ok (.non, .lst ((xs ++ [v]).map .int)) := by
  rw [mApp_lst (by simpa using h)]; simp
theorem lend1_le (fr : List (List Int)) (z : Loan) (h : ∀ l ∈ fr, l.length ≤ 1000) : ∀ l ∈ (lend1 fr z).2, l.length ≤ 1000 := by
  unfold lend1
  split
  · exact h
  · rename_i f r e
    intro l hl
    rcases List.mem_or_eq_of_mem_set hl with q | q
    · exact h l q
    · have hin : f :: r ∈ fr := by
        by_cases q2 : z.2.1.toNat < fr.length
        · rw [← e]
          simp only [gx, List.getD_eq_getElem?_getD, List.getElem?_eq_getElem q2, Option.getD_some]
          exact List.getElem_mem q2
        · exfalso
          simp only [gx, List.getD_eq_getElem?_getD, List.getElem?_eq_none (Nat.le_of_not_lt q2)] at e
          cases e
      have := h _ hin
      rw [q, List.length_append, List.length_erase_of_mem (minI_spec r f).1]
      simp at this ⊢
      omega
theorem lend1_len (fr : List (List Int)) (z : Loan) : (lend1 fr z).2.length = fr.length := by
  unfold lend1
  split <;> simp
end Ice
namespace Ice
@[simp] theorem pMax2_int (i j : Int) : pMax2 (.int i) (.int j) = .ok (.int (if i < j then j else i), false) := (rfl)
@[simp] theorem pMin2_int (i j : Int) : pMin2 (.int i) (.int j) = .ok (.int (if j < i then j else i), false) := (rfl)
end Ice
namespace Ice
/-- loans as they should be -/
structure OkL (L : List Loan) : Prop where
  l1 : 1 ≤ L.length
  l2 : L.length ≤ 8
  t : ∀ z ∈ L, 0 ≤ z.1 ∧ z.1 ≤ 30
  s : ∀ z ∈ L, 0 ≤ z.2.1 ∧ z.2.1 ≤ 2
  h : ∀ z ∈ L, 1 ≤ z.2.2 ∧ z.2.2 ≤ 9
  so : L.Pairwise fun a b => a.1 ≤ b.1
theorem zip_le {L : List Loan} (h : L.Pairwise fun a b => a.1 ≤ b.1) : ((L.zip (L.drop 1)).all fun z => decide (z.1.1 ≤ z.2.1)) = true := by
  induction L with
  | nil => rfl
  | cons x l ih =>
    rw [List.pairwise_cons] at h
    cases l with
    | nil => rfl
    | cons y l =>
      have := ih h.2
      simp only [List.drop_succ_cons, List.drop_zero, List.zip_cons_cons, List.all_cons, Bool.and_eq_true] at this ⊢
      exact ⟨by simpa using h.1 y (List.mem_cons_self ..), this⟩
abbrev LV (L : List Loan) : PV := .tup (L.map loV)
theorem okL_mk (Q : List Loan) (h1 : 1 ≤ Q.length) (h2 : Q.length ≤ 8) (ht : ∀ z ∈ Q, 0 ≤ z.1 ∧ z.1 ≤ 30) (hs : ∀ z ∈ Q, 0 ≤ z.2.1 ∧ z.2.1 ≤ 2) (hh : ∀ z ∈ Q, 1 ≤ z.2.2 ∧ z.2.2 ≤ 9) :
    OkL ((List.range Q.length).map fun (k : Nat) => ((gx (sortI (Q.map (·.1))) (k : Int), (gx Q (k : Int)).2.1, (gx Q (k : Int)).2.2) : Loan)) := by
  have lT : (sortI (Q.map (·.1))).length = Q.length := by simp
  refine ⟨by simpa using h1, by simpa using h2, ?_, ?_, ?_, ?_⟩
  · intro z hz
    obtain ⟨k, hk, rfl⟩ := List.mem_map.mp hz
    have hk := List.mem_range.mp hk
    have := (sortI_perm (Q.map (·.1))).mem_iff.mp (gx_mem (xs := sortI (Q.map (·.1))) (i := (k : Int)) (by omega) (by omega))
    obtain ⟨w, hw, e⟩ := List.mem_map.mp this
    have := ht w hw
    simp only at e ⊢
    omega
  · intro z hz
    obtain ⟨k, hk, rfl⟩ := List.mem_map.mp hz
    have hk := List.mem_range.mp hk
    exact hs (gx Q (k : Int)) (gx_mem (xs := Q) (i := (k : Int)) (by omega) (by omega))
  · intro z hz
    obtain ⟨k, hk, rfl⟩ := List.mem_map.mp hz
    have hk := List.mem_range.mp hk
    exact hh (gx Q (k : Int)) (gx_mem (xs := Q) (i := (k : Int)) (by omega) (by omega))
  · rw [List.pairwise_map]
    have hr : (List.range Q.length).Pairwise (· < ·) := List.pairwise_lt_range
    refine List.Pairwise.imp_of_mem ?_ hr
    intro a b ha hb hab
    have ha := List.mem_range.mp ha
    have hb := List.mem_range.mp hb
    have := List.pairwise_iff_getElem.mp (sortI_le (Q.map (·.1))) a b (by omega) (by omega) hab
    simp only [gx, Int.toNat_natCast]
    rw [List.getD_eq_getElem?_getD, List.getD_eq_getElem?_getD, List.getElem?_eq_getElem (by omega), List.getElem?_eq_getElem (by omega)]
    exact this
end Ice
namespace Ice.K81
open Ice
theorem f_is_whole (n : Nat) (v lo hi : Int) : callF tab (n+1) 125 [.val (.int v), .val (.int lo), .val (.int hi)] = .ok (.bl (decide (lo ≤ v) && decide (v ≤ hi)), false, [.un, .un, .un]) := by
  refine call_eq rfl rfl rfl (by decide) ?_
  by_cases h : lo ≤ v <;> simp [entry, h]
theorem f_is_tuple (n : Nat) (xs : List PV) (lo hi : Int) : callF tab (n+1) 124 [.val (.tup xs), .val (.int lo), .val (.int hi)] = .ok (.bl (decide (lo ≤ xs.length) && decide ((xs.length : Int) ≤ hi)), false, [.un, .un, .un]) := by
  refine call_eq rfl rfl rfl (by decide) ?_
  by_cases h : lo ≤ xs.length <;> simp [entry, h]
theorem f_lent (n : Nat) (L : List Loan) (stock : List Int) (h1 : L.length ≤ 1000) (h2 : ∀ z ∈ L, 0 ≤ z.2.1 ∧ z.2.1 < stock.length) (h3 : ∀ k ∈ stock, 0 ≤ k ∧ k ≤ 1000) (h4 : stock.length ≤ 1000) :
    callF tab (n+1) 141 [.val (.tup (L.map loV)), .val (.tup (iL stock))] = .ok (.lst ((lend L (stock.map fun k => List.replicate k.toNat 0)).map optI), true, [.un, .un]) := by
  refine call_eq rfl rfl rfl (by decide) ?_
  simp (disch := first | assumption | exact Free.val | exact Free.own | exact Free.un | exact Free.xt | omega | (simp only [List.length_map, List.length_append, List.length_cons, List.length_nil, List.length_range, rangeI_len, List.length_take, List.length_drop, List.length_reverse]; omega)) [-List.drop_one, -List.map_map, entry]
  rw [sAsg2_map (i := 2) PV.int (fun k => List.replicate k.toNat (.int 0)) stock (ps := iL stock) (l := none) (ρ1 := [.val (.tup (L.map loV)), .val (.tup (iL stock)), .un, .un, .un, .un, .un, .un, .un, .un]) (by simp (disch := first | assumption | exact Free.val | exact Free.own | exact Free.un | exact Free.xt | omega | (simp only [List.length_map, List.length_append, List.length_cons, List.length_nil, List.length_range, rangeI_len, List.length_take, List.length_drop, List.length_reverse]; omega)) [-List.drop_one, -List.map_map] <;> (first | rfl | exact ⟨rfl, rfl⟩ | exact ⟨rfl, rfl, rfl⟩ | exact ⟨rfl, rfl, rfl, rfl⟩)) rfl (by simp) (by omega) (by simp) (by
    intro k hk
    obtain ⟨k0, k1⟩ := h3 k hk
    have := pMul_lst1 (x := .int 0) k0 k1
    simp (disch := first | assumption | exact Free.val | exact Free.own | exact Free.un | exact Free.xt | omega | (simp only [List.length_map, List.length_append, List.length_cons, List.length_nil, List.length_range, rangeI_len, List.length_take, List.length_drop, List.length_reverse]; omega)) [-List.drop_one, -List.map_map, this])]
  obtain ⟨fr0, hfr⟩ : ∃ fr0, stock.map (fun k => List.replicate k.toNat (0 : Int)) = fr0 := ⟨_, rfl⟩
  have hfr2 : stock.map (fun k => List.replicate k.toNat (PV.int 0)) = frV fr0 := by
    rw [← hfr]; simp [frV]
  have hfl : fr0.length = stock.length := by rw [← hfr]; simp
  rw [hfr, hfr2]
  simp (disch := first | assumption | exact Free.val | exact Free.own | exact Free.un | exact Free.xt | omega | (simp only [List.length_map, List.length_append, List.length_cons, List.length_nil, List.length_range, rangeI_len, List.length_take, List.length_drop, List.length_reverse]; omega)) [-List.drop_one, -List.map_map]
  refine Ret.thn (Q := fun ρ => ∃ a b c d e f g, ρ = [.val (.tup (L.map loV)), .val (.tup (iL stock)), a, .own (.lst ((lend L fr0).map optI)), b, c, d, e, f, g]) ?_ ?_
  · refine for_inv loV L (fun k ρ => ∃ (F : List (Option Int)) (fr : List (List Int)) (b c d e f : Slot), Free b ∧ Free c ∧ Free d ∧ Free e ∧ Free f ∧ fr.length = stock.length ∧ (∀ l ∈ fr, l.length ≤ 1000) ∧ F.length = k ∧ F ++ lend (L.drop k) fr = lend L fr0 ∧
      ρ = [.val (.tup (L.map loV)), .val (.tup (iL stock)), .ow2 (frV fr), .own (.lst (F.map optI)), b, c, d, e, f, .un]) _ (by simp (disch := first | assumption | exact Free.val | exact Free.own | exact Free.un | exact Free.xt | omega | (simp only [List.length_map, List.length_append, List.length_cons, List.length_nil, List.length_range, rangeI_len, List.length_take, List.length_drop, List.length_reverse]; omega)) [-List.drop_one, -List.map_map] <;> (first | rfl | exact ⟨rfl, rfl⟩ | exact ⟨rfl, rfl, rfl⟩ | exact ⟨rfl, rfl, rfl, rfl⟩)) rfl ⟨[], fr0, .un, .un, .un, .un, .un, by simp, by simp, by simp, by simp, by simp, hfl, by
        intro l hl
        rw [← hfr] at hl
        obtain ⟨k, hk, rfl⟩ := List.mem_map.mp hl
        have := h3 k hk
        simp; omega, rfl, rfl, by simp⟩ ?_ ?_
    · rintro j z ρ hz hj ⟨F, fr, b, c, d, e, f, hb, hc, hd, he, hf, hfr, hle, hF, hL, rfl⟩
      obtain ⟨t, s, h⟩ := z
      have hm : (t, s, h) ∈ L := List.mem_of_getElem? hz
      obtain ⟨s0, s1⟩ := h2 _ hm
      have s0 : 0 ≤ s := s0
      have s1 : s < (fr.length : Int) := by rw [hfr]; exact s1
      have hdrop : L.drop j = (t, s, h) :: L.drop (j + 1) := by
        rw [List.drop_eq_getElem_cons hj]
        congr 1
        rw [List.getElem?_eq_getElem hj] at hz
        exact Option.some.inj hz
      rw [hdrop] at hL
      have hL : F ++ (lend1 fr (t, s, h)).1 :: lend (L.drop (j + 1)) (lend1 fr (t, s, h)).2 = lend L fr0 := hL
      have hlen := lend1_len fr (t, s, h)
      have hle2 := lend1_le fr (t, s, h) hle
      obtain ⟨s, rfl⟩ : ∃ k : Nat, s = (k : Int) := ⟨s.toNat, by omega⟩
      have sn : s < fr.length := by omega
      cases hg : gx fr s with
      | nil =>
        have hl1 : lend1 fr (t, (s : Int), h) = (none, fr) := by
          unfold lend1
          show (match gx fr (s : Int) with | [] => _ | f :: r => _) = _
          rw [hg]
        rw [hl1] at hL
        refine cps fun K hK => ?_; simp (disch := first | assumption | exact Free.val | exact Free.own | exact Free.un | exact Free.xt | omega | (simp only [List.length_map, List.length_append, List.length_cons, List.length_nil, List.length_range, rangeI_len, List.length_take, List.length_drop, List.length_reverse]; omega)) [-List.drop_one, -List.map_map, hg]
        apply hK
        refine ⟨rfl, F ++ [none], fr, .val (.int t), .val (.int s), .val (.int h), e, f, by simp, by simp, by simp, he, hf, hfr, hle, by simp [hF], by rw [← hL]; simp, by simp [optI]⟩
      | cons f0 r =>
        have hl1 : lend1 fr (t, (s : Int), h) = (some (if t < minI f0 r then minI f0 r else t), fr.set s ((f0 :: r).erase (minI f0 r) ++ [(if t < minI f0 r then minI f0 r else t) + h])) := by
          unfold lend1
          show (match gx fr (s : Int) with | [] => _ | f :: r => _) = _
          rw [hg]
          rfl
        rw [hl1] at hL hlen hle2
        obtain ⟨mm, _⟩ := minI_spec r f0
        have hin : f0 :: r ∈ fr := by
          rw [← hg]
          exact gx_mem (by omega) (by omega)
        have hl0 := hle _ hin
        have hrem := mRem_lst mm
        have hEl := List.length_erase_of_mem mm
        rw [List.map_cons] at hrem
        obtain ⟨E, hE⟩ : ∃ E, (f0 :: r).erase (minI f0 r) = E := ⟨_, rfl⟩
        obtain ⟨b0, hb0⟩ : ∃ b0, (if t < minI f0 r then minI f0 r else t) = b0 := ⟨_, rfl⟩
        rw [hE] at hrem hL hle2 hlen hEl
        rw [hb0] at hL hle2 hlen
        have happ := mApp_ints (v := b0 + h) (xs := E) (by simp at hEl hl0; omega)
        obtain ⟨E2, hE2⟩ : ∃ E2, E ++ [b0 + h] = E2 := ⟨_, rfl⟩
        rw [hE2] at happ hL hle2 hlen
        have hgs := gx_set fr s E sn
        have s2 : (s : Int) < ((fr.set s E).length : Int) := by simp; omega
        have s3 : s < (fr.set s E).length := by simp; omega
        refine cps fun K hK => ?_; simp (disch := first | assumption | exact Free.val | exact Free.own | exact Free.un | exact Free.xt | omega | (simp only [List.length_map, List.length_append, List.length_cons, List.length_nil, List.length_range, rangeI_len, List.length_take, List.length_drop, List.length_reverse]; omega)) [-List.drop_one, -List.map_map, hg, hb0, hrem, hgs, happ, s2, s3, -List.map_set]
        apply hK
        exact ⟨rfl, F ++ [some b0], fr.set s E2, .val (.int t), .val (.int s), .val (.int h), .val (.int (minI f0 r)), .val (.int b0), by simp, by simp, by simp, by simp, by simp, by simpa using hfr, hle2, by simp [hF], by rw [← hL]; simp, by simp [optI]⟩
    · rintro ρ ⟨F, fr, b, c, d, e, f, hb, hc, hd, he, hf, hfr, hle, hF, hL, rfl⟩
      rw [List.drop_length] at hL
      rw [show lend [] fr = [] from rfl, List.append_nil] at hL
      subst hL
      exact ⟨rfl, _, _, _, _, _, _, _, rfl⟩
  · rintro ρ ⟨a, b, c, d, e, f, g, rfl⟩
    simp (disch := first | assumption | exact Free.val | exact Free.own | exact Free.un | exact Free.xt | omega | (simp only [List.length_map, List.length_append, List.length_cons, List.length_nil, List.length_range, rangeI_len, List.length_take, List.length_drop, List.length_reverse]; omega)) [-List.drop_one, -List.map_map]
theorem f_fits_loan (n : Nat) (z : Loan) (h1 : 0 ≤ z.1 ∧ z.1 ≤ 30) (h2 : 0 ≤ z.2.1 ∧ z.2.1 ≤ 2) (h3 : 1 ≤ z.2.2 ∧ z.2.2 ≤ 9) : callF tab (n+2) 92 [.val (loV z)] = .ok (.bl true, false, [.un]) := by
  refine call_eq rfl rfl rfl (by decide) ?_
  simp [entry, f_is_tuple, f_is_whole, h1, h2, h3]
theorem f_fits_loans (n : Nat) (L : List Loan) (O : OkL L) : callF tab (n+3) 93 [.val (LV L)] = .ok (.bl true, false, [.un]) := by
  have h1 := O.l1; have h2 := O.l2
  refine call_eq rfl rfl rfl (by decide) ?_
  have g1 : (1 : Int) ≤ L.length := by omega
  have g2 : (L.length : Int) ≤ 8 := by omega
  simp (disch := first | assumption | exact Free.val | exact Free.own | exact Free.un | exact Free.xt | omega | (simp only [List.length_map, List.length_append, List.length_cons, List.length_nil, List.length_range, rangeI_len, List.length_take, List.length_drop, List.length_reverse]; omega)) [-List.drop_one, -List.map_map, entry, f_is_tuple, g1, g2]
  rw [eLC_map loV (fun _ => .bl true) L (ps := L.map loV) (l := none) (ρ1 := [.val (LV L), .un, .un]) (by simp) rfl (by simp) (by omega) (by
    intro z hz
    have := f_fits_loan n z (O.t z hz) (O.s z hz) (O.h z hz)
    simp (disch := first | assumption | exact Free.val | exact Free.own | exact Free.un | exact Free.xt | omega | (simp only [List.length_map, List.length_append, List.length_cons, List.length_nil, List.length_range, rangeI_len, List.length_take, List.length_drop, List.length_reverse]; omega)) [-List.drop_one, -List.map_map, this])]
  have hall := pAll_map (fun _ : Loan => true) L
  have ha : (L.all fun _ => true) = true := by simp
  rw [ha] at hall
  simp (disch := first | assumption | exact Free.val | exact Free.own | exact Free.un | exact Free.xt | omega | (simp only [List.length_map, List.length_append, List.length_cons, List.length_nil, List.length_range, rangeI_len, List.length_take, List.length_drop, List.length_reverse]; omega)) [-List.drop_one, -List.map_map, hall]
  rw [eLC_map (fun z : Loan × Loan => .tup [loV z.1, loV z.2]) (fun z => .bl (decide (z.1.1 ≤ z.2.1))) (L.zip (L.drop 1)) (ps := zipP (L.map loV) ((L.map loV).drop 1)) (l := none) (ρ1 := [.val (LV L), .un, .un]) (by simp (disch := first | assumption | exact Free.val | exact Free.own | exact Free.un | exact Free.xt | omega | (simp only [List.length_map, List.length_append, List.length_cons, List.length_nil, List.length_range, rangeI_len, List.length_take, List.length_drop, List.length_reverse]; omega)) [-List.drop_one, -List.map_map, -List.map_drop]) (by
      rw [← List.map_drop, zipP_map]) (by simp) (by simp; omega) (by
    rintro ⟨a, b⟩ hx
    simp)]
  simp (disch := first | assumption | exact Free.val | exact Free.own | exact Free.un | exact Free.xt | omega | (simp only [List.length_map, List.length_append, List.length_cons, List.length_nil, List.length_range, rangeI_len, List.length_take, List.length_drop, List.length_reverse]; omega)) [-List.drop_one, -List.map_map, zip_le O.so]
theorem f_need_loans (n : Nat) (L : List Loan) (O : OkL L) : callF tab (n+4) 160 [.val (LV L)] = .ok (.non, false, [.un]) := by
  refine call_eq rfl rfl rfl (by decide) ?_
  simp [entry, f_fits_loans n L O]
theorem f_waits_of (n : Nat) (L : List Loan) (b : List (Option Int)) (h : L.length ≤ 1000) : callF tab (n+1) 223 [.val (LV L), .val (.lst (b.map optI))] = .ok (.lst ((waits L b).map optI), true, [.un, .un]) := by
  refine call_eq rfl rfl rfl (by decide) ?_
  simp (disch := first | assumption | exact Free.val | exact Free.own | exact Free.un | exact Free.xt | omega | (simp only [List.length_map, List.length_append, List.length_cons, List.length_nil, List.length_range, rangeI_len, List.length_take, List.length_drop, List.length_reverse]; omega)) [-List.drop_one, -List.map_map, entry]
  rw [eLC_map (fun z : Loan × Option Int => .tup [loV z.1, optI z.2]) (fun z => optI (z.2.map fun i => i - z.1.1)) (L.zip b) (ps := zipP (L.map loV) (b.map optI)) (l := none) (ρ1 := [.val (LV L), .val (.lst (b.map optI)), .un, .un]) (by simp (disch := first | assumption | exact Free.val | exact Free.own | exact Free.un | exact Free.xt | omega | (simp only [List.length_map, List.length_append, List.length_cons, List.length_nil, List.length_range, rangeI_len, List.length_take, List.length_drop, List.length_reverse]; omega)) [-List.drop_one, -List.map_map]) (by rw [zipP_map]) (by simp) (by simp; omega) (by
    rintro ⟨a, b⟩ hx
    cases b <;> simp [optI])]
  simp [waits]
/-- the state of all draws -/
abbrev cupV (c : Int × Int) : PV := .lst [.int c.1, .int c.2]
theorem f_cup (n : Nat) (ns : List Int) (hl : ns.length ≤ 63) : ∃ c, callF tab (n+1) 9 [.val (.scr (ns.map .int))] = .ok (cupV c, true, [.un]) := by
  obtain ⟨i, r, e⟩ : ∃ i r, ns.map PV.int ++ [PV.int 0] = .int i :: r := by cases ns <;> simp
  refine ⟨(if 1000000000000000000 ≤ iabs i then iabs i / 181 else 0, (iabs i * 433 + 4201) % 2077504987 + 263), ?_⟩
  refine call_eq rfl rfl rfl (by decide) ?_
  by_cases h : (1000000000000000000 : Int) ≤ iabs i <;> simp (disch := first | assumption | exact Free.val | exact Free.own | exact Free.un | exact Free.xt | omega | (simp only [List.length_map, List.length_append, List.length_cons, List.length_nil, List.length_range, rangeI_len, List.length_take, List.length_drop, List.length_reverse]; omega)) [-List.drop_one, -List.map_map, entry, e, h]
theorem f_roll (n : Nat) (c : Int × Int) (m : Int) (h : 0 < m) (h2 : m < 18446744073709551616) : ∃ (v : Int) (c' : Int × Int), callF tab (n+1) 33 [.own (cupV c), .val (.int m)] = .ok (.int v, false, [.par (cupV c'), .un]) ∧ 0 ≤ v ∧ v < m := by
  have l1 : -18446744073709551616 < (c.2 * 31091 + 8087) % 2147483399 := by have := Int.emod_nonneg (c.2 * 31091 + 8087) (b := 2147483399) (by omega); omega
  have l2 : (c.2 * 31091 + 8087) % 2147483399 < 18446744073709551616 := by have := Int.emod_lt_of_pos (c.2 * 31091 + 8087) (b := 2147483399) (by omega); omega
  refine ⟨if 0 < c.1 then c.1 % m else (((c.2 * 31091 + 8087) % 2147483399) * (((c.2 * 31091 + 8087) % 2147483399) + 349) % 2147483563 / 947) % m, if 0 < c.1 then (c.1 / m, c.2) else (c.1, (c.2 * 31091 + 8087) % 2147483399), ?_, ?_, ?_⟩
  · refine call_eq rfl rfl rfl (by decide) ?_
    by_cases h0 : 0 < c.1
    · simp (disch := first | assumption | exact Free.val | exact Free.own | exact Free.un | exact Free.xt | omega | (simp only [List.length_map, List.length_append, List.length_cons, List.length_nil, List.length_range, rangeI_len, List.length_take, List.length_drop, List.length_reverse]; omega)) [-List.drop_one, -List.map_map, entry, h0]
    · simp (disch := first | assumption | exact Free.val | exact Free.own | exact Free.un | exact Free.xt | omega | (simp only [List.length_map, List.length_append, List.length_cons, List.length_nil, List.length_range, rangeI_len, List.length_take, List.length_drop, List.length_reverse]; omega)) [-List.drop_one, -List.map_map, entry, h0]
  · split <;> exact Int.emod_nonneg _ (by omega)
  · split <;> exact Int.emod_lt_of_pos _ h
theorem f_some (n : Nat) (c : Int × Int) (xs : List PV) (h : 1 ≤ xs.length) (h2 : xs.length ≤ 1000000) : ∃ (v : PV) (c' : Int × Int), callF tab (n+2) 37 [.own (cupV c), .val (.lst xs)] = .ok (v, false, [.par (cupV c'), .un]) ∧ v ∈ xs := by
  obtain ⟨v, c', e, v0, v1⟩ := f_roll n c xs.length (by omega) (by omega)
  refine ⟨gx xs v, c', ?_, gx_mem v0 v1⟩
  refine call_eq rfl rfl rfl (by decide) ?_
  have := pIx_lst v0 v1
  simp [entry, e, this]
theorem f_same (n : Nat) : ∀ (d : Nat) (p : PV), plain d p = true → callF tab (n+d+1) 34 [.val p, .val p] = .ok (.bl true, false, [.un, .un]) := by
  intro d
  induction d with
  | zero =>
    intro p hp
    refine call_eq rfl rfl rfl (by decide) ?_
    cases p with
    | non => simp [entry]
    | bl b => cases b <;> simp [entry]
    | int i => simp [entry]
    | str s => simp [entry, EqOn.pEq (EqOn.str 12)]
    | _ => cases hp
  | succ d ih =>
    intro p hp
    refine call_eq rfl rfl rfl (by decide) ?_
    cases p with
    | non => simp [entry]
    | bl b => cases b <;> simp [entry]
    | int i => simp [entry]
    | str s => simp [entry, EqOn.pEq (EqOn.str 12)]
    | tup xs =>
      simp at hp
      simp [entry]
      obtain ⟨ys, e⟩ := eLC_true (own := [2]) (it := itR1 (oE (e1 pLen (oV 1)))) (tg := tgN 2) (d := eF 34 [oE (e2 pIx (oV 0) (oV 2)), oE (e2 pIx (oV 1) (oV 2))]) (F := callF tab (n + (d + 1))) (ρ := [.val (.tup xs), .val (.tup xs), .un]) xs.length (l := none) (ρ1 := [.val (.tup xs), .val (.tup xs), .un])
        (by simp (disch := first | assumption | exact Free.val | exact Free.own | exact Free.un | exact Free.xt | omega | (simp only [List.length_map, List.length_append, List.length_cons, List.length_nil, List.length_range, rangeI_len, List.length_take, List.length_drop, List.length_reverse]; omega)) [-List.drop_one, -List.map_map]) (by simp) (by omega) (by
        intro k hk
        have e := pIx_tup (xs := xs) (i := k) (by omega) (by omega)
        have := ih (gx xs k) (hp.2 _ (gx_mem (by omega) (by omega)))
        simp [e, show n + (d + 1) = n + d + 1 from rfl, this])
      rw [e]
      simp
    | _ => cases hp
theorem f_law_loans (n : Nat) (c : Int × Int) (MM : Int) (mm1 : 1 ≤ MM) (mm2 : MM ≤ 8) : ∃ (L : List Loan) (c' : Int × Int), OkL L ∧ (L.length : Int) ≤ MM ∧ callF tab (n+3) 21 [.own (cupV c), .val (.int MM)] = .ok (LV L, false, [.par (cupV c'), .un]) := by
  have key : Ret (callF tab (n+3) 21 [.own (cupV c), .val (.int MM)]) fun r => ∃ (L : List Loan) (c' : Int × Int), OkL L ∧ (L.length : Int) ≤ MM ∧ r = (LV L, false, [.par (cupV c'), .un]) := by
    refine call_ret rfl rfl rfl (by decide) ?_
    obtain ⟨w, c1, e1, hw⟩ := f_some n c [.int 6, .int 12, .int 31] (by simp) (by simp)
    obtain ⟨wi, rfl, w1, w2⟩ : ∃ i : Int, w = .int i ∧ 1 ≤ i ∧ i ≤ 31 := by
      simp at hw
      rcases hw with rfl | rfl | rfl <;> exact ⟨_, rfl, by omega, by omega⟩
    obtain ⟨g, c2, e2, hg⟩ := f_some n c1 [.int 3, .int 9] (by simp) (by simp)
    obtain ⟨gi, rfl, g1, g2⟩ : ∃ i : Int, g = .int i ∧ 1 ≤ i ∧ i ≤ 9 := by
      simp at hg
      rcases hg with rfl | rfl <;> exact ⟨_, rfl, by omega, by omega⟩
    obtain ⟨N, c3, e3, N0, N1⟩ := f_roll (n+1) c2 MM (by omega) (by omega)
    obtain ⟨N, rfl⟩ : ∃ k : Nat, N = k := ⟨N.toNat, by omega⟩
    have hN : (1 + (N : Int)).toNat = N + 1 := by omega
    refine cps fun K hK => ?_; simp (disch := first | assumption | exact Free.val | exact Free.own | exact Free.un | exact Free.xt | omega | (simp only [List.length_map, List.length_append, List.length_cons, List.length_nil, List.length_range, rangeI_len, List.length_take, List.length_drop, List.length_reverse]; omega)) [-List.drop_one, -List.map_map, entry, e1, e2]
    refine Ret.thn (Q := fun ρ => ∃ (Q : List Loan) (c' : Int × Int) (b : Slot), Free b ∧ Q.length = N + 1 ∧ (∀ z ∈ Q, 0 ≤ z.1 ∧ z.1 ≤ 30) ∧ (∀ z ∈ Q, 0 ≤ z.2.1 ∧ z.2.1 ≤ 2) ∧ (∀ z ∈ Q, 1 ≤ z.2.2 ∧ z.2.2 ≤ 9) ∧ ρ = [.par (cupV c'), .val (.int MM), .own (.lst (Q.map loV)), .val (.int wi), .val (.int gi), b, .un, .un, .un, .un, .un]) ?_ ?_
    · refine for_range 0 (N + 1) (fun k ρ => ∃ (Q : List Loan) (c' : Int × Int) (b : Slot), Free b ∧ Q.length = k ∧ (∀ z ∈ Q, 0 ≤ z.1 ∧ z.1 ≤ 30) ∧ (∀ z ∈ Q, 0 ≤ z.2.1 ∧ z.2.1 ≤ 2) ∧ (∀ z ∈ Q, 1 ≤ z.2.2 ∧ z.2.2 ≤ 9) ∧ ρ = [.par (cupV c'), .val (.int MM), .own (.lst (Q.map loV)), .val (.int wi), .val (.int gi), b, .un, .un, .un, .un, .un]) _ (by simp (disch := first | assumption | exact Free.val | exact Free.own | exact Free.un | exact Free.xt | omega | (simp only [List.length_map, List.length_append, List.length_cons, List.length_nil, List.length_range, rangeI_len, List.length_take, List.length_drop, List.length_reverse]; omega)) [-List.drop_one, -List.map_map, e3, hN] <;> (first | rfl | exact ⟨rfl, rfl⟩ | exact ⟨rfl, rfl, rfl⟩ | exact ⟨rfl, rfl, rfl, rfl⟩))
        ⟨[], c3, .un, by simp, rfl, by simp, by simp, by simp, by simp⟩ ?_ ?_
      · rintro j ρ hj ⟨Q, c, b, hb, hl, q1, q2, q3, rfl⟩
        obtain ⟨x, c4, e4, x0, x1⟩ := f_roll (n+1) c wi (by omega) (by omega)
        obtain ⟨y, c5, e5, hy⟩ := f_some n c4 [.int 0, .int 0, .int 1, .int 2] (by simp) (by simp)
        obtain ⟨yi, rfl, y1, y2⟩ : ∃ i : Int, y = .int i ∧ 0 ≤ i ∧ i ≤ 2 := by
          simp at hy
          rcases hy with rfl | rfl | rfl <;> exact ⟨_, rfl, by omega, by omega⟩
        obtain ⟨u, c6, e6, u0, u1⟩ := f_roll (n+1) c5 gi (by omega) (by omega)
        have hlen : (Q.map loV).length + 1 ≤ 16777216 := by simp; omega
        refine cps fun K hK => ?_; simp (disch := first | assumption | exact Free.val | exact Free.own | exact Free.un | exact Free.xt | omega | (simp only [List.length_map, List.length_append, List.length_cons, List.length_nil, List.length_range, rangeI_len, List.length_take, List.length_drop, List.length_reverse]; omega)) [-List.drop_one, -List.map_map, e4, e5, e6]
        refine hK _ ⟨rfl, Q ++ [(x, yi, 1 + u)], c6, .val (.int j), by simp, by simp [hl], ?_, ?_, ?_, by simp [loV]⟩
        · intro z hz
          rcases List.mem_append.mp hz with h | h
          · exact q1 z h
          · simp at h; subst h; constructor <;> simp <;> omega
        · intro z hz
          rcases List.mem_append.mp hz with h | h
          · exact q2 z h
          · simp at h; subst h; constructor <;> simp <;> omega
        · intro z hz
          rcases List.mem_append.mp hz with h | h
          · exact q3 z h
          · simp at h; subst h; constructor <;> simp <;> omega
      · rintro ρ ⟨Q, c, b, hb, hl, q1, q2, q3, rfl⟩
        exact ⟨rfl, Q, c, b, hb, hl, q1, q2, q3, rfl⟩
    · rintro ρ ⟨Q, c', b, hb, hl, q1, q2, q3, rfl⟩
      have ok := okL_mk Q (by omega) (by omega) q1 q2 q3
      have hN2 : (Q.map fun z : Loan => z.1).length ≤ 16777216 := by simp; omega
      refine cps fun K hK => ?_; simp (disch := first | assumption | exact Free.val | exact Free.own | exact Free.un | exact Free.xt | omega | (simp only [List.length_map, List.length_append, List.length_cons, List.length_nil, List.length_range, rangeI_len, List.length_take, List.length_drop, List.length_reverse]; omega)) [-List.drop_one, -List.map_map]
      rw [eLC_map loV (fun z => .int z.1) Q (ps := Q.map loV) (l := some 2) (ρ1 := [.par (cupV c'), .val (.int MM), .lok (.lst (Q.map loV)), .val (.int wi), .val (.int gi), b, .un, .un, .un, .un, .un]) (by simp (disch := first | assumption | exact Free.val | exact Free.own | exact Free.un | exact Free.xt | omega | (simp only [List.length_map, List.length_append, List.length_cons, List.length_nil, List.length_range, rangeI_len, List.length_take, List.length_drop, List.length_reverse]; omega)) [-List.drop_one, -List.map_map] <;> (first | rfl | exact ⟨rfl, rfl⟩ | exact ⟨rfl, rfl, rfl⟩ | exact ⟨rfl, rfl, rfl, rfl⟩)) rfl (by simp) (by omega) (by
        intro x hx
        simp (disch := first | assumption | exact Free.val | exact Free.own | exact Free.un | exact Free.xt | omega | (simp only [List.length_map, List.length_append, List.length_cons, List.length_nil, List.length_range, rangeI_len, List.length_take, List.length_drop, List.length_reverse]; omega)) [-List.drop_one, -List.map_map])]
      have e9 : (Q.map fun z : Loan => PV.int z.1) = (Q.map fun z : Loan => z.1).map .int := by simp
      rw [e9]
      have e8 := pSorted_lint hN2
      simp (disch := first | assumption | exact Free.val | exact Free.own | exact Free.un | exact Free.xt | omega | (simp only [List.length_map, List.length_append, List.length_cons, List.length_nil, List.length_range, rangeI_len, List.length_take, List.length_drop, List.length_reverse]; omega)) [-List.drop_one, -List.map_map, e8]
      obtain ⟨T, hT⟩ : ∃ T, sortI (Q.map fun z : Loan => z.1) = T := ⟨_, rfl⟩
      have hTl : T.length = Q.length := by rw [← hT]; simp
      rw [hT]
      rw [eLC_map (fun k : Nat => .int (0 + (k : Int))) (fun k : Nat => loV (gx T (k : Int), (gx Q (k : Int)).2.1, (gx Q (k : Int)).2.2)) (List.range Q.length) (ps := rangeL 0 Q.length) (l := none) (ρ1 := [.par (cupV c'), .val (.int MM), .own (.lst (Q.map loV)), .val (.int wi), .val (.int gi), b, .own (.lst (iL T)), .un, .un, .un, .un]) (by simp (disch := first | assumption | exact Free.val | exact Free.own | exact Free.un | exact Free.xt | omega | (simp only [List.length_map, List.length_append, List.length_cons, List.length_nil, List.length_range, rangeI_len, List.length_take, List.length_drop, List.length_reverse]; omega)) [-List.drop_one, -List.map_map] <;> (first | rfl | exact ⟨rfl, rfl⟩ | exact ⟨rfl, rfl, rfl⟩ | exact ⟨rfl, rfl, rfl, rfl⟩)) rfl (by simp) (by simp; omega) (by
        intro k hk
        have hk : k < Q.length := by simpa using hk
        have e : pIx (.lst (Q.map loV)) (.int (k : Int)) = .ok (loV (gx Q (k : Int)), false) := pIx_lstm loV (by omega) (by omega)
        have e' : pIx (.lst (T.map .int)) (.int (k : Int)) = .ok (.int (gx T (k : Int)), false) := pIx_lstm _ (by omega) (by omega)
        simp (disch := first | assumption | exact Free.val | exact Free.own | exact Free.un | exact Free.xt | omega | (simp only [List.length_map, List.length_append, List.length_cons, List.length_nil, List.length_range, rangeI_len, List.length_take, List.length_drop, List.length_reverse]; omega)) [-List.drop_one, -List.map_map, e, e'])]
      refine cps fun K hK => ?_; simp (disch := first | assumption | exact Free.val | exact Free.own | exact Free.un | exact Free.xt | omega | (simp only [List.length_map, List.length_append, List.length_cons, List.length_nil, List.length_range, rangeI_len, List.length_take, List.length_drop, List.length_reverse]; omega)) [-List.drop_one, -List.map_map]
      rename_i K1 hK1 K2 hK2
      refine hK _ (hK2 _ (hK1 _ ?_))
      rw [hT] at ok
      clear hK hK2 hK1
      obtain ⟨W, hW⟩ : ∃ W, ((List.range Q.length).map fun (k : Nat) => ((gx T (k : Int), (gx Q (k : Int)).2.1, (gx Q (k : Int)).2.2) : Loan)) = W := ⟨_, rfl⟩
      have e7 : ((List.range Q.length).map fun (k : Nat) => loV (gx T (k : Int), (gx Q (k : Int)).2.1, (gx Q (k : Int)).2.2)) = W.map loV := by rw [← hW, List.map_map]; rfl
      rw [e7]
      rw [hW] at ok
      simp
      have hW3 : (W.length : Int) ≤ MM := by rw [← hW]; simp; omega
      first | exact ⟨W, ok, hW3, rfl⟩ | exact ⟨W, ok, hW3, rfl, rfl⟩
  obtain ⟨r, e, L, c', hL, hL2, rfl⟩ := key
  exact ⟨L, c', hL, hL2, e⟩
end Ice.K81
namespace Ice
@[simp] theorem pIsN_opt (o : Option Int) : pIsN isNon (optI o) = .ok (.bl o.isSome, false) := by cases o <;> rfl
@[simp] theorem pIs_opt (o : Option Int) : pIs isNon (optI o) = .ok (.bl o.isNone, false) := by cases o <;> rfl
theorem mSet_lstm {α : Type} (f : α → PV) {F : List α} {v : α} {i : Int} (h : 0 ≤ i) (h2 : i < F.length) : mSet (.int i) (f v) (.lst (F.map f)) = .ok (.non, .lst ((F.set i.toNat v).map f)) := by
  show (match ixOf (F.map f).length i with | some j => R.ok (PV.non, PV.lst ((F.map f).set j (f v))) | none => .stuck) = _
  rw [ixOf_of h (by simpa using h2), List.map_set]
/-- loans that can be lent hour by hour -/
structure OkB (L : List Loan) (st : List Int) : Prop where
  l : L.length ≤ 1000
  n : st.length = 3
  k : ∀ k ∈ st, 0 ≤ k ∧ k ≤ 1000
  t : ∀ z ∈ L, 0 ≤ z.1
  s : ∀ z ∈ L, 0 ≤ z.2.1 ∧ z.2.1 ≤ 2
  h : ∀ z ∈ L, 1 ≤ z.2.2
  so : L.Pairwise fun a b => a.1 ≤ b.1
  b : ∀ z ∈ L.zip (lend L (fr0 st)), ∀ b, z.2 = some b → b < 103
abbrev begZ (L : List Loan) (st : List Int) : List Zl := L.zip (lend L (fr0 st))
theorem OkB.fcts {L : List Loan} {st : List Int} (O : OkB L st) : Fcts (fun s => (gx st s).toNat) [] (begZ L st) :=
  lend_fcts _ L [] (fr0 st) 0 (fun s h0 h => fr0_frI st s h0 h) O.t O.so (fun z hz => by have := O.s z hz; have := O.n; simp; omega) O.h
theorem OkB.len {L : List Loan} {st : List Int} : (begZ L st).length = L.length := by simp [lend_len]
theorem OkB.get {L : List Loan} {st : List Int} {i : Nat} (h : i < L.length) : ∃ o, (begZ L st)[i]? = some (gx L (i : Int), o) := by
  refine ⟨(lend L (fr0 st))[i]'(by rw [lend_len]; exact h), ?_⟩
  rw [List.getElem?_zip_eq_some]
  simp [gx, List.getD_eq_getElem?_getD, List.getElem?_eq_getElem h, List.getElem?_eq_getElem (show i < (lend L (fr0 st)).length by rw [lend_len]; exact h)]
theorem OkB.mem {L : List Loan} {st : List Int} {z : Zl} (h : z ∈ begZ L st) : z.1 ∈ L := by
  obtain ⟨a, b⟩ := z
  exact (List.of_mem_zip h).1
theorem OkB.begin {L : List Loan} {st : List Int} (O : OkB L st) {z : Zl} (h : z ∈ begZ L st) {b : Int} (hb : z.2 = some b) : z.1.1 ≤ b :=
  lend_ge L (fr0 st) z h b hb
theorem stg_gx (Z : List Zl) (x s : Int) (i j : Nat) {z : Zl} (h : Z[j]? = some z) : gx (stg Z x s i) (j : Int) = cutZ x s i z j := by
  simp only [gx, Int.toNat_natCast]
  rw [List.getD_eq_getElem?_getD, stg_get, h]; rfl
theorem range_countP {α : Type} [Inhabited α] (l : List α) (q : α → Bool) : ((List.range l.length).filter fun i : Nat => q (gx l (i : Int))).length = l.countP q := by
  conv => rhs; rw [← range_gx l, List.countP_map]
  rw [List.countP_eq_length_filter]; rfl
end Ice
namespace Ice.K81
open Ice
theorem f_law_begins (n : Nat) (L : List Loan) (st : List Int) (O : OkB L st) : callF tab (n+1) 3 [.val (LV L), .val (.tup (iL st))] = .ok (.tup ((lend L (fr0 st)).map optI), false, [.un, .un]) := by
  have h1 := O.l
  refine call_eq rfl rfl rfl (by decide) ?_
  have e0 := pMul_lst1 (x := .non) (k := L.length) (by omega) (by omega)
  simp (disch := first | assumption | exact Free.val | exact Free.own | exact Free.un | exact Free.xt | omega | (simp only [List.length_map, List.length_append, List.length_cons, List.length_nil, List.length_range, rangeI_len, List.length_take, List.length_drop, List.length_reverse]; omega)) [-List.drop_one, -List.map_map, entry, e0]
  obtain ⟨Z, hZ⟩ : ∃ Z, begZ L st = Z := ⟨_, rfl⟩
  have Zl : Z.length = L.length := by rw [← hZ]; exact OkB.len
  have e1 : List.replicate L.length PV.non = (stg Z 0 0 0).map optI := by
    rw [stg_zero, Zl, List.map_replicate]; rfl
    · intro z hz b hb
      rw [← hZ] at hz
      have := O.begin hz hb
      have := O.t _ (OkB.mem hz)
      omega
    · intro z hz
      rw [← hZ] at hz
      exact (O.s _ (OkB.mem hz)).1
  have e2 : (lend L (fr0 st)).map optI = (stg Z 103 0 0).map optI := by
    rw [stg_end, ← hZ, List.map_snd_zip]
    · rw [lend_len]; exact Nat.le_refl _
    · intro z hz b hb
      rw [← hZ] at hz
      exact O.b z hz b hb
  rw [e1, e2]
  refine Ret.thn (Q := fun ρ => ∃ a b c d e, ρ = [.val (LV L), .val (.tup (iL st)), .own (.lst ((stg Z 103 0 0).map optI)), a, b, c, d, e]) ?_ ?_
  · refine for_range 0 103 (fun x ρ => ∃ a b c d e, Free a ∧ Free b ∧ Free c ∧ Free d ∧ Free e ∧ plainS [e] [0] = true ∧ ρ = [.val (LV L), .val (.tup (iL st)), .own (.lst ((stg Z x 0 0).map optI)), a, b, c, d, e]) _ (by simp (disch := first | assumption | exact Free.val | exact Free.own | exact Free.un | exact Free.xt | omega | (simp only [List.length_map, List.length_append, List.length_cons, List.length_nil, List.length_range, rangeI_len, List.length_take, List.length_drop, List.length_reverse]; omega)) [-List.drop_one, -List.map_map] <;> (first | rfl | exact ⟨rfl, rfl⟩ | exact ⟨rfl, rfl, rfl⟩ | exact ⟨rfl, rfl, rfl, rfl⟩)) ⟨.un, .un, .un, .un, .un, by simp, by simp, by simp, by simp, by simp, by simp, by simp⟩ ?_ ?_
    · rintro x ρ hx ⟨a, b, c, d, e, ha, hb, hc, hd, he, hp, rfl⟩
      refine cps fun K hK => ?_; simp (disch := first | assumption | exact Free.val | exact Free.own | exact Free.un | exact Free.xt | omega | (simp only [List.length_map, List.length_append, List.length_cons, List.length_nil, List.length_range, rangeI_len, List.length_take, List.length_drop, List.length_reverse]; omega)) [-List.drop_one, -List.map_map]
      refine for_range 0 3 (fun s ρ => ∃ b c d e, Free b ∧ Free c ∧ Free d ∧ Free e ∧ plainS [e] [0] = true ∧ ρ = [.val (LV L), .val (.tup (iL st)), .own (.lst ((stg Z x s 0).map optI)), .val (.int x), b, c, d, e]) _ (by simp (disch := first | assumption | exact Free.val | exact Free.own | exact Free.un | exact Free.xt | omega | (simp only [List.length_map, List.length_append, List.length_cons, List.length_nil, List.length_range, rangeI_len, List.length_take, List.length_drop, List.length_reverse]; omega)) [-List.drop_one, -List.map_map] <;> (first | rfl | exact ⟨rfl, rfl⟩ | exact ⟨rfl, rfl, rfl⟩ | exact ⟨rfl, rfl, rfl, rfl⟩)) ⟨b, c, d, e, hb, hc, hd, he, hp, by simp⟩ ?_ ?_
      · rintro s ρ hs ⟨b, c, d, e, hb, hc, hd, he, hp, rfl⟩
        refine cps fun K hK => ?_; simp (disch := first | assumption | exact Free.val | exact Free.own | exact Free.un | exact Free.xt | omega | (simp only [List.length_map, List.length_append, List.length_cons, List.length_nil, List.length_range, rangeI_len, List.length_take, List.length_drop, List.length_reverse]; omega)) [-List.drop_one, -List.map_map]
        rw [eLC_flt (fun k : Nat => .int (0 + (k : Int))) (fun k => heldZ s x (gx Z (k : Int))) (fun k : Nat => .int (k : Int)) (List.range L.length) (ps := rangeL 0 L.length) (l := none)
          (ρ1 := [.val (LV L), .val (.tup (iL st)), .own (.lst ((stg Z x s 0).map optI)), .val (.int x), .val (.int s), c, d, e]) (by simp (disch := first | assumption | exact Free.val | exact Free.own | exact Free.un | exact Free.xt | omega | (simp only [List.length_map, List.length_append, List.length_cons, List.length_nil, List.length_range, rangeI_len, List.length_take, List.length_drop, List.length_reverse]; omega)) [-List.drop_one, -List.map_map] <;> (first | rfl | exact ⟨rfl, rfl⟩ | exact ⟨rfl, rfl, rfl⟩ | exact ⟨rfl, rfl, rfl, rfl⟩)) rfl (by exact hp) (by simp; omega) (by
          intro k hk
          have hk : k < L.length := by simpa using hk
          obtain ⟨o, ho⟩ := OkB.get (st := st) hk
          rw [hZ] at ho
          have q1 : pIx (.tup (L.map loV)) (.int (k : Int)) = .ok (loV (gx L (k : Int)), false) := pIx_tupm loV (by omega) (by omega)
          have q2 : pIx (.lst ((stg Z x s 0).map optI)) (.int (k : Int)) = .ok (optI (gx (stg Z x s 0) (k : Int)), false) := pIx_lstm optI (by omega) (by rw [stg_len]; omega)
          rw [stg_gx _ _ _ _ _ ho] at q2
          have q3 : gx Z (k : Int) = (gx L (k : Int), o) := by
            simp only [gx, Int.toNat_natCast]
            rw [List.getD_eq_getElem?_getD, ho]; rfl
          rw [q3]
          generalize gx L (k : Int) = z at q1 q2
          obtain ⟨t, s', h⟩ := z
          by_cases q4 : s' = (s : Int)
          · cases o with
            | none =>
              have q5 : cutZ x s 0 ((t, s', h), none) k = none := rfl
              rw [q5] at q2
              simp (disch := first | assumption | exact Free.val | exact Free.own | exact Free.un | exact Free.xt | omega | (simp only [List.length_map, List.length_append, List.length_cons, List.length_nil, List.length_range, rangeI_len, List.length_take, List.length_drop, List.length_reverse]; omega)) [-List.drop_one, -List.map_map, q1, q2, q4, heldZ]
            | some g =>
              by_cases q6 : g < (x : Int)
              · have q5 : cutZ x s 0 ((t, s', h), some g) k = some g := by
                  unfold cutZ; simp only; rw [if_pos (by omega)]
                rw [q5] at q2
                simp (disch := first | assumption | exact Free.val | exact Free.own | exact Free.un | exact Free.xt | omega | (simp only [List.length_map, List.length_append, List.length_cons, List.length_nil, List.length_range, rangeI_len, List.length_take, List.length_drop, List.length_reverse]; omega)) [-List.drop_one, -List.map_map, q1, q2, q4, heldZ, q6, optI]
              · have q5 : cutZ x s 0 ((t, s', h), some g) k = none := by
                  unfold cutZ; simp only; rw [if_neg (by omega)]
                rw [q5] at q2
                simp (disch := first | assumption | exact Free.val | exact Free.own | exact Free.un | exact Free.xt | omega | (simp only [List.length_map, List.length_append, List.length_cons, List.length_nil, List.length_range, rangeI_len, List.length_take, List.length_drop, List.length_reverse]; omega)) [-List.drop_one, -List.map_map, q1, q2, q4, heldZ, q6, optI]
          · simp (disch := first | assumption | exact Free.val | exact Free.own | exact Free.un | exact Free.xt | omega | (simp only [List.length_map, List.length_append, List.length_cons, List.length_nil, List.length_range, rangeI_len, List.length_take, List.length_drop, List.length_reverse]; omega)) [-List.drop_one, -List.map_map, q1, q2, q4, heldZ])]
        have cz : ((List.range L.length).filter fun i : Nat => heldZ s x (gx Z (i : Int))).length = Z.countP (heldZ s x) := by rw [← Zl]; exact range_countP Z _
        obtain ⟨W, hW⟩ : ∃ W, ((List.range L.length).filter fun i : Nat => heldZ s x (gx Z (i : Int))).map (fun k : Nat => PV.int (k : Int)) = W := ⟨_, rfl⟩
        have hWl : W.length = Z.countP (heldZ s x) := by rw [← hW, ← cz]; simp
        rw [hW]
        have hst : pIx (.tup (iL st)) (.int (s : Int)) = .ok (.int (gx st (s : Int)), false) := pIx_tupm PV.int (by omega) (by have := O.n; omega)
        have hk0 : 0 ≤ gx st (s : Int) := (O.k _ (gx_mem (xs := st) (i := (s : Int)) (by omega) (by have := O.n; omega))).1
        simp (disch := first | assumption | exact Free.val | exact Free.own | exact Free.un | exact Free.xt | omega | (simp only [List.length_map, List.length_append, List.length_cons, List.length_nil, List.length_range, rangeI_len, List.length_take, List.length_drop, List.length_reverse]; omega)) [-List.drop_one, -List.map_map, hst, hWl]
        refine for_range 0 L.length (fun i ρ => ∃ e, Free e ∧ plainS [e] [0] = true ∧ ρ = [.val (LV L), .val (.tup (iL st)), .own (.lst ((stg Z x s i).map optI)), .val (.int x), .val (.int s), .own (.lst W), .val (.int (gx st (s : Int) - (Z.countP (heldZ s x) : Int) - ((Z.take i).countP (nowZ s x) : Int))), e]) _ (by simp (disch := first | assumption | exact Free.val | exact Free.own | exact Free.un | exact Free.xt | omega | (simp only [List.length_map, List.length_append, List.length_cons, List.length_nil, List.length_range, rangeI_len, List.length_take, List.length_drop, List.length_reverse]; omega)) [-List.drop_one, -List.map_map] <;> (first | rfl | exact ⟨rfl, rfl⟩ | exact ⟨rfl, rfl, rfl⟩ | exact ⟨rfl, rfl, rfl, rfl⟩)) ⟨e, he, hp, by simp⟩ ?_ ?_
        · rintro i ρ hi ⟨e, he, hp, rfl⟩
          obtain ⟨o, ho⟩ := OkB.get (st := st) hi
          have fc := O.fcts
          have hhs : ∀ z ∈ begZ L st, 1 ≤ z.1.2.2 := fun z hz => O.h _ (OkB.mem hz)
          rw [hZ] at ho fc hhs
          have q1 : pIx (.tup (L.map loV)) (.int (i : Int)) = .ok (loV (gx L (i : Int)), false) := pIx_tupm loV (by omega) (by omega)
          have q2 : pIx (.lst ((stg Z x s i).map optI)) (.int (i : Int)) = .ok (optI (gx (stg Z x s i) (i : Int)), false) := pIx_lstm optI (by omega) (by rw [stg_len]; omega)
          rw [stg_gx _ _ _ _ _ ho] at q2
          have bg : ∀ b, o = some b → (gx L (i : Int)).1 ≤ b := fun b hb => by
            have hm := List.mem_of_getElem? ho
            rw [← hZ] at hm
            exact O.begin hm hb
          have step := stg_step Z x s i _ ho
          have now : ((Z.take (i + 1)).countP (nowZ s x) : Int) = (Z.take i).countP (nowZ s x) + (if nowZ s x (gx L (i : Int), o) then 1 else 0 : Int) := by
            rw [List.take_add_one, ho, List.countP_append]
            simp [List.countP_singleton]
            split <;> rfl
          obtain ⟨lf, hlf⟩ : ∃ lf, gx st (s : Int) - (Z.countP (heldZ s x) : Int) - ((Z.take i).countP (nowZ s x) : Int) = lf := ⟨_, rfl⟩
          have nl : gx st (s : Int) - (Z.countP (heldZ s x) : Int) - ((Z.take (i + 1)).countP (nowZ s x) : Int) = lf - (if nowZ s x (gx L (i : Int), o) then 1 else 0 : Int) := by omega
          rw [nl, hlf]
          have turn := fun h1 h2 => turn_iff (x := x) fc hhs ho h1 h2
          generalize gx L (i : Int) = z at q1 q2 ho bg step nl turn
          obtain ⟨t, s', h⟩ := z
          by_cases q4 : s' = (s : Int)
          · subst q4
            by_cases q5 : t ≤ (x : Int)
            · by_cases q6 : ∃ b, o = some b ∧ b < (x : Int)
              · obtain ⟨b, rfl, hb⟩ := q6
                have q7 : cutZ x s i ((t, (s : Int), h), some b) i = some b := by
                  unfold cutZ; simp only; rw [if_pos (by omega)]
                have q8 : ¬ (some b = some (x : Int)) := by intro e; cases e; omega
                rw [q7] at q2
                rw [if_neg (by simp; omega)] at step
                have q9 : nowZ s x ((t, (s : Int), h), some b) = false := by simp [nowZ]; omega
                rw [q9] at nl
                refine cps fun K hK => ?_; simp (disch := first | assumption | exact Free.val | exact Free.own | exact Free.un | exact Free.xt | omega | (simp only [List.length_map, List.length_append, List.length_cons, List.length_nil, List.length_range, rangeI_len, List.length_take, List.length_drop, List.length_reverse]; omega)) [-List.drop_one, -List.map_map, q1, q2, q5]
                apply hK
                exact ⟨rfl, .val (.int i), by simp, by simp, by rw [step, q9]; simp [optI, List.map_set]⟩
              · have q7 : cutZ x s i ((t, (s : Int), h), o) i = none := by
                  unfold cutZ
                  cases o with
                  | none => rfl
                  | some b =>
                    simp only; rw [if_neg]
                    intro e
                    apply q6
                    refine ⟨b, rfl, ?_⟩
                    omega
                rw [q7] at q2
                have turn := turn q5 (fun b hb => by
                  by_cases q : b < (x : Int)
                  · exact absurd ⟨b, hb, q⟩ q6
                  · omega)
                simp only at turn
                rw [show (((gx st (s : Int)).toNat : Nat) : Int) = gx st (s : Int) by omega, hlf] at turn
                by_cases q8 : o = some (x : Int)
                · subst q8
                  have tr := turn.mpr rfl
                  rw [if_pos ⟨rfl, rfl⟩] at step
                  have q9 : nowZ s x ((t, (s : Int), h), some (x : Int)) = true := by simp [nowZ]
                  rw [q9] at nl
                  have q10 := mSet_lstm optI (F := stg Z x s i) (v := some (x : Int)) (i := (i : Int)) (by omega) (by rw [stg_len]; omega)
                  rw [Int.toNat_natCast] at q10
                  simp only [optI] at q10
                  refine cps fun K hK => ?_; simp (disch := first | assumption | exact Free.val | exact Free.own | exact Free.un | exact Free.xt | omega | (simp only [List.length_map, List.length_append, List.length_cons, List.length_nil, List.length_range, rangeI_len, List.length_take, List.length_drop, List.length_reverse]; omega)) [-List.drop_one, -List.map_map, q1, q2, q5, tr, q10]
                  apply hK
                  exact ⟨rfl, .val (.int i), by simp, by simp, by rw [step, q9]; simp [optI, List.map_set]⟩
                · have tr : ¬ 0 < lf := fun h => q8 (turn.mp h)
                  rw [if_neg (by simp [q8])] at step
                  have q9 : nowZ s x ((t, (s : Int), h), o) = false := by simp [nowZ, q8]
                  rw [q9] at nl
                  refine cps fun K hK => ?_; simp (disch := first | assumption | exact Free.val | exact Free.own | exact Free.un | exact Free.xt | omega | (simp only [List.length_map, List.length_append, List.length_cons, List.length_nil, List.length_range, rangeI_len, List.length_take, List.length_drop, List.length_reverse]; omega)) [-List.drop_one, -List.map_map, q1, q2, q5, tr]
                  apply hK
                  exact ⟨rfl, .val (.int i), by simp, by simp, by rw [step, q9]; simp [optI, List.map_set]⟩
            · rw [if_neg (by
                rintro ⟨_, e⟩
                have := bg _ e
                exact q5 this)] at step
              have q9 : nowZ s x ((t, (s : Int), h), o) = false := by
                simp [nowZ]
                intro e
                exact q5 (bg _ e)
              rw [q9] at nl
              refine cps fun K hK => ?_; simp (disch := first | assumption | exact Free.val | exact Free.own | exact Free.un | exact Free.xt | omega | (simp only [List.length_map, List.length_append, List.length_cons, List.length_nil, List.length_range, rangeI_len, List.length_take, List.length_drop, List.length_reverse]; omega)) [-List.drop_one, -List.map_map, q1, q2, q5]
              apply hK
              exact ⟨rfl, .val (.int i), by simp, by simp, by rw [step, q9]; simp [optI, List.map_set]⟩
          · rw [if_neg (by simp [q4])] at step
            have q9 : nowZ s x ((t, s', h), o) = false := by simp [nowZ, q4]
            rw [q9] at nl
            refine cps fun K hK => ?_; simp (disch := first | assumption | exact Free.val | exact Free.own | exact Free.un | exact Free.xt | omega | (simp only [List.length_map, List.length_append, List.length_cons, List.length_nil, List.length_range, rangeI_len, List.length_take, List.length_drop, List.length_reverse]; omega)) [-List.drop_one, -List.map_map, q1, q2, q4]
            apply hK
            exact ⟨rfl, .val (.int i), by simp, by simp, by rw [step, q9]; simp [optI, List.map_set]⟩
        · rintro ρ ⟨e, he, hp, rfl⟩
          rw [show ((s + 1 : Nat) : Int) = (s : Int) + 1 by omega, stg_size Z x s, Zl] at hK
          exact hK _ ⟨rfl, _, _, _, e, Free.val, Free.own, Free.val, he, hp, rfl⟩
      · rintro ρ ⟨b, c, d, e, hb, hc, hd, he, hp, rfl⟩
        apply hK
        refine ⟨rfl, .val (.int x), b, c, d, e, by simp, hb, hc, hd, he, hp, ?_⟩
        have := stg_hour Z x (fun z hz => by rw [← hZ] at hz; have := O.s _ (OkB.mem hz); omega)
        rw [show ((x + 1 : Nat) : Int) = (x : Int) + 1 by omega, this]
        simp
    · rintro ρ ⟨a, b, c, d, e, ha, hb, hc, hd, he, hp, rfl⟩
      exact ⟨rfl, a, b, c, d, e, rfl⟩
  · rintro ρ ⟨a, b, c, d, e, rfl⟩
    simp (disch := first | assumption | exact Free.val | exact Free.own | exact Free.un | exact Free.xt | omega | (simp only [List.length_map, List.length_append, List.length_cons, List.length_nil, List.length_range, rangeI_len, List.length_take, List.length_drop, List.length_reverse]; omega)) [-List.drop_one, -List.map_map]
end Ice.K81
namespace Ice
/-- a stock -/
structure OkS (st : List Int) : Prop where
  n : st.length = 3
  k : ∀ k ∈ st, 0 ≤ k ∧ k ≤ 8
theorem fr0_le {st : List Int} {M : Int} (h : 0 ≤ M) : ∀ l ∈ fr0 st, ∀ f ∈ l, f ≤ M := by
  intro l hl f hf
  obtain ⟨k, _, rfl⟩ := List.mem_map.mp hl
  rw [(List.mem_replicate.mp hf).2]; exact h
theorem OkL.okB {L : List Loan} (O : OkL L) {st : List Int} (S : OkS st) : OkB L st := by
  have h2 := O.l2
  refine ⟨by omega, S.n, fun k hk => by have := S.k k hk; omega, fun z hz => (O.t z hz).1, O.s, fun z hz => (O.h z hz).1, O.so, ?_⟩
  intro z hz b hb
  obtain ⟨a, _⟩ := lend_bound L 30 (fr0 st) (fr0_le (by omega)) (fun z hz => by have := O.t z hz; have := O.h z hz; omega)
  obtain ⟨z1, z2⟩ := z
  have := a b (hb ▸ (List.of_mem_zip hz).2)
  omega
theorem waits_map (L : List Loan) (B : List (Option Int)) (h : B.length = L.length) : ((List.range L.length).map fun k : Nat => (gx B (k : Int)).map fun i => i - (gx L (k : Int)).1) = waits L B := by
  apply List.ext_getElem?
  intro j
  unfold waits
  rw [List.getElem?_map, List.getElem?_map]
  by_cases q : j < L.length
  · rw [List.getElem?_range q, List.getElem?_eq_getElem (by simp; omega), List.getElem_zip]
    simp only [Option.map_some, gx, Int.toNat_natCast]
    rw [List.getD_eq_getElem?_getD, List.getD_eq_getElem?_getD, List.getElem?_eq_getElem q, List.getElem?_eq_getElem (by omega)]
    rfl
  · rw [List.getElem?_eq_none (by simp; omega), List.getElem?_eq_none (by simp; omega)]
    rfl
/-- the longest wait of some, none for ever -/
def maxO (W : List (Option Int)) : Option Int := if none ∈ W then none else some (match W.map (·.getD 0) with | [] => 0 | x :: r => maxI x r)
theorem somes {W : List (Option Int)} (h : none ∉ W) : W.map optI = (W.map (·.getD 0)).map .int := by
  rw [List.map_map]
  apply List.map_congr_left
  intro o ho
  cases o with
  | none => exact absurd ho h
  | some i => rfl
end Ice
namespace Ice.K81
theorem f_law_waits (n : Nat) (L : List Loan) (st : List Int) (O : OkB L st) : callF tab (n+2) 45 [.val (LV L), .val (.tup (iL st))] = .ok (.tup ((waits L (lend L (fr0 st))).map optI), false, [.un, .un]) := by
  have h1 := O.l
  refine call_eq rfl rfl rfl (by decide) ?_
  have l1 := f_law_begins n L st O
  obtain ⟨B, hB⟩ : ∃ B, lend L (fr0 st) = B := ⟨_, rfl⟩
  have hBl : B.length = L.length := by rw [← hB, lend_len]
  rw [hB] at l1 ⊢
  simp (disch := first | assumption | exact Free.val | exact Free.own | exact Free.un | exact Free.xt | omega | (simp only [List.length_map, List.length_append, List.length_cons, List.length_nil, List.length_range, rangeI_len, List.length_take, List.length_drop, List.length_reverse]; omega)) [-List.drop_one, -List.map_map, entry, l1]
  rw [eLC_map (fun k : Nat => .int (0 + (k : Int))) (fun k : Nat => optI ((gx B (k : Int)).map fun i => i - (gx L (k : Int)).1)) (List.range L.length) (ps := rangeL 0 L.length) (l := none) (ρ1 := [.val (LV L), .val (.tup (iL st)), .val (.tup (B.map optI)), .un]) (by simp (disch := first | assumption | exact Free.val | exact Free.own | exact Free.un | exact Free.xt | omega | (simp only [List.length_map, List.length_append, List.length_cons, List.length_nil, List.length_range, rangeI_len, List.length_take, List.length_drop, List.length_reverse]; omega)) [-List.drop_one, -List.map_map] <;> (first | rfl | exact ⟨rfl, rfl⟩ | exact ⟨rfl, rfl, rfl⟩ | exact ⟨rfl, rfl, rfl, rfl⟩)) rfl (by simp) (by simp; omega) (by
    intro k hk
    have hk : k < L.length := by simpa using hk
    have q1 : pIx (.tup (L.map loV)) (.int (k : Int)) = .ok (loV (gx L (k : Int)), false) := pIx_tupm loV (by omega) (by omega)
    have q2 : pIx (.tup (B.map optI)) (.int (k : Int)) = .ok (optI (gx B (k : Int)), false) := pIx_tupm optI (by omega) (by omega)
    cases q : gx B (k : Int) with
    | none => rw [q] at q2; simp (disch := first | assumption | exact Free.val | exact Free.own | exact Free.un | exact Free.xt | omega | (simp only [List.length_map, List.length_append, List.length_cons, List.length_nil, List.length_range, rangeI_len, List.length_take, List.length_drop, List.length_reverse]; omega)) [-List.drop_one, -List.map_map, q1, q2, optI]
    | some b => rw [q] at q2; simp (disch := first | assumption | exact Free.val | exact Free.own | exact Free.un | exact Free.xt | omega | (simp only [List.length_map, List.length_append, List.length_cons, List.length_nil, List.length_range, rangeI_len, List.length_take, List.length_drop, List.length_reverse]; omega)) [-List.drop_one, -List.map_map, q1, q2, optI])]
  have e := waits_map L B hBl
  have e2 : ((List.range L.length).map fun k : Nat => optI ((gx B (k : Int)).map fun i => i - (gx L (k : Int)).1)) = (waits L B).map optI := by rw [← e, List.map_map]; rfl
  rw [e2]
  simp (disch := first | assumption | exact Free.val | exact Free.own | exact Free.un | exact Free.xt | omega | (simp only [List.length_map, List.length_append, List.length_cons, List.length_nil, List.length_range, rangeI_len, List.length_take, List.length_drop, List.length_reverse]; omega)) [-List.drop_one, -List.map_map]
theorem f_need_stock (n : Nat) (L : List Loan) (O : OkL L) (st : List Int) (S : OkS st) : callF tab (n+5) 171 [.val (LV L), .val (.tup (iL st))] = .ok (.non, false, [.un, .un]) := by
  refine call_eq rfl rfl rfl (by decide) ?_
  have q1 := f_need_loans n L O
  have q2 : callF tab (n+4) 100 [.val (.tup (iL st))] = .ok (.bl true, false, [.un]) := by
    refine call_eq rfl rfl rfl (by decide) ?_
    have q3 := f_is_tuple (n+2) (iL st) 3 3
    rw [List.length_map, S.n] at q3
    have := S.n
    simp (disch := first | assumption | exact Free.val | exact Free.own | exact Free.un | exact Free.xt | omega | (simp only [List.length_map, List.length_append, List.length_cons, List.length_nil, List.length_range, rangeI_len, List.length_take, List.length_drop, List.length_reverse]; omega)) [-List.drop_one, -List.map_map, entry, q3]
    rw [eLC_map PV.int (fun x => .bl (decide (0 ≤ x) && decide (x ≤ 8))) st (ps := iL st) (l := none) (ρ1 := [.val (.tup (iL st)), .un]) (by simp) rfl (by simp) (by omega) (by
      intro x hx
      simp [f_is_whole])]
    simp (disch := first | assumption | exact Free.val | exact Free.own | exact Free.un | exact Free.xt | omega | (simp only [List.length_map, List.length_append, List.length_cons, List.length_nil, List.length_range, rangeI_len, List.length_take, List.length_drop, List.length_reverse]; omega)) [-List.drop_one, -List.map_map]
    intro x hx
    exact S.k x hx
  simp (disch := first | assumption | exact Free.val | exact Free.own | exact Free.un | exact Free.xt | omega | (simp only [List.length_map, List.length_append, List.length_cons, List.length_nil, List.length_range, rangeI_len, List.length_take, List.length_drop, List.length_reverse]; omega)) [-List.drop_one, -List.map_map, entry, q1, q2]
theorem f_waits (n : Nat) (L : List Loan) (O : OkL L) (st : List Int) (S : OkS st) : callF tab (n+6) 222 [.val (LV L), .val (.tup (iL st))] = .ok (.tup ((waits L (lend L (fr0 st))).map optI), false, [.un, .un]) := by
  have h2 := O.l2
  refine call_eq rfl rfl rfl (by decide) ?_
  have q1 := f_need_stock n L O st S
  have q2 := f_lent (n+4) L st (by omega) (fun z hz => by have := O.s z hz; have := S.n; omega) (fun k hk => by have := S.k k hk; omega) (by have := S.n; omega)
  have q3 := f_waits_of (n+4) L (lend L (fr0 st)) (by omega)
  obtain ⟨B, hB⟩ : ∃ B, lend L (fr0 st) = B := ⟨_, rfl⟩
  rw [hB] at q2 q3 ⊢
  simp (disch := first | assumption | exact Free.val | exact Free.own | exact Free.un | exact Free.xt | omega | (simp only [List.length_map, List.length_append, List.length_cons, List.length_nil, List.length_range, rangeI_len, List.length_take, List.length_drop, List.length_reverse]; omega)) [-List.drop_one, -List.map_map, entry, q1, q2, q3]
theorem f_longest_in (n : Nat) (L : List Loan) (O : OkL L) (st : List Int) (S : OkS st) : callF tab (n+2) 146 [.val (LV L), .val (.tup (iL st))] = .ok (optI (maxO (waits L (lend L (fr0 st)))), false, [.un, .un]) := by
  have h1 := O.l1
  have h2 := O.l2
  refine call_eq rfl rfl rfl (by decide) ?_
  have q2 := f_lent n L st (by omega) (fun z hz => by have := O.s z hz; have := S.n; omega) (fun k hk => by have := S.k k hk; omega) (by have := S.n; omega)
  have q3 := f_waits_of n L (lend L (fr0 st)) (by omega)
  have hBl := lend_len L (fr0 st)
  obtain ⟨B, hB⟩ : ∃ B, lend L (fr0 st) = B := ⟨_, rfl⟩
  rw [hB] at q2 q3 hBl ⊢
  have hWl : (waits L B).length = L.length := by simp [waits, hBl]
  obtain ⟨W, hW⟩ : ∃ W, waits L B = W := ⟨_, rfl⟩
  rw [hW] at q3 hWl ⊢
  have q4 := pNin_optI W
  by_cases hn : none ∈ W
  · rw [decide_eq_true hn] at q4
    simp (disch := first | assumption | exact Free.val | exact Free.own | exact Free.un | exact Free.xt | omega | (simp only [List.length_map, List.length_append, List.length_cons, List.length_nil, List.length_range, rangeI_len, List.length_take, List.length_drop, List.length_reverse]; omega)) [-List.drop_one, -List.map_map, entry, q2, q3, q4, maxO, hn, optI]
  · rw [decide_eq_false hn] at q4
    have e := somes hn
    have e2 : pMax (.lst (W.map optI)) = .ok (.int (match W.map (·.getD 0) with | [] => 0 | x :: r => maxI x r), false) := by
      rw [e]
      cases W with
      | nil => simp at hWl; omega
      | cons x r => exact pMax_lint _ _
    simp (disch := first | assumption | exact Free.val | exact Free.own | exact Free.un | exact Free.xt | omega | (simp only [List.length_map, List.length_append, List.length_cons, List.length_nil, List.length_range, rangeI_len, List.length_take, List.length_drop, List.length_reverse]; omega)) [-List.drop_one, -List.map_map, entry, q2, q3, q4, e2, maxO, hn, optI]
theorem f_longest_wait (n : Nat) (L : List Loan) (O : OkL L) (st : List Int) (S : OkS st) : callF tab (n+6) 147 [.val (LV L), .val (.tup (iL st))] = .ok (optI (maxO (waits L (lend L (fr0 st)))), false, [.un, .un]) := by
  refine call_eq rfl rfl rfl (by decide) ?_
  have q1 := f_need_stock n L O st S
  have q2 := f_longest_in (n+3) L O st S
  simp (disch := first | assumption | exact Free.val | exact Free.own | exact Free.un | exact Free.xt | omega | (simp only [List.length_map, List.length_append, List.length_cons, List.length_nil, List.length_range, rangeI_len, List.length_take, List.length_drop, List.length_reverse]; omega)) [-List.drop_one, -List.map_map, entry, q1, q2]
end Ice.K81
end
section
set_option autoImplicit false
set_option linter.all false
set_option maxRecDepth 100000
namespace Ice
theorem lend1_flen (fr : List (List Int)) (z : Loan) (s : Int) (h0 : 0 ≤ z.2.1) (s0 : 0 ≤ s) : (gx (lend1 fr z).2 s).length = (gx fr s).length := by
  unfold lend1
  cases hg : gx fr z.2.1 with
  | nil => rfl
  | cons f r =>
    have hl : z.2.1.toNat < fr.length := by
      by_cases q : z.2.1.toNat < fr.length
      · exact q
      · simp only [gx, List.getD_eq_getElem?_getD, List.getElem?_eq_none (Nat.le_of_not_lt q)] at hg
        cases hg
    by_cases q : s = z.2.1
    · subst q
      have x1 := gx_set fr z.2.1.toNat ((f :: r).erase (minI f r) ++ [(if z.1 < minI f r then minI f r else z.1) + z.2.2]) hl
      rw [show ((z.2.1.toNat : Nat) : Int) = z.2.1 by omega] at x1
      simp only
      rw [x1, hg, List.length_append, List.length_erase_of_mem (minI_spec r f).1]
      simp
    · simp only
      rw [gx_set_ne _ _ _ _ s0 (by omega)]
theorem after_flen : ∀ (L : List Loan) (fr : List (List Int)) (s : Int), (∀ z ∈ L, 0 ≤ z.2.1) → 0 ≤ s → (gx (after L fr) s).length = (gx fr s).length := by
  intro L
  induction L with
  | nil => intro fr s _ _; rfl
  | cons z L ih =>
    intro fr s h s0
    show (gx (after L (lend1 fr z).2) s).length = _
    rw [ih _ s (fun w hw => h w (List.mem_cons_of_mem _ hw)) s0, lend1_flen fr z s (h z (List.mem_cons_self ..)) s0]
/-- when the first pair of a size is free, behind all loans -/
def freeAt (L : List Loan) (st : List Int) (s : Int) : Int := match gx (after L (fr0 st)) s with
  | [] => 0
  | f :: r => minI f r
theorem lend_more {L : List Loan} {st : List Int} {s : Int} (x h : Int) (hL : ∀ z ∈ L, 0 ≤ z.2.1) (s0 : 0 ≤ s) (s1 : s < st.length) (hs : gx st s ≠ 0) (hk : 0 ≤ gx st s) :
    lend (L ++ [(x, s, h)]) (fr0 st) = lend L (fr0 st) ++ [some (if x < freeAt L st s then freeAt L st s else x)] := by
  rw [lend_app]
  congr 1
  have e := after_flen L (fr0 st) s hL s0
  rw [fr0_gx st s s0 s1, List.length_replicate] at e
  unfold freeAt
  cases hg : gx (after L (fr0 st)) s with
  | nil => rw [hg] at e; simp at e; omega
  | cons f r =>
    show (lend1 (after L (fr0 st)) (x, s, h)).1 :: [] = _
    unfold lend1
    simp only [hg]
theorem freeAt_le {L : List Loan} (O : OkL L) {st : List Int} {s : Int} (h6 : L.length ≤ 6) : freeAt L st s ≤ 84 := by
  obtain ⟨_, b⟩ := lend_bound L 30 (fr0 st) (fr0_le (by omega)) (fun z hz => by have := O.t z hz; have := O.h z hz; omega)
  unfold freeAt
  cases hg : gx (after L (fr0 st)) s with
  | nil => simp
  | cons f r =>
    have := b _ (gx_in hg) _ (minI_spec r f).1
    simp only
    omega
theorem gl_in {L : List Loan} (h : 1 ≤ L.length) : gl L ∈ L := by
  have hne : L ≠ [] := by intro e; rw [e] at h; simp at h
  rw [gl, List.getLast?_eq_some_getLast hne, Option.getD_some]
  exact List.getLast_mem hne
theorem last_ge {L : List Loan} (h : L.Pairwise fun a b => a.1 ≤ b.1) : ∀ z ∈ L, z.1 ≤ (gl L).1 := by
  intro z hz
  have hne : L ≠ [] := by intro e; rw [e] at hz; cases hz
  have e := split_last hne
  rw [e] at h hz
  rcases List.mem_append.mp hz with q | q
  · exact (List.pairwise_append.mp h).2.2 z q _ (by simp)
  · simp at q; subst q; exact Int.le_refl _
theorem OkL.more {L : List Loan} (O : OkL L) (h6 : L.length ≤ 6) {st : List Int} (S : OkS st) {x s : Int} (s0 : 0 ≤ s) (s2 : s ≤ 2) (hs : gx st s ≠ 0) (x0 : (gl L).1 ≤ x) (x1 : x ≤ 102) : OkB (L ++ [(x, s, 1)]) st := by
  have h1 := O.l1
  have hn := S.n
  have hl := O.t _ (gl_in h1)
  have hk := S.k _ (gx_mem (xs := st) (i := s) s0 (by omega))
  refine ⟨by simp; omega, S.n, fun k hk => by have := S.k k hk; omega, ?_, ?_, ?_, ?_, ?_⟩
  · intro z hz
    rcases List.mem_append.mp hz with q | q
    · exact (O.t z q).1
    · simp at q; subst q; show (0 : Int) ≤ x; omega
  · intro z hz
    rcases List.mem_append.mp hz with q | q
    · exact O.s z q
    · simp at q; subst q; exact ⟨s0, s2⟩
  · intro z hz
    rcases List.mem_append.mp hz with q | q
    · exact (O.h z q).1
    · simp at q; subst q; simp
  · rw [List.pairwise_append]
    refine ⟨O.so, by simp, fun a ha b hb => ?_⟩
    simp at hb; subst hb
    have := last_ge O.so a ha
    show a.1 ≤ x
    omega
  · intro z hz b hb
    rw [lend_more x 1 (fun z hz => (O.s z hz).1) s0 (by omega) hs hk.1] at hz
    have hm := (List.of_mem_zip (show (z.1, z.2) ∈ _ from hz)).2
    rw [hb] at hm
    obtain ⟨a, _⟩ := lend_bound L 30 (fr0 st) (fr0_le (by omega)) (fun z hz => by have := O.t z hz; have := O.h z hz; omega)
    have := freeAt_le O (st := st) (s := s) h6
    rcases List.mem_append.mp hm with q | q
    · have := a b q; omega
    · simp at q; omega
/-- the first time for one more -/
def firstO (L : List Loan) (st : List Int) (s w : Int) : Option Int := if gx st s = 0 then none else some (if (gl L).1 < freeAt L st s - w then freeAt L st s - w else (gl L).1)
theorem waits_more (L : List Loan) (z : Loan) (B : List (Option Int)) (b : Int) (h : B.length = L.length) : waits (L ++ [z]) (B ++ [some b]) = waits L B ++ [some (b - z.1)] := by
  unfold waits
  rw [List.zip_append h.symm, List.map_append]; rfl
end Ice
namespace Ice.K81
theorem f_need_size (n : Nat) (s : Int) (h1 : 0 ≤ s) (h2 : s ≤ 2) : callF tab (n+2) 169 [.val (.int s)] = .ok (.non, false, [.un]) := by
  refine call_eq rfl rfl rfl (by decide) ?_
  simp [entry, f_is_whole, h1, h2]
theorem f_need_wait (n : Nat) (m : Int) (h1 : 0 ≤ m) (h2 : m ≤ 100) : callF tab (n+2) 173 [.val (.int m)] = .ok (.non, false, [.un]) := by
  refine call_eq rfl rfl rfl (by decide) ?_
  simp [entry, f_is_whole, h1, h2]
theorem f_first_for (n : Nat) (L : List Loan) (O : OkL L) (st : List Int) (S : OkS st) (s w : Int) (s0 : 0 ≤ s) (s2 : s ≤ 2) (w0 : 0 ≤ w) (w1 : w ≤ 100) :
    callF tab (n+6) 85 [.val (LV L), .val (.tup (iL st)), .val (.int s), .val (.int w)] = .ok (optI (firstO L st s w), false, [.un, .un, .un, .un]) := by
  have h1 := O.l1; have h2 := O.l2; have hn := S.n
  refine call_eq rfl rfl rfl (by decide) ?_
  have q1 := f_need_stock n L O st S
  have q2 := f_need_size (n+3) s s0 s2
  have q3 := f_need_wait (n+3) w w0 w1
  have q4 : pIx (.tup (iL st)) (.int s) = .ok (.int (gx st s), false) := pIx_tupm PV.int s0 (by omega)
  have hk := S.k _ (gx_mem (xs := st) (i := s) s0 (by omega))
  by_cases q : gx st s = 0
  · simp (disch := first | assumption | exact Free.val | exact Free.own | exact Free.un | exact Free.xt | omega | (simp only [List.length_map, List.length_append, List.length_cons, List.length_nil, List.length_range, rangeI_len, List.length_take, List.length_drop, List.length_reverse]; omega)) [-List.drop_one, -List.map_map, entry, q1, q2, q3, q4, q, firstO, optI]
  · have hne : L ≠ [] := by intro e; rw [e] at h1; simp at h1
    have q5 : pIx (.tup (L.map loV)) (.int (-1)) = .ok (loV (gl L), false) := pIx_tlm loV hne
    have ht := O.t _ (gl_in h1)
    have q6 := f_lent (n+4) (L ++ [((gl L).1, s, 1)]) st (by simp; omega) (fun z hz => by
      rcases List.mem_append.mp hz with a | a
      · have := O.s z a; omega
      · simp at a; subst a; simp; omega) (fun k hk => by have := S.k k hk; omega) (by omega)
    rw [lend_more _ 1 (fun z hz => (O.s z hz).1) s0 (by omega) q hk.1] at q6
    obtain ⟨B, hB⟩ : ∃ B, lend L (fr0 st) = B := ⟨_, rfl⟩
    have e : firstO L st s w = some (if (gl L).1 < freeAt L st s - w then freeAt L st s - w else (gl L).1) := by unfold firstO; rw [if_neg q]
    obtain ⟨m, hm⟩ : ∃ m, freeAt L st s = m := ⟨_, rfl⟩
    rw [hB, hm] at q6
    rw [e, hm]
    obtain ⟨T, hT⟩ : ∃ T, (gl L).1 = T := ⟨_, rfl⟩
    have e3 : (if T < (if T < m then m else T) - w then (if T < m then m else T) - w else T) = (if T < m - w then m - w else T) := by
      by_cases a : T < m <;> simp only [a, if_true, if_false] <;> (repeat' split) <;> omega
    have q5' : pIx (loV (gl L)) (.int 0) = .ok (.int T, false) := by rw [← hT]; rfl
    obtain ⟨z, hz⟩ : ∃ z, loV (gl L) = z := ⟨_, rfl⟩
    rw [hz] at q5 q5'
    rw [hT] at q6 ⊢
    rw [List.map_append, List.map_append] at q6
    simp only [List.map_cons, List.map_nil, optI] at q6
    have hBl : L.length + 1 ≤ 16777216 := by omega
    simp (disch := first | assumption | exact Free.val | exact Free.own | exact Free.un | exact Free.xt | omega | (simp only [List.length_map, List.length_append, List.length_cons, List.length_nil, List.length_range, rangeI_len, List.length_take, List.length_drop, List.length_reverse]; omega)) [-List.drop_one, -List.map_map, entry, q1, q2, q3, q4, q, q5, q5', optI, q6, e3]
/-- the first time, hour by hour -/
theorem f_law_first (n : Nat) (L : List Loan) (O : OkL L) (h6 : L.length ≤ 6) (st : List Int) (S : OkS st) (s w : Int) (s0 : 0 ≤ s) (s2 : s ≤ 2) (w0 : 0 ≤ w) :
    callF tab (n+3) 11 [.val (LV L), .val (.tup (iL st)), .val (.int s), .val (.int w)] = .ok (optI (firstO L st s w), false, [.un, .un, .un, .un]) := by
  have h1 := O.l1; have h2 := O.l2; have hn := S.n
  have q4 : pIx (.tup (iL st)) (.int s) = .ok (.int (gx st s), false) := pIx_tupm PV.int s0 (by omega)
  have hk := S.k _ (gx_mem (xs := st) (i := s) s0 (by omega))
  by_cases q : gx st s = 0
  · refine call_eq rfl rfl rfl (by decide) ?_
    simp (disch := first | assumption | exact Free.val | exact Free.own | exact Free.un | exact Free.xt | omega | (simp only [List.length_map, List.length_append, List.length_cons, List.length_nil, List.length_range, rangeI_len, List.length_take, List.length_drop, List.length_reverse]; omega)) [-List.drop_one, -List.map_map, entry, q4, q, firstO, optI]
  · have hne : L ≠ [] := by intro e; rw [e] at h1; simp at h1
    have q5 : pIx (.tup (L.map loV)) (.int (-1)) = .ok (loV (gl L), false) := pIx_tlm loV hne
    have ht := O.t _ (gl_in h1)
    have hm := freeAt_le O (st := st) (s := s) h6
    have e : firstO L st s w = some (if (gl L).1 < freeAt L st s - w then freeAt L st s - w else (gl L).1) := by unfold firstO; rw [if_neg q]
    have lw : ∀ x, (gl L).1 ≤ x → x ≤ 102 → callF tab (n+2) 45 [.val (.tup (L.map loV ++ [.tup [.int x, .int s, .int 1]])), .val (.tup (iL st))] = .ok (.tup ((waits L (lend L (fr0 st))).map optI ++ [.int ((if x < freeAt L st s then freeAt L st s else x) - x)]), false, [.un, .un]) := by
      intro x x0 x1
      have a := f_law_waits n (L ++ [(x, s, 1)]) st (O.more h6 S s0 s2 q x0 x1)
      rw [lend_more _ 1 (fun z hz => (O.s z hz).1) s0 (by omega) q hk.1, waits_more _ _ _ _ (lend_len _ _), show LV (L ++ [(x, s, 1)]) = PV.tup (L.map loV ++ [.tup [.int x, .int s, .int 1]]) by simp, List.map_append] at a
      exact a
    obtain ⟨m, hm'⟩ : ∃ m, freeAt L st s = m := ⟨_, rfl⟩
    obtain ⟨T, hT⟩ : ∃ T, (gl L).1 = T := ⟨_, rfl⟩
    have q5' : pIx (loV (gl L)) (.int 0) = .ok (.int T, false) := by rw [← hT]; rfl
    obtain ⟨z, hz⟩ : ∃ z, loV (gl L) = z := ⟨_, rfl⟩
    rw [hz] at q5 q5'
    rw [hm'] at hm
    rw [hT] at ht
    rw [hT, hm'] at lw
    rw [e, hT, hm']
    obtain ⟨W, hW⟩ : ∃ W, (waits L (lend L (fr0 st))).map optI = W := ⟨_, rfl⟩
    rw [hW] at lw
    refine call_eq rfl rfl rfl (by decide) ?_
    simp (disch := first | assumption | exact Free.val | exact Free.own | exact Free.un | exact Free.xt | omega | (simp only [List.length_map, List.length_append, List.length_cons, List.length_nil, List.length_range, rangeI_len, List.length_take, List.length_drop, List.length_reverse]; omega)) [-List.drop_one, -List.map_map, entry, q4, q, q5, q5', optI]
    refine Ret.thn_may (Q := fun ρ => False) ?_ (fun ρ h => h.elim)
    refine for_range_may T (103 - T).toNat (fun j ρ => (∀ t : Nat, t < j → ¬ m - (T + t) ≤ w) ∧ ∃ a b, Free a ∧ Free b ∧ ρ = [.val (LV L), .val (.tup (iL st)), .val (.int s), .val (.int w), a, b]) _ (by simp (disch := first | assumption | exact Free.val | exact Free.own | exact Free.un | exact Free.xt | omega | (simp only [List.length_map, List.length_append, List.length_cons, List.length_nil, List.length_range, rangeI_len, List.length_take, List.length_drop, List.length_reverse]; omega)) [-List.drop_one, -List.map_map, q5, q5'] <;> (first | rfl | exact ⟨rfl, rfl⟩ | exact ⟨rfl, rfl, rfl⟩ | exact ⟨rfl, rfl, rfl, rfl⟩)) ⟨by omega, .un, .un, by simp, by simp, by simp⟩ ?_ ?_
    · rintro j ρ hj ⟨hno, a, b, ha, hb, rfl⟩
      have l := lw (T + j) (by omega) (by omega)
      by_cases c : m - (T + j) ≤ w
      · have c2 : (if T + (j : Int) < m then m else T + j) - (T + j) ≤ w := by split <;> omega
        have c3 : (if T < m - w then m - w else T) = T + j := by
          by_cases j0 : j = 0
          · subst j0; split <;> omega
          · have := hno (j - 1) (by omega)
            split <;> omega
        simp (disch := first | assumption | exact Free.val | exact Free.own | exact Free.un | exact Free.xt | omega | (simp only [List.length_map, List.length_append, List.length_cons, List.length_nil, List.length_range, rangeI_len, List.length_take, List.length_drop, List.length_reverse]; omega)) [-List.drop_one, -List.map_map, l, c2, c3]
      · have c2 : ¬ (if T + (j : Int) < m then m else T + j) - (T + j) ≤ w := by split <;> omega
        simp (disch := first | assumption | exact Free.val | exact Free.own | exact Free.un | exact Free.xt | omega | (simp only [List.length_map, List.length_append, List.length_cons, List.length_nil, List.length_range, rangeI_len, List.length_take, List.length_drop, List.length_reverse]; omega)) [-List.drop_one, -List.map_map, l, c2]
        intro t ht
        by_cases e : t = j
        · subst e; omega
        · have := hno t (by omega); omega
    · rintro ρ ⟨hno, a, b, ha, hb, rfl⟩
      have := hno (102 - T).toNat (by omega)
      omega
end Ice.K81
end
section
set_option autoImplicit false
set_option linter.all false
set_option maxRecDepth 100000
namespace Ice
theorem pCut_tm1 (xs : List PV) (x : PV) : pCut none (some (-1)) (.tup (xs ++ [x])) = .ok (.tup xs, false) := by
  show R.ok (PV.tup (cutL (xs ++ [x]) none (some (-1))), false) = _
  have e : cutL (xs ++ [x]) none (some (-1)) = xs := by
    unfold cutL clampI
    simp
    have : ((-1 : Int) + (xs.length + 1)).toNat = xs.length := by omega
    rw [this, List.take_append_of_le_length (Nat.le_refl _), List.take_length]
  rw [e]
theorem EqOn.optI (n : Nat) : EqOn n Ice.optI := optI_eq n
theorem pNe_opt_self (W : List (Option Int)) : pNe (.tup (W.map optI)) (.tup (W.map optI)) = .ok (.bl false, false) := by
  have := EqOn.pNe (EqOn.optI 11).tup W W
  simpa using this
theorem waits_dom : ∀ (L : List Loan) (B B' : List (Option Int)), (∀ w ∈ B.zip B', ∀ b, w.1 = some b → ∃ b', w.2 = some b' ∧ b' ≤ b) → B.length = B'.length →
    ∀ w ∈ (waits L B).zip (waits L B'), ∀ b, w.1 = some b → ∃ b', w.2 = some b' ∧ b' ≤ b := by
  intro L
  induction L with
  | nil => intro B B' _ _ w hw; simp [waits] at hw
  | cons z L ih =>
    intro B B' h hl w hw b hb
    cases B with
    | nil => simp [waits] at hw
    | cons o B =>
      cases B' with
      | nil => simp at hl
      | cons o' B' =>
        have hw : w ∈ ((o.map fun i => i - z.1), (o'.map fun i => i - z.1)) :: (waits L B).zip (waits L B') := hw
        rcases List.mem_cons.mp hw with q | q
        · subst q
          cases o with
          | none => cases hb
          | some i =>
            obtain ⟨i', e, le⟩ := h (some i, o') (List.mem_cons_self ..) i rfl
            simp only at e
            subst e
            refine ⟨i' - z.1, rfl, ?_⟩
            have : i - z.1 = b := by simpa using hb
            omega
        · exact ih B B' (fun w hw => h w (List.mem_cons_of_mem _ hw)) (by simpa using hl) w q b hb
theorem waits_now (L : List Loan) : waits L (L.map fun z => some z.1) = L.map fun _ => some 0 := by
  unfold waits
  induction L with
  | nil => rfl
  | cons z L ih => simp at ih ⊢; exact ih
theorem maxO_zero (L : List Loan) : maxO (L.map fun _ => some (0 : Int)) = some 0 := by
  unfold maxO
  rw [if_neg (by simp)]
  congr 1
  cases L with
  | nil => rfl
  | cons z L =>
    show maxI 0 ((L.map fun _ => some (0 : Int)).map (·.getD 0)) = 0
    rcases List.mem_cons.mp (maxI_spec ((L.map fun _ => some (0 : Int)).map (·.getD 0)) 0).1 with q | q
    · exact q
    · obtain ⟨o, ho, e⟩ := List.mem_map.mp q
      obtain ⟨_, _, rfl⟩ := List.mem_map.mp ho
      exact e.symm
theorem OkL.one {L : List Loan} (O : OkL L) (h7 : L.length ≤ 7) {x s : Int} (s0 : 0 ≤ s) (s2 : s ≤ 2) (x0 : (gl L).1 ≤ x) (x1 : x ≤ 30) : OkL (L ++ [(x, s, 1)]) := by
  have hl := O.t _ (gl_in O.l1)
  refine ⟨by simp, by simp; omega, ?_, ?_, ?_, ?_⟩
  · intro z hz
    rcases List.mem_append.mp hz with q | q
    · exact O.t z q
    · simp at q; subst q; show (0 : Int) ≤ x ∧ x ≤ 30; omega
  · intro z hz
    rcases List.mem_append.mp hz with q | q
    · exact O.s z q
    · simp at q; subst q; exact ⟨s0, s2⟩
  · intro z hz
    rcases List.mem_append.mp hz with q | q
    · exact O.h z q
    · simp at q; subst q; simp
  · rw [List.pairwise_append]
    refine ⟨O.so, by simp, fun a ha b hb => ?_⟩
    simp at hb; subst hb
    have := last_ge O.so a ha
    show a.1 ≤ x
    omega
theorem firstO_ge {L : List Loan} {st : List Int} {s w b : Int} (h : firstO L st s w = some b) : (gl L).1 ≤ b ∧ gx st s ≠ 0 := by
  unfold firstO at h
  by_cases q : gx st s = 0
  · rw [if_pos q] at h; cases h
  · rw [if_neg q] at h
    refine ⟨?_, q⟩
    have := Option.some.inj h
    rw [← this]; split <;> omega
end Ice
namespace Ice.K81
theorem f_stock (n : Nat) (c : Int × Int) : ∃ (st : List Int) (c' : Int × Int), OkS st ∧ (∀ k ∈ st, k ≤ 2) ∧
    eLC [4] (itR1 (oE (eC (.int 3)))) (tgN 4) none (eF 37 [oV 0, oE (eL [eC (.int 0), eC (.int 1), eC (.int 1), eC (.int 2)])]) (callF tab (n + 2)) [.par (cupV c), .un, .un, .un, .un, .un, .un, .un, .un, .un, .un, .un] = .ok (.lst (iL st), true, [.par (cupV c'), .un, .un, .un, .un, .un, .un, .un, .un, .un, .un, .un]) := by
  obtain ⟨r, hr, st, c', h1, h2, rfl⟩ := eLC_inv (own := [4]) (it := itR1 (oE (eC (.int 3)))) (tg := tgN 4) (c := none) (d := eF 37 [oV 0, oE (eL [eC (.int 0), eC (.int 1), eC (.int 1), eC (.int 2)])]) (F := callF tab (n + 2))
    (ρ := [.par (cupV c), .un, .un, .un, .un, .un, .un, .un, .un, .un, .un, .un]) (ρ1 := [.par (cupV c), .un, .un, .un, .un, .un, .un, .un, .un, .un, .un, .un]) (l := none) (ps := rangeL 0 3)
    (fun k : Nat => .int (0 + (k : Int))) (List.range 3) (fun k acc w => ∃ (st : List Int) (c' : Int × Int), acc = iL st ∧ st.length = k ∧ (∀ x ∈ st, 0 ≤ x ∧ x ≤ 2) ∧ w = [.par (cupV c'), .un, .un, .un, .un, .un, .un, .un, .un, .un, .un, .un])
    (fun r => ∃ (st : List Int) (c' : Int × Int), st.length = 3 ∧ (∀ x ∈ st, 0 ≤ x ∧ x ≤ 2) ∧ r = (.lst (iL st), true, [.par (cupV c'), .un, .un, .un, .un, .un, .un, .un, .un, .un, .un, .un]))
    (by simp (disch := first | assumption | exact Free.val | exact Free.own | exact Free.un | exact Free.xt | omega | (simp only [List.length_map, List.length_append, List.length_cons, List.length_nil, List.length_range, rangeI_len, List.length_take, List.length_drop, List.length_reverse]; omega)) [-List.drop_one, -List.map_map] <;> (first | rfl | exact ⟨rfl, rfl⟩ | exact ⟨rfl, rfl, rfl⟩ | exact ⟨rfl, rfl, rfl, rfl⟩)) rfl (by simp) ⟨[], c, rfl, rfl, by simp, by simp⟩ (by
      rintro acc w ⟨st, c', rfl, hl, _, rfl⟩
      simp at hl ⊢; omega) (by
      rintro k x acc w hk ⟨st, c', rfl, hl, hx, rfl⟩
      obtain ⟨v, c4, e4, hv⟩ := f_some n c' [.int 0, .int 1, .int 1, .int 2] (by simp) (by simp)
      obtain ⟨i, rfl, i0, i1⟩ : ∃ i : Int, v = .int i ∧ 0 ≤ i ∧ i ≤ 2 := by
        simp at hv
        rcases hv with rfl | rfl | rfl <;> exact ⟨_, rfl, by omega, by omega⟩
      simp (disch := first | assumption | exact Free.val | exact Free.own | exact Free.un | exact Free.xt | omega | (simp only [List.length_map, List.length_append, List.length_cons, List.length_nil, List.length_range, rangeI_len, List.length_take, List.length_drop, List.length_reverse]; omega)) [-List.drop_one, -List.map_map, e4]
      refine ⟨st ++ [i], by simp, by simp [hl], fun y hy => ?_⟩
      rcases List.mem_append.mp hy with q | q
      · exact hx y q
      · simp at q; omega) (by
      rintro acc w ⟨st, c', rfl, hl, hx, rfl⟩
      exact ⟨st, c', by simpa using hl, hx, by simp⟩)
  exact ⟨st, c', ⟨h1, fun k hk => by have := h2 k hk; omega⟩, fun k hk => (h2 k hk).2, hr⟩
theorem f_law_right (n : Nat) (c : Int × Int) : ∃ (c' : Int × Int), callF tab (n+7) 30 [.own (cupV c)] = .ok (.bl true, false, [.par (cupV c')]) := by
  have key : Ret (callF tab (n+7) 30 [.own (cupV c)]) fun r => ∃ (c' : Int × Int), r = (.bl true, false, [.par (cupV c')]) := by
    refine call_ret rfl rfl rfl (by decide) ?_
    obtain ⟨L, c1, O, h6, e1⟩ := f_law_loans (n+3) c 6 (by omega) (by omega)
    have h1 := O.l1
    have h6 : L.length ≤ 6 := by omega
    obtain ⟨st, c2, S, st2, e2⟩ := f_stock (n+4) c1
    have hn := S.n
    refine cps fun K hK => ?_; simp (disch := first | assumption | exact Free.val | exact Free.own | exact Free.un | exact Free.xt | omega | (simp only [List.length_map, List.length_append, List.length_cons, List.length_nil, List.length_range, rangeI_len, List.length_take, List.length_drop, List.length_reverse]; omega)) [-List.drop_one, -List.map_map, entry, e1, e2]
    refine Ret.thn (Q := fun ρ => ∃ (c : Int × Int) (a b d e : Slot), Free a ∧ Free b ∧ Free d ∧ Free e ∧ ρ = [.par (cupV c), .val (LV L), .val (.tup (iL st)), a, b, d, e, .un, .un, .un, .un, .un]) ?_ ?_
    · refine for_range 0 3 (fun _ ρ => ∃ (c : Int × Int) (a b d e : Slot), Free a ∧ Free b ∧ Free d ∧ Free e ∧ ρ = [.par (cupV c), .val (LV L), .val (.tup (iL st)), a, b, d, e, .un, .un, .un, .un, .un]) _ (by simp (disch := first | assumption | exact Free.val | exact Free.own | exact Free.un | exact Free.xt | omega | (simp only [List.length_map, List.length_append, List.length_cons, List.length_nil, List.length_range, rangeI_len, List.length_take, List.length_drop, List.length_reverse]; omega)) [-List.drop_one, -List.map_map] <;> (first | rfl | exact ⟨rfl, rfl⟩ | exact ⟨rfl, rfl, rfl⟩ | exact ⟨rfl, rfl, rfl, rfl⟩)) ⟨c2, .un, .un, .un, .un, by simp, by simp, by simp, by simp, by simp⟩ ?_ ?_
      · rintro j ρ hj ⟨c, a, b, d, e, ha, hb, hd, he, rfl⟩
        obtain ⟨s, c3, e3, s0, s1⟩ := f_roll (n+5) c 3 (by omega) (by omega)
        obtain ⟨v, c4, e4, v0, v1⟩ := f_roll (n+5) c3 10 (by omega) (by omega)
        obtain ⟨u, c5, e5, hu⟩ := f_some (n+4) c4 [.int 0, .int v, .int 100] (by simp) (by simp)
        obtain ⟨w, rfl, w0, w1⟩ : ∃ i : Int, u = .int i ∧ 0 ≤ i ∧ i ≤ 100 := by
          simp at hu
          rcases hu with rfl | rfl | rfl <;> exact ⟨_, rfl, by omega, by omega⟩
        have s2 : s ≤ 2 := by omega
        have l1 := f_first_for n L O st S s w s0 s2 w0 w1
        have l2 := f_law_first (n+3) L O h6 st S s w s0 s2 w0
        have l3 := f_same (n+5) 0 (optI (firstO L st s w)) (by cases firstO L st s w <;> rfl)
        cases q : firstO L st s w with
        | none =>
          rw [q] at l1 l2 l3
          simp only [optI] at l1 l2 l3
          refine cps fun K hK => ?_; simp (disch := first | assumption | exact Free.val | exact Free.own | exact Free.un | exact Free.xt | omega | (simp only [List.length_map, List.length_append, List.length_cons, List.length_nil, List.length_range, rangeI_len, List.length_take, List.length_drop, List.length_reverse]; omega)) [-List.drop_one, -List.map_map, e3, e4, e5, l1, l2, l3]
          exact hK _ ⟨rfl, c5, _, _, _, _, Free.val, Free.val, Free.val, Free.val, rfl⟩
        | some b' =>
          rw [q] at l1 l2 l3
          simp only [optI] at l1 l2 l3
          obtain ⟨g1, g2⟩ := firstO_ge q
          by_cases q3 : b' ≤ 30
          · have l4 := f_waits n (L ++ [(b', s, 1)]) (O.one (by omega) s0 s2 g1 q3) st S
            have hk := S.k _ (gx_mem (xs := st) (i := s) s0 (by omega))
            rw [lend_more _ 1 (fun z hz => (O.s z hz).1) s0 (by omega) g2 hk.1, waits_more _ _ _ _ (lend_len _ _), show LV (L ++ [(b', s, 1)]) = PV.tup (L.map loV ++ [.tup [.int b', .int s, .int 1]]) by simp, List.map_append] at l4
            have l5 := f_waits n L O st S
            have l6 := pNe_opt_self (waits L (lend L (fr0 st)))
            obtain ⟨W, hW⟩ : ∃ W, (waits L (lend L (fr0 st))).map optI = W := ⟨_, rfl⟩
            rw [hW] at l4 l5 l6
            refine cps fun K hK => ?_; simp (disch := first | assumption | exact Free.val | exact Free.own | exact Free.un | exact Free.xt | omega | (simp only [List.length_map, List.length_append, List.length_cons, List.length_nil, List.length_range, rangeI_len, List.length_take, List.length_drop, List.length_reverse]; omega)) [-List.drop_one, -List.map_map, e3, e4, e5, l1, l2, l3, q3, l4, l5, l6, optI, pCut_tm1]
            exact hK _ ⟨rfl, c5, _, _, _, _, Free.val, Free.val, Free.val, Free.val, rfl⟩
          · refine cps fun K hK => ?_; simp (disch := first | assumption | exact Free.val | exact Free.own | exact Free.un | exact Free.xt | omega | (simp only [List.length_map, List.length_append, List.length_cons, List.length_nil, List.length_range, rangeI_len, List.length_take, List.length_drop, List.length_reverse]; omega)) [-List.drop_one, -List.map_map, e3, e4, e5, l1, l2, l3, q3]
            exact hK _ ⟨rfl, c5, _, _, _, _, Free.val, Free.val, Free.val, Free.val, rfl⟩
      · rintro ρ ⟨c, a, b, d, e, ha, hb, hd, he, rfl⟩
        exact ⟨rfl, c, a, b, d, e, ha, hb, hd, he, rfl⟩
    · rintro ρ ⟨c, a, b, d, e, ha, hb, hd, he, rfl⟩
      have p1 : pIx (.tup (iL st)) (.int 0) = .ok (.int (gx st 0), false) := pIx_tupm PV.int (by omega) (by omega)
      obtain ⟨mo, hmo⟩ : ∃ mo, (gx st 0 + 1) :: st.drop 1 = mo := ⟨_, rfl⟩
      have p2 : .int (gx st 0 + 1) :: (iL st).drop 1 = iL mo := by rw [← hmo]; simp
      have S' : OkS mo := by
        refine ⟨by rw [← hmo]; simp; omega, fun k hk => ?_⟩
        rw [← hmo] at hk
        rcases List.mem_cons.mp hk with q | q
        · have := S.k _ (gx_mem (xs := st) (i := 0) (by omega) (by omega))
          have := st2 _ (gx_mem (xs := st) (i := 0) (by omega) (by omega))
          omega
        · exact S.k k (List.mem_of_mem_drop q)
      have hd : ∀ s : Int, 0 ≤ s → s < st.length → gx st s ≤ gx mo s := by
        intro s s0 s1
        match st, hn with
        | [x, y, z], _ =>
          subst hmo
          have : s = 0 ∨ s = 1 ∨ s = 2 := by simp at s1; omega
          rcases this with rfl | rfl | rfl <;> simp [gx] <;> omega
      have l1 := f_waits n L O st S
      have l2 := f_waits n L O mo S'
      have d1 := lend_dom L (fr0 st) (fr0 mo) (by simp [hn, S'.n]) (fr0_dom (by rw [hn, S'.n]) hd) (fun z hz => by have := O.s z hz; simp; omega) (fun z hz => (O.h z hz).1)
      have d2 := waits_dom L _ _ d1 (by rw [lend_len, lend_len])
      have S8 : OkS [8, 8, 8] := ⟨rfl, by simp⟩
      have l3 := f_longest_wait n L O [8, 8, 8] S8
      rw [lend_many (fun s s0 s1 => by
        have : s = 0 ∨ s = 1 ∨ s = 2 := by simp at s1; omega
        rcases this with rfl | rfl | rfl <;> simp [gx] <;> omega) (fun z hz => (O.t z hz).1) O.so (fun z hz => (O.h z hz).1) (fun z hz => by have := O.s z hz; simp; omega), waits_now, maxO_zero] at l3
      obtain ⟨W, hW⟩ : ∃ W, waits L (lend L (fr0 st)) = W := ⟨_, rfl⟩
      obtain ⟨V, hV⟩ : ∃ W, waits L (lend L (fr0 mo)) = W := ⟨_, rfl⟩
      rw [hW] at l1 d2
      rw [hV] at l2 d2
      have l3' : callF tab (n + 6) 147 [.val (LV L), .val (.tup [.int 8, .int 8, .int 8])] = .ok (.int 0, false, [.un, .un]) := l3
      simp (disch := first | assumption | exact Free.val | exact Free.own | exact Free.un | exact Free.xt | omega | (simp only [List.length_map, List.length_append, List.length_cons, List.length_nil, List.length_range, rangeI_len, List.length_take, List.length_drop, List.length_reverse]; omega)) [-List.drop_one, -List.map_map, p1, p2, l1, l2]
      refine Ret.thn (Q := fun ρ => ∃ (u v : Slot), ρ = [.par (cupV c), .val (LV L), .val (.tup (iL st)), a, b, d, e, .val (.tup (iL mo)), .val (.tup (W.map optI)), .val (.tup (V.map optI)), u, v]) ?_ ?_
      · refine for_inv (fun z : Option Int × Option Int => .tup [optI z.1, optI z.2]) (W.zip V) (fun _ ρ => ∃ (u v : Slot), Free u ∧ Free v ∧ ρ = [.par (cupV c), .val (LV L), .val (.tup (iL st)), a, b, d, e, .val (.tup (iL mo)), .val (.tup (W.map optI)), .val (.tup (V.map optI)), u, v]) _ (l := none) (by simp (disch := first | assumption | exact Free.val | exact Free.own | exact Free.un | exact Free.xt | omega | (simp only [List.length_map, List.length_append, List.length_cons, List.length_nil, List.length_range, rangeI_len, List.length_take, List.length_drop, List.length_reverse]; omega)) [-List.drop_one, -List.map_map] <;> (first | rfl | exact ⟨rfl, rfl⟩ | exact ⟨rfl, rfl, rfl⟩ | exact ⟨rfl, rfl, rfl, rfl⟩)) (by rw [zipP_map]) ⟨.un, .un, by simp, by simp, rfl⟩ ?_ ?_
        · rintro j ⟨o, o'⟩ ρ hz hj ⟨u, v, hu, hv, rfl⟩
          have hm := List.mem_of_getElem? hz
          cases o with
          | none =>
            refine cps fun K hK => ?_; simp (disch := first | assumption | exact Free.val | exact Free.own | exact Free.un | exact Free.xt | omega | (simp only [List.length_map, List.length_append, List.length_cons, List.length_nil, List.length_range, rangeI_len, List.length_take, List.length_drop, List.length_reverse]; omega)) [-List.drop_one, -List.map_map, optI]
            exact hK _ ⟨rfl, _, _, Free.val, by cases o' <;> exact Free.val, rfl⟩
          | some x =>
            obtain ⟨x', e1, le⟩ := d2 _ hm x rfl
            simp only at e1
            subst e1
            have le' : ¬ x < x' := by omega
            refine cps fun K hK => ?_; simp (disch := first | assumption | exact Free.val | exact Free.own | exact Free.un | exact Free.xt | omega | (simp only [List.length_map, List.length_append, List.length_cons, List.length_nil, List.length_range, rangeI_len, List.length_take, List.length_drop, List.length_reverse]; omega)) [-List.drop_one, -List.map_map, optI, le']
            exact hK _ ⟨rfl, _, _, Free.val, Free.val, rfl⟩
        · rintro ρ ⟨u, v, hu, hv, rfl⟩
          exact ⟨rfl, u, v, rfl⟩
      · rintro ρ ⟨u, v, rfl⟩
        simp (disch := first | assumption | exact Free.val | exact Free.own | exact Free.un | exact Free.xt | omega | (simp only [List.length_map, List.length_append, List.length_cons, List.length_nil, List.length_range, rangeI_len, List.length_take, List.length_drop, List.length_reverse]; omega)) [-List.drop_one, -List.map_map, l3']
        exact hK _ (by simp)
  obtain ⟨r, e, c', rfl⟩ := key
  exact ⟨c', e⟩
theorem sp_facts : ∀ h : Fin 9, ∀ m : Fin 8, freeAt (List.replicate (m.val + 1) ((3, 0, (h.val : Int) + 1) : Loan)) [1, 0, 0] 0 = 3 + ((m.val : Int) + 1) * ((h.val : Int) + 1) ∧
    freeAt (List.replicate (m.val + 1) ((3, 0, (h.val : Int) + 1) : Loan)) [8, 1, 0] 1 = 0 := by decide +kernel
theorem rep_ok {m : Nat} {h : Int} (m1 : 1 ≤ m) (m2 : m ≤ 8) (h1 : 1 ≤ h) (h2 : h ≤ 9) : OkL (List.replicate m ((3, 0, h) : Loan)) := by
  refine ⟨by simpa using m1, by simpa using m2, ?_, ?_, ?_, ?_⟩
  · intro z hz; rw [(List.mem_replicate.mp hz).2]; simp
  · intro z hz; rw [(List.mem_replicate.mp hz).2]; simp
  · intro z hz; rw [(List.mem_replicate.mp hz).2]; simp; omega
  · rw [List.pairwise_replicate]; exact .inr (Int.le_refl _)
theorem law_ok (ns : List Int) (hns : ns.length ≤ 63) : ∃ m outs, callF tab 40 137 [.val (.scr (ns.map .int))] = .ok (.bl true, m, outs) := by
  obtain ⟨c0, ec⟩ := f_cup 38 ns hns
  have key : Ret (callF tab 40 137 [.val (.scr (ns.map .int))]) fun r => ∃ m outs, r = (.bl true, m, outs) := by
    refine call_ret rfl rfl rfl (by decide) ?_
    refine cps fun K hK => ?_; simp (disch := first | assumption | exact Free.val | exact Free.own | exact Free.un | exact Free.xt | omega | (simp only [List.length_map, List.length_append, List.length_cons, List.length_nil, List.length_range, rangeI_len, List.length_take, List.length_drop, List.length_reverse]; omega)) [-List.drop_one, -List.map_map, entry, ec]
    refine Ret.thn (Q := fun ρ => ∃ (c : Int × Int) (u2 : Slot), Free u2 ∧ ρ = [.val (.scr (ns.map .int)), .own (cupV c), u2, .un, .un, .un, .un, .un]) ?_ ?_
    · refine for_range 0 4 (fun _ ρ => ∃ (c : Int × Int) (u2 : Slot), Free u2 ∧ ρ = [.val (.scr (ns.map .int)), .own (cupV c), u2, .un, .un, .un, .un, .un]) _ (by simp (disch := first | assumption | exact Free.val | exact Free.own | exact Free.un | exact Free.xt | omega | (simp only [List.length_map, List.length_append, List.length_cons, List.length_nil, List.length_range, rangeI_len, List.length_take, List.length_drop, List.length_reverse]; omega)) [-List.drop_one, -List.map_map] <;> (first | rfl | exact ⟨rfl, rfl⟩ | exact ⟨rfl, rfl, rfl⟩ | exact ⟨rfl, rfl, rfl, rfl⟩)) ⟨c0, .un, by simp, by simp⟩ ?_ ?_
      · rintro j ρ hj ⟨c, u2, h2, rfl⟩
        obtain ⟨c1, e1⟩ := f_law_right 32 c
        refine cps fun K hK => ?_; simp (disch := first | assumption | exact Free.val | exact Free.own | exact Free.un | exact Free.xt | omega | (simp only [List.length_map, List.length_append, List.length_cons, List.length_nil, List.length_range, rangeI_len, List.length_take, List.length_drop, List.length_reverse]; omega)) [-List.drop_one, -List.map_map, e1]
        exact hK _ ⟨rfl, c1, .val (.int j), by simp, by simp⟩
      · rintro ρ ⟨c, u2, h2, rfl⟩
        exact ⟨rfl, c, u2, h2, rfl⟩
    · rintro ρ ⟨c, u2, h2, rfl⟩
      obtain ⟨h, c1, e1, h0, h9⟩ := f_roll 38 c 9 (by omega) (by omega)
      obtain ⟨w, c2, e2, w0, w1⟩ := f_roll 38 c1 12 (by omega) (by omega)
      obtain ⟨m, c3, e3, m0, m1⟩ := f_roll 38 c2 8 (by omega) (by omega)
      obtain ⟨h, rfl⟩ : ∃ k : Nat, h = k := ⟨h.toNat, by omega⟩
      obtain ⟨m, rfl⟩ : ∃ k : Nat, m = k := ⟨m.toNat, by omega⟩
      obtain ⟨g1, g2⟩ := sp_facts ⟨h, by omega⟩ ⟨m, by omega⟩
      simp only at g1 g2
      have e4 := pMul_one (x := .tup [.int 3, .int 0, .int (1 + (h : Int))]) (k := 1 + (m : Int)) (by omega) (by omega)
      have eL : List.replicate (1 + (m : Int)).toNat (PV.tup [.int 3, .int 0, .int (1 + (h : Int))]) = (List.replicate (m + 1) ((3, 0, (h : Int) + 1) : Loan)).map loV := by
        rw [List.map_replicate, show (1 + (m : Int)).toNat = m + 1 by omega, Int.add_comm]
      have O := rep_ok (m := m + 1) (h := (h : Int) + 1) (by omega) (by omega) (by omega) (by omega)
      have gll : (gl (List.replicate (m + 1) ((3, 0, (h : Int) + 1) : Loan))).1 = 3 := by
        rw [(List.mem_replicate.mp (gl_in (L := List.replicate (m + 1) ((3, 0, (h : Int) + 1) : Loan)) (by simp))).2]
      rw [eL] at e4
      generalize List.replicate (m + 1) ((3, 0, (h : Int) + 1) : Loan) = L at *
      have l1 := f_first_for 33 L O [1, 0, 0] ⟨rfl, by simp⟩ 0 w (by omega) (by omega) w0 (by omega)
      have l2 := f_first_for 33 L O [8, 1, 0] ⟨rfl, by simp⟩ 1 w (by omega) (by omega) w0 (by omega)
      have l3 := f_first_for 33 L O [1, 0, 0] ⟨rfl, by simp⟩ 2 w (by omega) (by omega) w0 (by omega)
      have k1 : firstO L [1, 0, 0] 0 w = some (if 3 < 3 + ((m : Int) + 1) * ((h : Int) + 1) - w then 3 + ((m : Int) + 1) * ((h : Int) + 1) - w else 3) := by
        unfold firstO; rw [g1, gll, if_neg (by decide)]
      have k2 : firstO L [8, 1, 0] 1 w = some 3 := by
        unfold firstO; rw [g2, gll, if_neg (by decide), if_neg (by omega)]
      have k3 : firstO L [1, 0, 0] 2 w = none := by
        unfold firstO; rw [if_pos (by decide)]
      rw [k1] at l1; rw [k2] at l2; rw [k3] at l3
      rw [show ((m : Int) + 1) * ((h : Int) + 1) = (1 + (m : Int)) * (1 + (h : Int)) by rw [Int.add_comm, Int.add_comm (h : Int)]] at l1
      have l4 : pMul (.int (1 + (m : Int))) (.int (1 + (h : Int))) = .ok (.int ((1 + (m : Int)) * (1 + (h : Int))), false) := pMul_l (by omega) (by omega)
      obtain ⟨X, hX⟩ : ∃ X, (if 3 < 3 + (1 + (m : Int)) * (1 + (h : Int)) - w then 3 + (1 + (m : Int)) * (1 + (h : Int)) - w else 3) = X := ⟨_, rfl⟩
      rw [hX] at l1
      simp only [optI, List.map_cons, List.map_nil] at l1 l2 l3
      have l5 := f_same 37 1 (.tup [.int X, .int 3, .non]) (by simp)
      simp (disch := first | assumption | exact Free.val | exact Free.own | exact Free.un | exact Free.xt | omega | (simp only [List.length_map, List.length_append, List.length_cons, List.length_nil, List.length_range, rangeI_len, List.length_take, List.length_drop, List.length_reverse]; omega)) [-List.drop_one, -List.map_map, e1, e2, e3, e4, l1, l2, l3, l4, hX, l5]
      exact hK _ (by simp)
  obtain ⟨r, e, m, outs, rfl⟩ := key
  exact ⟨m, outs, e⟩
end Ice.K81
end
section
set_option Elab.async false
set_option linter.all false
set_option maxRecDepth 100000
namespace IceS.K81
open PySem hiding Env
open PySem.Spec PyProof.Rows L2 IceS
def k_is_whole : KD := ⟨3, ["value", "low", "high"], [
    mRet (kAnd [kInst yInt (jV 0), kNot (kInst yBool (jV 0)), kCh cLe cLe (jV 1) (jV 0) (jV 2)])]⟩
def k_is_tuple_of : KD := ⟨3, ["value", "low", "high"], [
    mRet (kAnd [kInst yTup (jV 0), kCh cLe cLe (jV 1) (jE (kB1 bLen (jV 0))) (jV 2)])]⟩
def k_fits_loan : KD := ⟨1, ["value"], [
    mIf (kOr [kNot (kF 124 [jE (kV 0), jE (kInt 3), jE (kInt 3)]), kNot (kF 125 [jE (kIx (jV 0) (jE (kInt 0))), jE (kInt 0), jE (kGc 30)])]) [mRet (kBl false)] [],
    mRet (kAnd [kF 125 [jE (kIx (jV 0) (jE (kInt 1))), jE (kInt 0), jE (kSub (jE (kGc 3)) (jE (kInt 1)))], kF 125 [jE (kIx (jV 0) (jE (kInt 2))), jE (kInt 1), jE (kGc 9)]])]⟩
def k_fits_loans : KD := ⟨1, ["value", "one", "other"], [
    mIf (kOr [kNot (kF 124 [jE (kV 0), jE (kInt 1), jE (kGc 8)]), kNot (kB1 bAll (jE (kLC [1] (wV 0) (mG 1) none (kF 92 [jE (kV 1)]))))]) [mRet (kBl false)] [],
    mRet (kB1 bAll (jE (kLC [1, 2] (wM (kV 0) (kCut (jV 0) (some (jE (kInt 1))) none)) (mGT [mG 1, mG 2]) none (kLe (jE (kIx (jV 1) (jE (kInt 0)))) (jE (kIx (jV 2) (jE (kInt 0))))))))]⟩
def k_fits_stock : KD := ⟨1, ["value", "one"], [
    mRet (kAnd [kF 124 [jE (kV 0), jE (kGc 3), jE (kGc 3)], kB1 bAll (jE (kLC [1] (wV 0) (mG 1) none (kF 125 [jE (kV 1), jE (kInt 0), jE (kGc 8)])))])]⟩
def k_need_loans : KD := ⟨1, ["loans"], [
    mIf (kNot (kF 93 [jE (kV 0)])) [mRaise 24] []]⟩
def k_need_stock : KD := ⟨2, ["loans", "stock"], [
    mEx (kF 160 [jE (kV 0)]),
    mIf (kNot (kF 100 [jE (kV 1)])) [mRaise 24] []]⟩
def k_need_size : KD := ⟨1, ["size"], [
    mIf (kNot (kF 125 [jE (kV 0), jE (kInt 0), jE (kSub (jE (kGc 3)) (jE (kInt 1)))])) [mRaise 2] []]⟩
def k_lent : KD := ⟨2, ["loans", "stock", "free", "found", "time", "size", "hours", "first", "begin", "many"], [
    mAsg2 2 [9] (wV 1) (mG 9) (kMul (jE (kLst [kInt 0])) (jV 9)),
    mAsg 3 (kLst []),
    mFor (wV 0) (mGT [mG 4, mG 5, mG 6]) [mIf (kNilS 2 (jV 5)) [mAppI 3 (kNon)] [mAsg 7 (kMinS 2 (jV 5)), mAsg 8 (kMax2 (jV 4) (jV 7)), mSub2 mRem 2 (jV 5) (kV 7), mSub2 mApp 2 (jV 5) (kAdd (jV 8) (jV 6)), mAppI 3 (kV 8)]],
    mRetV 3]⟩
def k_waits_of : KD := ⟨2, ["loans", "given", "loan", "begin"], [
    mRet (kLC [2, 3] (wM (kV 0) (kV 1)) (mGT [mG 2, mG 3]) none (kIf (kIsN iNon (jV 3)) (kSub (jV 3) (jE (kIx (jV 2) (jE (kInt 0))))) (kNon)))]⟩
def k_longest_in : KD := ⟨2, ["loans", "stock", "rows"], [
    mAsg 2 (kF 223 [jE (kV 0), jE (kF 141 [jE (kV 0), jE (kV 1)])]),
    mRet (kIf (kNin (jE (kNon)) (jV 2)) (kB1 bMax (jV 2)) (kNon))]⟩
def k_waits : KD := ⟨2, ["loans", "stock"], [
    mEx (kF 171 [jE (kV 0), jE (kV 1)]),
    mRet (kT1 tTuple (jE (kF 223 [jE (kV 0), jE (kF 141 [jE (kV 0), jE (kV 1)])])))]⟩
def k_longest_wait : KD := ⟨2, ["loans", "stock"], [
    mEx (kF 171 [jE (kV 0), jE (kV 1)]),
    mRet (kF 146 [jE (kV 0), jE (kV 1)])]⟩
def k_need_wait : KD := ⟨1, ["wait"], [
    mIf (kNot (kF 125 [jE (kV 0), jE (kInt 0), jE (kGc 100)])) [mRaise 2] []]⟩
def k_first_for : KD := ⟨4, ["loans", "stock", "size", "wait", "last", "rows"], [
    mEx (kF 171 [jE (kV 0), jE (kV 1)]),
    mEx (kF 169 [jE (kV 2)]),
    mEx (kF 173 [jE (kV 3)]),
    mIf (kEq (jE (kIx (jV 1) (jV 2))) (jE (kInt 0))) [mRet (kNon)] [],
    mAsg 4 (kIx (jE (kIx (jV 0) (jE (kNeg (jE (kInt 1)))))) (jE (kInt 0))),
    mAsg 5 (kF 141 [jE (kAdd (jV 0) (jE (kTup [kTup [kV 4, kV 2, kInt 1]]))), jE (kV 1)]),
    mRet (kMax2 (jV 4) (jE (kSub (jE (kIx (jV 5) (jE (kNeg (jE (kInt 1)))))) (jV 3))))]⟩
def k_law_cup : KD := ⟨1, ["script", "cell"], [
    mAsg 1 (kB1 bAbs (jE (kIx (jE (kAdd (jE (kT1 tList (jV 0))) (jE (kLst [kInt 0])))) (jE (kInt 0))))),
    mRet (kLst [kIf (kGe (jV 1) (jE (kPow (jE (kInt 10)) (jE (kInt 18))))) (kFdiv (jV 1) (jE (kInt 181))) (kInt 0), kAdd (jE (kMod (jE (kT1 tInt (jE (kAdd (jE (kMul (jV 1) (jE (kInt 433)))) (jE (kInt 4201)))))) (jE (kInt 2077504987)))) (jE (kInt 263))])]⟩
def k_law_roll : KD := ⟨2, ["cup", "many", "found", "deep"], [
    mIf (kGt (jE (kIx (jV 0) (jE (kInt 0)))) (jE (kInt 0))) [mAsg 2 (kMod (jE (kT1 tInt (jE (kIx (jV 0) (jE (kInt 0)))))) (jV 1)), mSetI 0 (jE (kInt 0)) (kFdiv (jE (kIx (jV 0) (jE (kInt 0)))) (jV 1)), mRetV 2] [],
    mSetI 0 (jE (kInt 1)) (kMod (jE (kT1 tInt (jE (kAdd (jE (kMul (jE (kIx (jV 0) (jE (kInt 1)))) (jE (kInt 31091)))) (jE (kInt 8087)))))) (jE (kInt 2147483399))),
    mAsg 3 (kMod (jE (kT1 tInt (jE (kMul (jE (kIx (jV 0) (jE (kInt 1)))) (jE (kAdd (jE (kIx (jV 0) (jE (kInt 1)))) (jE (kInt 349)))))))) (jE (kInt 2147483563))),
    mRet (kMod (jE (kT1 tInt (jE (kFdiv (jV 3) (jE (kInt 947)))))) (jV 1))]⟩
def k_law_some : KD := ⟨2, ["cup", "things"], [
    mRet (kIx (jV 1) (jE (kF 33 [jV 0, jE (kB1 bLen (jV 1))])))]⟩
def k_law_same : KD := ⟨2, ["told", "due", "at"], [
    mIf (kInst yTup (jV 1)) [mIf (kOr [kNot (kInst yTup (jV 0)), kNe (jE (kB1 bLen (jV 0))) (jE (kB1 bLen (jV 1)))]) [mRet (kBl false)] [], mRet (kB1 bAll (jE (kLC [2] (wR1 (jE (kB1 bLen (jV 1)))) (mG 2) none (kF 34 [jE (kIx (jV 0) (jV 2)), jE (kIx (jV 1) (jV 2))]))))] [],
    mIf (kIs iNon (jV 1)) [mRet (kIs iNon (jV 0))] [],
    mIf (kInst yBool (jV 1)) [mRet (kIf (kV 1) (kIs iTrue (jV 0)) (kIs iFalse (jV 0)))] [],
    mIf (kInst yInt (jV 1)) [mRet (kAnd [kInst yInt (jV 0), kNot (kInst yBool (jV 0)), kEq (jE (kT1 tInt (jV 0))) (jV 1)])] [],
    mRet (kAnd [kInst yStr (jV 0), kEq (jE (kT1 tStr (jV 0))) (jV 1)])]⟩
def k_law_loans : KD := ⟨2, ["cup", "most", "found", "wide", "long", "one", "times", "time", "size", "hours", "at"], [
    mAsgs [2, 3, 4] [kLst [], kF 37 [jV 0, jE (kLst [kInt 6, kInt 12, kInt 31])], kF 37 [jV 0, jE (kLst [kInt 3, kInt 9])]],
    mFor (wR1 (jE (kAdd (jE (kInt 1)) (jE (kF 33 [jV 0, jE (kV 1)]))))) (mG 5) [mAppI 2 (kTup [kF 33 [jV 0, jE (kV 3)], kF 37 [jV 0, jE (kLst [kInt 0, kInt 0, kInt 1, kInt 2])], kAdd (jE (kInt 1)) (jE (kF 33 [jV 0, jE (kV 4)]))])],
    mAsg 6 (kB1 bSorted (jE (kLC [7, 8, 9] (wV 2) (mGT [mG 7, mG 8, mG 9]) none (kV 7)))),
    mRet (kT1 tTuple (jE (kLC [10] (wR1 (jE (kB1 bLen (jV 2)))) (mG 10) none (kTup [kIx (jV 6) (jV 10), kIx (jE (kIx (jV 2) (jV 10))) (jE (kInt 1)), kIx (jE (kIx (jV 2) (jV 10))) (jE (kInt 2))]))))]⟩
def k_law_begins : KD := ⟨2, ["loans", "stock", "found", "time", "size", "lent_v", "left", "at"], [
    mAsg 2 (kMul (jE (kLst [kNon])) (jE (kB1 bLen (jV 0)))),
    mFor (wR1 (jE (kInt 103))) (mG 3) [mFor (wR1 (jE (kInt 3))) (mG 4) [mAsgL 5 [7] (wR1 (jE (kB1 bLen (jV 0)))) (mG 7) (some (kAnd [kEq (jE (kIx (jE (kIx (jV 0) (jV 7))) (jE (kInt 1)))) (jV 4), kIsN iNon (jE (kIx (jV 2) (jV 7))), kLt (jV 3) (jE (kAdd (jE (kIx (jV 2) (jV 7))) (jE (kIx (jE (kIx (jV 0) (jV 7))) (jE (kInt 2))))))])) (kV 7), mAsg 6 (kSub (jE (kIx (jV 1) (jV 4))) (jE (kB1 bLen (jV 5)))), mFor (wR1 (jE (kB1 bLen (jV 0)))) (mG 7) [mIf (kAnd [kEq (jE (kIx (jE (kIx (jV 0) (jV 7))) (jE (kInt 1)))) (jV 4), kLe (jE (kIx (jE (kIx (jV 0) (jV 7))) (jE (kInt 0)))) (jV 3), kIs iNon (jE (kIx (jV 2) (jV 7))), kGt (jV 6) (jE (kInt 0))]) [mTgX (mGT [mGS 2 7, mG 6]) (kTup [kV 3, kSub (jV 6) (jE (kInt 1))])] []]]],
    mRet (kT1 tTuple (jV 2))]⟩
def k_law_waits : KD := ⟨2, ["loans", "stock", "rows", "at"], [
    mAsg 2 (kF 3 [jE (kV 0), jE (kV 1)]),
    mRet (kT1 tTuple (jE (kLC [3] (wR1 (jE (kB1 bLen (jV 0)))) (mG 3) none (kIf (kIsN iNon (jE (kIx (jV 2) (jV 3)))) (kSub (jE (kIx (jV 2) (jV 3))) (jE (kIx (jE (kIx (jV 0) (jV 3))) (jE (kInt 0))))) (kNon)))))]⟩
def k_law_first : KD := ⟨4, ["loans", "stock", "size", "wait", "time", "late"], [
    mIf (kEq (jE (kIx (jV 1) (jV 2))) (jE (kInt 0))) [mRet (kNon)] [],
    mFor (wR2 (jE (kIx (jE (kIx (jV 0) (jE (kNeg (jE (kInt 1)))))) (jE (kInt 0)))) (jE (kInt 103))) (mG 4) [mAsg 5 (kIx (jE (kF 45 [jE (kAdd (jV 0) (jE (kTup [kTup [kV 4, kV 2, kInt 1]]))), jE (kV 1)])) (jE (kNeg (jE (kInt 1))))), mIf (kAnd [kIsN iNon (jV 5), kLe (jV 5) (jV 3)]) [mRetV 4] []],
    mRet (kNon)]⟩
def k_law_right : KD := ⟨1, ["cup", "loans", "stock", "turn", "size", "wait", "told", "more", "one", "other", "late", "soon"], [
    mAsgs [1, 2] [kF 21 [jV 0, jE (kInt 6)], kT1 tTuple (jE (kLC [4] (wR1 (jE (kInt 3))) (mG 4) none (kF 37 [jV 0, jE (kLst [kInt 0, kInt 1, kInt 1, kInt 2])])))],
    mFor (wR1 (jE (kInt 3))) (mG 3) [mAsgs [4, 5] [kF 33 [jV 0, jE (kInt 3)], kF 37 [jV 0, jE (kLst [kInt 0, kF 33 [jV 0, jE (kInt 10)], kInt 100])]], mAsg 6 (kF 85 [jE (kV 1), jE (kV 2), jE (kV 4), jE (kV 5)]), mIf (kNot (kF 34 [jE (kV 6), jE (kF 11 [jE (kV 1), jE (kV 2), jE (kV 4), jE (kV 5)])])) [mRet (kBl false)] [], mIf (kAnd [kIsN iNon (jV 6), kLe (jV 6) (jE (kInt 30)), kNe (jE (kCut (jE (kF 222 [jE (kAdd (jV 1) (jE (kTup [kTup [kV 6, kV 4, kInt 1]]))), jE (kV 2)])) none (some (jE (kNeg (jE (kInt 1))))))) (jE (kF 222 [jE (kV 1), jE (kV 2)]))]) [mRet (kBl false)] []],
    mAsg 7 (kAdd (jE (kTup [kAdd (jE (kIx (jV 2) (jE (kInt 0)))) (jE (kInt 1))])) (jE (kCut (jV 2) (some (jE (kInt 1))) none))),
    mAsgs [8, 9] [kF 222 [jE (kV 1), jE (kV 2)], kF 222 [jE (kV 1), jE (kV 7)]],
    mFor (wM (kV 8) (kV 9)) (mGT [mG 10, mG 11]) [mIf (kAnd [kIsN iNon (jV 10), kOr [kIs iNon (jV 11), kGt (jV 11) (jV 10)]]) [mRet (kBl false)] []],
    mRet (kEq (jE (kF 147 [jE (kV 1), jE (kTup [kInt 8, kInt 8, kInt 8])])) (jE (kInt 0)))]⟩
def k_law : KD := ⟨1, ["script", "cup", "turn", "hours", "wait", "many", "loans", "told"], [
    mAsg 1 (kF 9 [jE (kV 0)]),
    mFor (wR1 (jE (kInt 4))) (mG 2) [mIf (kNot (kF 30 [jV 1])) [mRet (kBl false)] []],
    mAsgs [3, 4, 5] [kAdd (jE (kInt 1)) (jE (kF 33 [jV 1, jE (kInt 9)])), kF 33 [jV 1, jE (kInt 12)], kAdd (jE (kInt 1)) (jE (kF 33 [jV 1, jE (kInt 8)]))],
    mAsg 6 (kMul (jE (kTup [kTup [kInt 3, kInt 0, kV 3]])) (jV 5)),
    mAsg 7 (kTup [kF 85 [jE (kV 6), jE (kTup [kInt 1, kInt 0, kInt 0]), jE (kInt 0), jE (kV 4)], kF 85 [jE (kV 6), jE (kTup [kInt 8, kInt 1, kInt 0]), jE (kInt 1), jE (kV 4)], kF 85 [jE (kV 6), jE (kTup [kInt 1, kInt 0, kInt 0]), jE (kInt 2), jE (kV 4)]]),
    mRet (kF 34 [jE (kV 7), jE (kTup [kMax2 (jE (kInt 3)) (jE (kSub (jE (kAdd (jE (kInt 3)) (jE (kMul (jV 5) (jV 3))))) (jV 4))), kInt 3, kNon])])]⟩
def pg : Program := PySem.Challenge.pw_icerink_k81_whole_one_more
def r_is_whole : DRow := ⟨"is_whole", 125, k_is_whole, nth pg 5⟩
def r_is_tuple_of : DRow := ⟨"is_tuple_of", 124, k_is_tuple_of, nth pg 6⟩
def r_fits_loan : DRow := ⟨"fits_loan", 92, k_fits_loan, nth pg 14⟩
def r_fits_loans : DRow := ⟨"fits_loans", 93, k_fits_loans, nth pg 15⟩
def r_fits_stock : DRow := ⟨"fits_stock", 100, k_fits_stock, nth pg 16⟩
def r_need_loans : DRow := ⟨"need_loans", 160, k_need_loans, nth pg 17⟩
def r_need_stock : DRow := ⟨"need_stock", 171, k_need_stock, nth pg 18⟩
def r_need_size : DRow := ⟨"need_size", 169, k_need_size, nth pg 19⟩
def r_lent : DRow := ⟨"lent", 141, k_lent, nth pg 20⟩
def r_waits_of : DRow := ⟨"waits_of", 223, k_waits_of, nth pg 21⟩
def r_longest_in : DRow := ⟨"longest_in", 146, k_longest_in, nth pg 22⟩
def r_waits : DRow := ⟨"waits", 222, k_waits, nth pg 23⟩
def r_longest_wait : DRow := ⟨"longest_wait", 147, k_longest_wait, nth pg 24⟩
def r_need_wait : DRow := ⟨"need_wait", 173, k_need_wait, nth pg 25⟩
def r_first_for : DRow := ⟨"first_for", 85, k_first_for, nth pg 26⟩
def r_law_cup : DRow := ⟨"_law_cup", 9, k_law_cup, nth pg 28⟩
def r_law_roll : DRow := ⟨"_law_roll", 33, k_law_roll, nth pg 29⟩
def r_law_some : DRow := ⟨"_law_some", 37, k_law_some, nth pg 30⟩
def r_law_same : DRow := ⟨"_law_same", 34, k_law_same, nth pg 31⟩
def r_law_loans : DRow := ⟨"_law_loans", 21, k_law_loans, nth pg 32⟩
def r_law_begins : DRow := ⟨"_law_begins", 3, k_law_begins, nth pg 33⟩
def r_law_waits : DRow := ⟨"_law_waits", 45, k_law_waits, nth pg 34⟩
def r_law_first : DRow := ⟨"_law_first", 11, k_law_first, nth pg 35⟩
def r_law_right : DRow := ⟨"_law_right", 30, k_law_right, nth pg 36⟩
def r_law : DRow := ⟨"law", 137, k_law, nth pg 37⟩
def prg : Prg := ⟨[r_is_whole, r_is_tuple_of, r_fits_loan, r_fits_loans, r_fits_stock, r_need_loans, r_need_stock, r_need_size, r_lent, r_waits_of, r_longest_in, r_waits, r_longest_wait, r_need_wait, r_first_for, r_law_cup, r_law_roll, r_law_some, r_law_same, r_law_loans, r_law_begins, r_law_waits, r_law_first, r_law_right, r_law], [("InvalidLoans", 24), ("InvalidNumber", 2)], [("PEOPLE", 8), ("TIMES", 30), ("SIZES", 3), ("HOURS", 9), ("PAIRS", 8), ("WAIT", 100)]⟩
abbrev tab : Ice.Tab := Ice.K81.tab
theorem plain : ∀ ns : List Int, ns.length ≤ 63 → ∃ m outs, Ice.callF tab 40 137 [.val (.scr (ns.map .int))] = .ok (.bl true, m, outs) := Ice.K81.law_ok
theorem one : prg.one = true := by decide +kernel
theorem chks : ∀ r ∈ prg.rows, prg.chk r = true := by
  intro r hr
  have q : (prg.rows.all fun r => prg.chk r) = true := by decide +kernel
  exact List.all_eq_true.mp q r hr
theorem mk {P : Program} {w : World} {K : PySem.W.Frag} {mg : Str → Option Value} {h : Heap} {fa : Addr} {f0 : Addr} {od0 an0 : Option Addr} {sl0 : Array (Option Value)} {kV0 dc0 pm0 cd0 ct0 : Value} {f1 : Addr} {od1 an1 : Option Addr} {sl1 : Array (Option Value)} {kV1 dc1 pm1 cd1 ct1 : Value} {f2 : Addr} {od2 an2 : Option Addr} {sl2 : Array (Option Value)} {kV2 dc2 pm2 cd2 ct2 : Value} {f3 : Addr} {od3 an3 : Option Addr} {sl3 : Array (Option Value)} {kV3 dc3 pm3 cd3 ct3 : Value} {f4 : Addr} {od4 an4 : Option Addr} {sl4 : Array (Option Value)} {kV4 dc4 pm4 cd4 ct4 : Value} {f5 : Addr} {od5 an5 : Option Addr} {sl5 : Array (Option Value)} {kV5 dc5 pm5 cd5 ct5 : Value} {f6 : Addr} {od6 an6 : Option Addr} {sl6 : Array (Option Value)} {kV6 dc6 pm6 cd6 ct6 : Value} {f7 : Addr} {od7 an7 : Option Addr} {sl7 : Array (Option Value)} {kV7 dc7 pm7 cd7 ct7 : Value} {f8 : Addr} {od8 an8 : Option Addr} {sl8 : Array (Option Value)} {kV8 dc8 pm8 cd8 ct8 : Value} {f9 : Addr} {od9 an9 : Option Addr} {sl9 : Array (Option Value)} {kV9 dc9 pm9 cd9 ct9 : Value} {f10 : Addr} {od10 an10 : Option Addr} {sl10 : Array (Option Value)} {kV10 dc10 pm10 cd10 ct10 : Value} {f11 : Addr} {od11 an11 : Option Addr} {sl11 : Array (Option Value)} {kV11 dc11 pm11 cd11 ct11 : Value} {f12 : Addr} {od12 an12 : Option Addr} {sl12 : Array (Option Value)} {kV12 dc12 pm12 cd12 ct12 : Value} {f13 : Addr} {od13 an13 : Option Addr} {sl13 : Array (Option Value)} {kV13 dc13 pm13 cd13 ct13 : Value} {f14 : Addr} {od14 an14 : Option Addr} {sl14 : Array (Option Value)} {kV14 dc14 pm14 cd14 ct14 : Value} {f15 : Addr} {od15 an15 : Option Addr} {sl15 : Array (Option Value)} {kV15 dc15 pm15 cd15 ct15 : Value} {f16 : Addr} {od16 an16 : Option Addr} {sl16 : Array (Option Value)} {kV16 dc16 pm16 cd16 ct16 : Value} {f17 : Addr} {od17 an17 : Option Addr} {sl17 : Array (Option Value)} {kV17 dc17 pm17 cd17 ct17 : Value} {f18 : Addr} {od18 an18 : Option Addr} {sl18 : Array (Option Value)} {kV18 dc18 pm18 cd18 ct18 : Value} {f19 : Addr} {od19 an19 : Option Addr} {sl19 : Array (Option Value)} {kV19 dc19 pm19 cd19 ct19 : Value} {f20 : Addr} {od20 an20 : Option Addr} {sl20 : Array (Option Value)} {kV20 dc20 pm20 cd20 ct20 : Value} {f21 : Addr} {od21 an21 : Option Addr} {sl21 : Array (Option Value)} {kV21 dc21 pm21 cd21 ct21 : Value} {f22 : Addr} {od22 an22 : Option Addr} {sl22 : Array (Option Value)} {kV22 dc22 pm22 cd22 ct22 : Value} {f23 : Addr} {od23 an23 : Option Addr} {sl23 : Array (Option Value)} {kV23 dc23 pm23 cd23 ct23 : Value} {f24 : Addr} {od24 an24 : Option Addr} {sl24 : Array (Option Value)} {kV24 dc24 pm24 cd24 ct24 : Value} {t0 : Tok} {t1 : Tok} {t2 : Tok} {t3 : Tok} {t4 : Tok} {t5 : Tok} {x0 : Addr} {x1 : Addr}
    (X : K.In h) (G : h.Ns mainGlobals mg) (hmg : mg "law" = some (.ref fa)) (a0 : PySem.W.nsIn K mainGlobals "is_whole" = some (some (.ref f0))) (l0 : K.lookup f0 = some ⟨.type "function", od0, .func (PySem.W.fnOf "is_whole" "is_whole" (C8.fnArgs (nth pg 5)) (C8.fnBody (nth pg 5)) (C8.fnScope (nth pg 5)) .none kV0 dc0 pm0 an0 cd0 ct0), sl0⟩) (c0 : PySem.W.codeIn K cd0 "is_whole" = true) (k0 : PySem.W.keepIn K (.ref f0) = true)
    (a1 : PySem.W.nsIn K mainGlobals "is_tuple_of" = some (some (.ref f1))) (l1 : K.lookup f1 = some ⟨.type "function", od1, .func (PySem.W.fnOf "is_tuple_of" "is_tuple_of" (C8.fnArgs (nth pg 6)) (C8.fnBody (nth pg 6)) (C8.fnScope (nth pg 6)) .none kV1 dc1 pm1 an1 cd1 ct1), sl1⟩) (c1 : PySem.W.codeIn K cd1 "is_tuple_of" = true) (k1 : PySem.W.keepIn K (.ref f1) = true)
    (a2 : PySem.W.nsIn K mainGlobals "fits_loan" = some (some (.ref f2))) (l2 : K.lookup f2 = some ⟨.type "function", od2, .func (PySem.W.fnOf "fits_loan" "fits_loan" (C8.fnArgs (nth pg 14)) (C8.fnBody (nth pg 14)) (C8.fnScope (nth pg 14)) .none kV2 dc2 pm2 an2 cd2 ct2), sl2⟩) (c2 : PySem.W.codeIn K cd2 "fits_loan" = true) (k2 : PySem.W.keepIn K (.ref f2) = true)
    (a3 : PySem.W.nsIn K mainGlobals "fits_loans" = some (some (.ref f3))) (l3 : K.lookup f3 = some ⟨.type "function", od3, .func (PySem.W.fnOf "fits_loans" "fits_loans" (C8.fnArgs (nth pg 15)) (C8.fnBody (nth pg 15)) (C8.fnScope (nth pg 15)) .none kV3 dc3 pm3 an3 cd3 ct3), sl3⟩) (c3 : PySem.W.codeIn K cd3 "fits_loans" = true) (k3 : PySem.W.keepIn K (.ref f3) = true)
    (a4 : PySem.W.nsIn K mainGlobals "fits_stock" = some (some (.ref f4))) (l4 : K.lookup f4 = some ⟨.type "function", od4, .func (PySem.W.fnOf "fits_stock" "fits_stock" (C8.fnArgs (nth pg 16)) (C8.fnBody (nth pg 16)) (C8.fnScope (nth pg 16)) .none kV4 dc4 pm4 an4 cd4 ct4), sl4⟩) (c4 : PySem.W.codeIn K cd4 "fits_stock" = true) (k4 : PySem.W.keepIn K (.ref f4) = true)
    (a5 : PySem.W.nsIn K mainGlobals "need_loans" = some (some (.ref f5))) (l5 : K.lookup f5 = some ⟨.type "function", od5, .func (PySem.W.fnOf "need_loans" "need_loans" (C8.fnArgs (nth pg 17)) (C8.fnBody (nth pg 17)) (C8.fnScope (nth pg 17)) .none kV5 dc5 pm5 an5 cd5 ct5), sl5⟩) (c5 : PySem.W.codeIn K cd5 "need_loans" = true) (k5 : PySem.W.keepIn K (.ref f5) = true)
    (a6 : PySem.W.nsIn K mainGlobals "need_stock" = some (some (.ref f6))) (l6 : K.lookup f6 = some ⟨.type "function", od6, .func (PySem.W.fnOf "need_stock" "need_stock" (C8.fnArgs (nth pg 18)) (C8.fnBody (nth pg 18)) (C8.fnScope (nth pg 18)) .none kV6 dc6 pm6 an6 cd6 ct6), sl6⟩) (c6 : PySem.W.codeIn K cd6 "need_stock" = true) (k6 : PySem.W.keepIn K (.ref f6) = true)
    (a7 : PySem.W.nsIn K mainGlobals "need_size" = some (some (.ref f7))) (l7 : K.lookup f7 = some ⟨.type "function", od7, .func (PySem.W.fnOf "need_size" "need_size" (C8.fnArgs (nth pg 19)) (C8.fnBody (nth pg 19)) (C8.fnScope (nth pg 19)) .none kV7 dc7 pm7 an7 cd7 ct7), sl7⟩) (c7 : PySem.W.codeIn K cd7 "need_size" = true) (k7 : PySem.W.keepIn K (.ref f7) = true)
    (a8 : PySem.W.nsIn K mainGlobals "lent" = some (some (.ref f8))) (l8 : K.lookup f8 = some ⟨.type "function", od8, .func (PySem.W.fnOf "lent" "lent" (C8.fnArgs (nth pg 20)) (C8.fnBody (nth pg 20)) (C8.fnScope (nth pg 20)) .none kV8 dc8 pm8 an8 cd8 ct8), sl8⟩) (c8 : PySem.W.codeIn K cd8 "lent" = true) (k8 : PySem.W.keepIn K (.ref f8) = true)
    (a9 : PySem.W.nsIn K mainGlobals "waits_of" = some (some (.ref f9))) (l9 : K.lookup f9 = some ⟨.type "function", od9, .func (PySem.W.fnOf "waits_of" "waits_of" (C8.fnArgs (nth pg 21)) (C8.fnBody (nth pg 21)) (C8.fnScope (nth pg 21)) .none kV9 dc9 pm9 an9 cd9 ct9), sl9⟩) (c9 : PySem.W.codeIn K cd9 "waits_of" = true) (k9 : PySem.W.keepIn K (.ref f9) = true)
    (a10 : PySem.W.nsIn K mainGlobals "longest_in" = some (some (.ref f10))) (l10 : K.lookup f10 = some ⟨.type "function", od10, .func (PySem.W.fnOf "longest_in" "longest_in" (C8.fnArgs (nth pg 22)) (C8.fnBody (nth pg 22)) (C8.fnScope (nth pg 22)) .none kV10 dc10 pm10 an10 cd10 ct10), sl10⟩) (c10 : PySem.W.codeIn K cd10 "longest_in" = true) (k10 : PySem.W.keepIn K (.ref f10) = true)
    (a11 : PySem.W.nsIn K mainGlobals "waits" = some (some (.ref f11))) (l11 : K.lookup f11 = some ⟨.type "function", od11, .func (PySem.W.fnOf "waits" "waits" (C8.fnArgs (nth pg 23)) (C8.fnBody (nth pg 23)) (C8.fnScope (nth pg 23)) .none kV11 dc11 pm11 an11 cd11 ct11), sl11⟩) (c11 : PySem.W.codeIn K cd11 "waits" = true) (k11 : PySem.W.keepIn K (.ref f11) = true)
    (a12 : PySem.W.nsIn K mainGlobals "longest_wait" = some (some (.ref f12))) (l12 : K.lookup f12 = some ⟨.type "function", od12, .func (PySem.W.fnOf "longest_wait" "longest_wait" (C8.fnArgs (nth pg 24)) (C8.fnBody (nth pg 24)) (C8.fnScope (nth pg 24)) .none kV12 dc12 pm12 an12 cd12 ct12), sl12⟩) (c12 : PySem.W.codeIn K cd12 "longest_wait" = true) (k12 : PySem.W.keepIn K (.ref f12) = true)
    (a13 : PySem.W.nsIn K mainGlobals "need_wait" = some (some (.ref f13))) (l13 : K.lookup f13 = some ⟨.type "function", od13, .func (PySem.W.fnOf "need_wait" "need_wait" (C8.fnArgs (nth pg 25)) (C8.fnBody (nth pg 25)) (C8.fnScope (nth pg 25)) .none kV13 dc13 pm13 an13 cd13 ct13), sl13⟩) (c13 : PySem.W.codeIn K cd13 "need_wait" = true) (k13 : PySem.W.keepIn K (.ref f13) = true)
    (a14 : PySem.W.nsIn K mainGlobals "first_for" = some (some (.ref f14))) (l14 : K.lookup f14 = some ⟨.type "function", od14, .func (PySem.W.fnOf "first_for" "first_for" (C8.fnArgs (nth pg 26)) (C8.fnBody (nth pg 26)) (C8.fnScope (nth pg 26)) .none kV14 dc14 pm14 an14 cd14 ct14), sl14⟩) (c14 : PySem.W.codeIn K cd14 "first_for" = true) (k14 : PySem.W.keepIn K (.ref f14) = true)
    (a15 : PySem.W.nsIn K mainGlobals "_law_cup" = some (some (.ref f15))) (l15 : K.lookup f15 = some ⟨.type "function", od15, .func (PySem.W.fnOf "_law_cup" "_law_cup" (C8.fnArgs (nth pg 28)) (C8.fnBody (nth pg 28)) (C8.fnScope (nth pg 28)) .none kV15 dc15 pm15 an15 cd15 ct15), sl15⟩) (c15 : PySem.W.codeIn K cd15 "_law_cup" = true) (k15 : PySem.W.keepIn K (.ref f15) = true)
    (a16 : PySem.W.nsIn K mainGlobals "_law_roll" = some (some (.ref f16))) (l16 : K.lookup f16 = some ⟨.type "function", od16, .func (PySem.W.fnOf "_law_roll" "_law_roll" (C8.fnArgs (nth pg 29)) (C8.fnBody (nth pg 29)) (C8.fnScope (nth pg 29)) .none kV16 dc16 pm16 an16 cd16 ct16), sl16⟩) (c16 : PySem.W.codeIn K cd16 "_law_roll" = true) (k16 : PySem.W.keepIn K (.ref f16) = true)
    (a17 : PySem.W.nsIn K mainGlobals "_law_some" = some (some (.ref f17))) (l17 : K.lookup f17 = some ⟨.type "function", od17, .func (PySem.W.fnOf "_law_some" "_law_some" (C8.fnArgs (nth pg 30)) (C8.fnBody (nth pg 30)) (C8.fnScope (nth pg 30)) .none kV17 dc17 pm17 an17 cd17 ct17), sl17⟩) (c17 : PySem.W.codeIn K cd17 "_law_some" = true) (k17 : PySem.W.keepIn K (.ref f17) = true)
    (a18 : PySem.W.nsIn K mainGlobals "_law_same" = some (some (.ref f18))) (l18 : K.lookup f18 = some ⟨.type "function", od18, .func (PySem.W.fnOf "_law_same" "_law_same" (C8.fnArgs (nth pg 31)) (C8.fnBody (nth pg 31)) (C8.fnScope (nth pg 31)) .none kV18 dc18 pm18 an18 cd18 ct18), sl18⟩) (c18 : PySem.W.codeIn K cd18 "_law_same" = true) (k18 : PySem.W.keepIn K (.ref f18) = true)
    (a19 : PySem.W.nsIn K mainGlobals "_law_loans" = some (some (.ref f19))) (l19 : K.lookup f19 = some ⟨.type "function", od19, .func (PySem.W.fnOf "_law_loans" "_law_loans" (C8.fnArgs (nth pg 32)) (C8.fnBody (nth pg 32)) (C8.fnScope (nth pg 32)) .none kV19 dc19 pm19 an19 cd19 ct19), sl19⟩) (c19 : PySem.W.codeIn K cd19 "_law_loans" = true) (k19 : PySem.W.keepIn K (.ref f19) = true)
    (a20 : PySem.W.nsIn K mainGlobals "_law_begins" = some (some (.ref f20))) (l20 : K.lookup f20 = some ⟨.type "function", od20, .func (PySem.W.fnOf "_law_begins" "_law_begins" (C8.fnArgs (nth pg 33)) (C8.fnBody (nth pg 33)) (C8.fnScope (nth pg 33)) .none kV20 dc20 pm20 an20 cd20 ct20), sl20⟩) (c20 : PySem.W.codeIn K cd20 "_law_begins" = true) (k20 : PySem.W.keepIn K (.ref f20) = true)
    (a21 : PySem.W.nsIn K mainGlobals "_law_waits" = some (some (.ref f21))) (l21 : K.lookup f21 = some ⟨.type "function", od21, .func (PySem.W.fnOf "_law_waits" "_law_waits" (C8.fnArgs (nth pg 34)) (C8.fnBody (nth pg 34)) (C8.fnScope (nth pg 34)) .none kV21 dc21 pm21 an21 cd21 ct21), sl21⟩) (c21 : PySem.W.codeIn K cd21 "_law_waits" = true) (k21 : PySem.W.keepIn K (.ref f21) = true)
    (a22 : PySem.W.nsIn K mainGlobals "_law_first" = some (some (.ref f22))) (l22 : K.lookup f22 = some ⟨.type "function", od22, .func (PySem.W.fnOf "_law_first" "_law_first" (C8.fnArgs (nth pg 35)) (C8.fnBody (nth pg 35)) (C8.fnScope (nth pg 35)) .none kV22 dc22 pm22 an22 cd22 ct22), sl22⟩) (c22 : PySem.W.codeIn K cd22 "_law_first" = true) (k22 : PySem.W.keepIn K (.ref f22) = true)
    (a23 : PySem.W.nsIn K mainGlobals "_law_right" = some (some (.ref f23))) (l23 : K.lookup f23 = some ⟨.type "function", od23, .func (PySem.W.fnOf "_law_right" "_law_right" (C8.fnArgs (nth pg 36)) (C8.fnBody (nth pg 36)) (C8.fnScope (nth pg 36)) .none kV23 dc23 pm23 an23 cd23 ct23), sl23⟩) (c23 : PySem.W.codeIn K cd23 "_law_right" = true) (k23 : PySem.W.keepIn K (.ref f23) = true)
    (a24 : PySem.W.nsIn K mainGlobals "law" = some (some (.ref f24))) (l24 : K.lookup f24 = some ⟨.type "function", od24, .func (PySem.W.fnOf "law" "law" (C8.fnArgs (nth pg 37)) (C8.fnBody (nth pg 37)) (C8.fnScope (nth pg 37)) .none kV24 dc24 pm24 an24 cd24 ct24), sl24⟩) (c24 : PySem.W.codeIn K cd24 "law" = true) (k24 : PySem.W.keepIn K (.ref f24) = true)
    (z0 : PySem.W.nsIn K mainGlobals "len" = some none)
    (z1 : PySem.W.nsIn K mainGlobals "all" = some none)
    (z2 : PySem.W.nsIn K mainGlobals "any" = some none)
    (z3 : PySem.W.nsIn K mainGlobals "sum" = some none)
    (z4 : PySem.W.nsIn K mainGlobals "min" = some none)
    (z5 : PySem.W.nsIn K mainGlobals "max" = some none)
    (z6 : PySem.W.nsIn K mainGlobals "sorted" = some none)
    (z7 : PySem.W.nsIn K mainGlobals "tuple" = some none)
    (z8 : PySem.W.nsIn K mainGlobals "list" = some none)
    (z9 : PySem.W.nsIn K mainGlobals "dict" = some none)
    (z10 : PySem.W.nsIn K mainGlobals "int" = some none)
    (z11 : PySem.W.nsIn K mainGlobals "str" = some none)
    (z12 : PySem.W.nsIn K mainGlobals "bool" = some none)
    (z13 : PySem.W.nsIn K mainGlobals "abs" = some none)
    (z14 : PySem.W.nsIn K mainGlobals "set" = some none)
    (z15 : PySem.W.nsIn K mainGlobals "repr" = some none)
    (z16 : PySem.W.nsIn K mainGlobals "range" = some none)
    (z17 : PySem.W.nsIn K mainGlobals "zip" = some none)
    (z18 : PySem.W.nsIn K mainGlobals "enumerate" = some none)
    (z19 : PySem.W.nsIn K mainGlobals "isinstance" = some none)
    (g0 : PySem.W.nsIn K mainGlobals "PEOPLE" = some (some (.int 8 t0)))
    (g1 : PySem.W.nsIn K mainGlobals "TIMES" = some (some (.int 30 t1)))
    (g2 : PySem.W.nsIn K mainGlobals "SIZES" = some (some (.int 3 t2)))
    (g3 : PySem.W.nsIn K mainGlobals "HOURS" = some (some (.int 9 t3)))
    (g4 : PySem.W.nsIn K mainGlobals "PAIRS" = some (some (.int 8 t4)))
    (g5 : PySem.W.nsIn K mainGlobals "WAIT" = some (some (.int 100 t5)))
    (xa0 : PySem.W.nsIn K mainGlobals "InvalidLoans" = some (some (.ref x0))) (xq0 : PySem.W.excIn K x0 [.type "ValueError", .type "Exception", .type "BaseException", .type "object"] "ValueError.__new__" = true) (xk0 : PySem.W.keepIn K (.ref x0) = true) (xs0 : PySem.W.subIn K (.ref x0) (.type "BaseException") = some true) (xt0 : PySem.W.typeIn K (.ref x0) = some (.type "type"))
    (xa1 : PySem.W.nsIn K mainGlobals "InvalidNumber" = some (some (.ref x1))) (xq1 : PySem.W.excIn K x1 [.type "ValueError", .type "Exception", .type "BaseException", .type "object"] "ValueError.__new__" = true) (xk1 : PySem.W.keepIn K (.ref x1) = true) (xs1 : PySem.W.subIn K (.ref x1) (.type "BaseException") = some true) (xt1 : PySem.W.typeIn K (.ref x1) = some (.type "type")) :
    ∃ fd : FuncData, (∀ (s : Shared) (u : Value), BindsTo s fd ⟨[u], []⟩ [("script", u)]) ∧ ∀ base : Heap, K.In base → base.Ns mainGlobals mg → FnOk P w K mg base (L2.CX P w) 40 fa fd ["script"] (SpF (prg.cfg K) (Ice.callF tab 40) 137) := by
  have D0 : DF K r_is_whole.x r_is_whole.st (r_is_whole.k.N.take r_is_whole.k.np) := ⟨⟨_, _, _, _, _, _, _, _, _, a0, l0, c0, k0⟩, fun _ _ _ _ _ _ us hl => match us, hl with | [_, _, _], _ => rfl⟩
  have D1 : DF K r_is_tuple_of.x r_is_tuple_of.st (r_is_tuple_of.k.N.take r_is_tuple_of.k.np) := ⟨⟨_, _, _, _, _, _, _, _, _, a1, l1, c1, k1⟩, fun _ _ _ _ _ _ us hl => match us, hl with | [_, _, _], _ => rfl⟩
  have D2 : DF K r_fits_loan.x r_fits_loan.st (r_fits_loan.k.N.take r_fits_loan.k.np) := ⟨⟨_, _, _, _, _, _, _, _, _, a2, l2, c2, k2⟩, fun _ _ _ _ _ _ us hl => match us, hl with | [_], _ => rfl⟩
  have D3 : DF K r_fits_loans.x r_fits_loans.st (r_fits_loans.k.N.take r_fits_loans.k.np) := ⟨⟨_, _, _, _, _, _, _, _, _, a3, l3, c3, k3⟩, fun _ _ _ _ _ _ us hl => match us, hl with | [_], _ => rfl⟩
  have D4 : DF K r_fits_stock.x r_fits_stock.st (r_fits_stock.k.N.take r_fits_stock.k.np) := ⟨⟨_, _, _, _, _, _, _, _, _, a4, l4, c4, k4⟩, fun _ _ _ _ _ _ us hl => match us, hl with | [_], _ => rfl⟩
  have D5 : DF K r_need_loans.x r_need_loans.st (r_need_loans.k.N.take r_need_loans.k.np) := ⟨⟨_, _, _, _, _, _, _, _, _, a5, l5, c5, k5⟩, fun _ _ _ _ _ _ us hl => match us, hl with | [_], _ => rfl⟩
  have D6 : DF K r_need_stock.x r_need_stock.st (r_need_stock.k.N.take r_need_stock.k.np) := ⟨⟨_, _, _, _, _, _, _, _, _, a6, l6, c6, k6⟩, fun _ _ _ _ _ _ us hl => match us, hl with | [_, _], _ => rfl⟩
  have D7 : DF K r_need_size.x r_need_size.st (r_need_size.k.N.take r_need_size.k.np) := ⟨⟨_, _, _, _, _, _, _, _, _, a7, l7, c7, k7⟩, fun _ _ _ _ _ _ us hl => match us, hl with | [_], _ => rfl⟩
  have D8 : DF K r_lent.x r_lent.st (r_lent.k.N.take r_lent.k.np) := ⟨⟨_, _, _, _, _, _, _, _, _, a8, l8, c8, k8⟩, fun _ _ _ _ _ _ us hl => match us, hl with | [_, _], _ => rfl⟩
  have D9 : DF K r_waits_of.x r_waits_of.st (r_waits_of.k.N.take r_waits_of.k.np) := ⟨⟨_, _, _, _, _, _, _, _, _, a9, l9, c9, k9⟩, fun _ _ _ _ _ _ us hl => match us, hl with | [_, _], _ => rfl⟩
  have D10 : DF K r_longest_in.x r_longest_in.st (r_longest_in.k.N.take r_longest_in.k.np) := ⟨⟨_, _, _, _, _, _, _, _, _, a10, l10, c10, k10⟩, fun _ _ _ _ _ _ us hl => match us, hl with | [_, _], _ => rfl⟩
  have D11 : DF K r_waits.x r_waits.st (r_waits.k.N.take r_waits.k.np) := ⟨⟨_, _, _, _, _, _, _, _, _, a11, l11, c11, k11⟩, fun _ _ _ _ _ _ us hl => match us, hl with | [_, _], _ => rfl⟩
  have D12 : DF K r_longest_wait.x r_longest_wait.st (r_longest_wait.k.N.take r_longest_wait.k.np) := ⟨⟨_, _, _, _, _, _, _, _, _, a12, l12, c12, k12⟩, fun _ _ _ _ _ _ us hl => match us, hl with | [_, _], _ => rfl⟩
  have D13 : DF K r_need_wait.x r_need_wait.st (r_need_wait.k.N.take r_need_wait.k.np) := ⟨⟨_, _, _, _, _, _, _, _, _, a13, l13, c13, k13⟩, fun _ _ _ _ _ _ us hl => match us, hl with | [_], _ => rfl⟩
  have D14 : DF K r_first_for.x r_first_for.st (r_first_for.k.N.take r_first_for.k.np) := ⟨⟨_, _, _, _, _, _, _, _, _, a14, l14, c14, k14⟩, fun _ _ _ _ _ _ us hl => match us, hl with | [_, _, _, _], _ => rfl⟩
  have D15 : DF K r_law_cup.x r_law_cup.st (r_law_cup.k.N.take r_law_cup.k.np) := ⟨⟨_, _, _, _, _, _, _, _, _, a15, l15, c15, k15⟩, fun _ _ _ _ _ _ us hl => match us, hl with | [_], _ => rfl⟩
  have D16 : DF K r_law_roll.x r_law_roll.st (r_law_roll.k.N.take r_law_roll.k.np) := ⟨⟨_, _, _, _, _, _, _, _, _, a16, l16, c16, k16⟩, fun _ _ _ _ _ _ us hl => match us, hl with | [_, _], _ => rfl⟩
  have D17 : DF K r_law_some.x r_law_some.st (r_law_some.k.N.take r_law_some.k.np) := ⟨⟨_, _, _, _, _, _, _, _, _, a17, l17, c17, k17⟩, fun _ _ _ _ _ _ us hl => match us, hl with | [_, _], _ => rfl⟩
  have D18 : DF K r_law_same.x r_law_same.st (r_law_same.k.N.take r_law_same.k.np) := ⟨⟨_, _, _, _, _, _, _, _, _, a18, l18, c18, k18⟩, fun _ _ _ _ _ _ us hl => match us, hl with | [_, _], _ => rfl⟩
  have D19 : DF K r_law_loans.x r_law_loans.st (r_law_loans.k.N.take r_law_loans.k.np) := ⟨⟨_, _, _, _, _, _, _, _, _, a19, l19, c19, k19⟩, fun _ _ _ _ _ _ us hl => match us, hl with | [_, _], _ => rfl⟩
  have D20 : DF K r_law_begins.x r_law_begins.st (r_law_begins.k.N.take r_law_begins.k.np) := ⟨⟨_, _, _, _, _, _, _, _, _, a20, l20, c20, k20⟩, fun _ _ _ _ _ _ us hl => match us, hl with | [_, _], _ => rfl⟩
  have D21 : DF K r_law_waits.x r_law_waits.st (r_law_waits.k.N.take r_law_waits.k.np) := ⟨⟨_, _, _, _, _, _, _, _, _, a21, l21, c21, k21⟩, fun _ _ _ _ _ _ us hl => match us, hl with | [_, _], _ => rfl⟩
  have D22 : DF K r_law_first.x r_law_first.st (r_law_first.k.N.take r_law_first.k.np) := ⟨⟨_, _, _, _, _, _, _, _, _, a22, l22, c22, k22⟩, fun _ _ _ _ _ _ us hl => match us, hl with | [_, _, _, _], _ => rfl⟩
  have D23 : DF K r_law_right.x r_law_right.st (r_law_right.k.N.take r_law_right.k.np) := ⟨⟨_, _, _, _, _, _, _, _, _, a23, l23, c23, k23⟩, fun _ _ _ _ _ _ us hl => match us, hl with | [_], _ => rfl⟩
  have D24 : DF K r_law.x r_law.st (r_law.k.N.take r_law.k.np) := ⟨⟨_, _, _, _, _, _, _, _, _, a24, l24, c24, k24⟩, fun _ _ _ _ _ _ us hl => match us, hl with | [_], _ => rfl⟩
  have df : ∀ r ∈ prg.rows, DF K r.x r.st (r.k.N.take r.k.np) := by
    intro r hr
    simp only [prg, List.mem_cons, List.not_mem_nil, or_false] at hr
    rcases hr with rfl | rfl | rfl | rfl | rfl | rfl | rfl | rfl | rfl | rfl | rfl | rfl | rfl | rfl | rfl | rfl | rfl | rfl | rfl | rfl | rfl | rfl | rfl | rfl | rfl
    · exact D0
    · exact D1
    · exact D2
    · exact D3
    · exact D4
    · exact D5
    · exact D6
    · exact D7
    · exact D8
    · exact D9
    · exact D10
    · exact D11
    · exact D12
    · exact D13
    · exact D14
    · exact D15
    · exact D16
    · exact D17
    · exact D18
    · exact D19
    · exact D20
    · exact D21
    · exact D22
    · exact D23
    · exact D24
  have xf : ∀ e ∈ prg.ge, XF K e.1 := by
    intro e he
    simp only [prg, List.mem_cons, List.not_mem_nil, or_false] at he
    rcases he with rfl | rfl
    · exact ⟨x0, _, _, _, _, PySem.F.excBase_ValueError, xa0, xq0, xk0, xs0, xt0⟩
    · exact ⟨x1, _, _, _, _, PySem.F.excBase_ValueError, xa1, xq1, xk1, xs1, xt1⟩
  have bl : ∀ x ∈ bNames, PySem.W.nsIn K mainGlobals x = some none := by
    intro x hx
    simp only [bNames, List.mem_cons, List.not_mem_nil, or_false] at hx
    rcases hx with rfl | rfl | rfl | rfl | rfl | rfl | rfl | rfl | rfl | rfl | rfl | rfl | rfl | rfl | rfl | rfl | rfl | rfl | rfl | rfl
    · exact z0
    · exact z1
    · exact z2
    · exact z3
    · exact z4
    · exact z5
    · exact z6
    · exact z7
    · exact z8
    · exact z9
    · exact z10
    · exact z11
    · exact z12
    · exact z13
    · exact z14
    · exact z15
    · exact z16
    · exact z17
    · exact z18
    · exact z19
  have gc : ∀ e ∈ prg.gc, ∃ t, PySem.W.nsIn K mainGlobals e.1 = some (some (.int e.2 t)) := by
    intro e he
    simp only [prg, List.mem_cons, List.not_mem_nil, or_false] at he
    rcases he with rfl | rfl | rfl | rfl | rfl | rfl
    · exact ⟨_, g0⟩
    · exact ⟨_, g1⟩
    · exact ⟨_, g2⟩
    · exact ⟨_, g3⟩
    · exact ⟨_, g4⟩
    · exact ⟨_, g5⟩
  have tb : ∀ r ∈ prg.rows, tab r.id = some (.d r.k.d) := by
    intro r hr
    simp only [prg, List.mem_cons, List.not_mem_nil, or_false] at hr
    rcases hr with rfl | rfl | rfl | rfl | rfl | rfl | rfl | rfl | rfl | rfl | rfl | rfl | rfl | rfl | rfl | rfl | rfl | rfl | rfl | rfl | rfl | rfl | rfl | rfl | rfl <;> rfl
  exact law_fn X G hmg (prgOk X G one chks df xf bl gc tb) (r := r_law) (by simp [prg]) rfl D24 fun _ _ _ _ _ _ s v => .of_eq rfl
end IceS.K81
open PySem PySem.W PyProof.Rows
set_option maxHeartbeats 0 in
theorem PySem.Challenge.cw_icerink_k81_whole_one_more_holds : PySem.Challenge.rw_icerink_k81_whole_one_more.Holds := by
  w_on; o_law; k_head; (case hw => w_witness2)
  k_fill
  refine L2.walk_of (l := PySem.Challenge.rw_icerink_k81_whole_one_more) (n := 63) (k := 40) (x := "script") (CX := fun w => L2.CX PySem.Challenge.rw_icerink_k81_whole_one_more.prog w) (sp := fun w => IceS.SpF (IceS.K81.prg.cfg _) (Ice.callF IceS.K81.tab 40) 137) rfl (by decide) rfl ⟨rfl, by decide, by decide⟩ (fun w h Y => PySem.W.kIn_of Y) ?F (fun _ H a ns hl hO hS => IceS.law_plain IceS.K81.plain H a ns hl hO hS) (fun _ _ _ _ _ hh => by obtain ⟨_, _, _, _, _, _, _, _, _, _, _, _, _, z⟩ := hh)
  case F =>
    intro w mg fa h KX G hmg
    refine' IceS.K81.mk KX G hmg ?y_a0 ?y_l0 ?y_c0 ?y_k0 ?y_a1 ?y_l1 ?y_c1 ?y_k1 ?y_a2 ?y_l2 ?y_c2 ?y_k2 ?y_a3 ?y_l3 ?y_c3 ?y_k3 ?y_a4 ?y_l4 ?y_c4 ?y_k4 ?y_a5 ?y_l5 ?y_c5 ?y_k5 ?y_a6 ?y_l6 ?y_c6 ?y_k6 ?y_a7 ?y_l7 ?y_c7 ?y_k7 ?y_a8 ?y_l8 ?y_c8 ?y_k8 ?y_a9 ?y_l9 ?y_c9 ?y_k9 ?y_a10 ?y_l10 ?y_c10 ?y_k10 ?y_a11 ?y_l11 ?y_c11 ?y_k11 ?y_a12 ?y_l12 ?y_c12 ?y_k12 ?y_a13 ?y_l13 ?y_c13 ?y_k13 ?y_a14 ?y_l14 ?y_c14 ?y_k14 ?y_a15 ?y_l15 ?y_c15 ?y_k15 ?y_a16 ?y_l16 ?y_c16 ?y_k16 ?y_a17 ?y_l17 ?y_c17 ?y_k17 ?y_a18 ?y_l18 ?y_c18 ?y_k18 ?y_a19 ?y_l19 ?y_c19 ?y_k19 ?y_a20 ?y_l20 ?y_c20 ?y_k20 ?y_a21 ?y_l21 ?y_c21 ?y_k21 ?y_a22 ?y_l22 ?y_c22 ?y_k22 ?y_a23 ?y_l23 ?y_c23 ?y_k23 ?y_a24 ?y_l24 ?y_c24 ?y_k24 ?y_z0 ?y_z1 ?y_z2 ?y_z3 ?y_z4 ?y_z5 ?y_z6 ?y_z7 ?y_z8 ?y_z9 ?y_z10 ?y_z11 ?y_z12 ?y_z13 ?y_z14 ?y_z15 ?y_z16 ?y_z17 ?y_z18 ?y_z19 ?y_g0 ?y_g1 ?y_g2 ?y_g3 ?y_g4 ?y_g5 ?y_xa0 ?y_xq0 ?y_xk0 ?y_xs0 ?y_xt0 ?y_xa1 ?y_xq1 ?y_xk1 ?y_xs1 ?y_xt1
    (case y_a0 => k_is)
    (case y_l0 => k_is)
    (case y_c0 => k_is)
    (case y_k0 => k_is)
    (case y_a1 => k_is)
    (case y_l1 => k_is)
    (case y_c1 => k_is)
    (case y_k1 => k_is)
    (case y_a2 => k_is)
    (case y_l2 => k_is)
    (case y_c2 => k_is)
    (case y_k2 => k_is)
    (case y_a3 => k_is)
    (case y_l3 => k_is)
    (case y_c3 => k_is)
    (case y_k3 => k_is)
    (case y_a4 => k_is)
    (case y_l4 => k_is)
    (case y_c4 => k_is)
    (case y_k4 => k_is)
    (case y_a5 => k_is)
    (case y_l5 => k_is)
    (case y_c5 => k_is)
    (case y_k5 => k_is)
    (case y_a6 => k_is)
    (case y_l6 => k_is)
    (case y_c6 => k_is)
    (case y_k6 => k_is)
    (case y_a7 => k_is)
    (case y_l7 => k_is)
    (case y_c7 => k_is)
    (case y_k7 => k_is)
    (case y_a8 => k_is)
    (case y_l8 => k_is)
    (case y_c8 => k_is)
    (case y_k8 => k_is)
    (case y_a9 => k_is)
    (case y_l9 => k_is)
    (case y_c9 => k_is)
    (case y_k9 => k_is)
    (case y_a10 => k_is)
    (case y_l10 => k_is)
    (case y_c10 => k_is)
    (case y_k10 => k_is)
    (case y_a11 => k_is)
    (case y_l11 => k_is)
    (case y_c11 => k_is)
    (case y_k11 => k_is)
    (case y_a12 => k_is)
    (case y_l12 => k_is)
    (case y_c12 => k_is)
    (case y_k12 => k_is)
    (case y_a13 => k_is)
    (case y_l13 => k_is)
    (case y_c13 => k_is)
    (case y_k13 => k_is)
    (case y_a14 => k_is)
    (case y_l14 => k_is)
    (case y_c14 => k_is)
    (case y_k14 => k_is)
    (case y_a15 => k_is)
    (case y_l15 => k_is)
    (case y_c15 => k_is)
    (case y_k15 => k_is)
    (case y_a16 => k_is)
    (case y_l16 => k_is)
    (case y_c16 => k_is)
    (case y_k16 => k_is)
    (case y_a17 => k_is)
    (case y_l17 => k_is)
    (case y_c17 => k_is)
    (case y_k17 => k_is)
    (case y_a18 => k_is)
    (case y_l18 => k_is)
    (case y_c18 => k_is)
    (case y_k18 => k_is)
    (case y_a19 => k_is)
    (case y_l19 => k_is)
    (case y_c19 => k_is)
    (case y_k19 => k_is)
    (case y_a20 => k_is)
    (case y_l20 => k_is)
    (case y_c20 => k_is)
    (case y_k20 => k_is)
    (case y_a21 => k_is)
    (case y_l21 => k_is)
    (case y_c21 => k_is)
    (case y_k21 => k_is)
    (case y_a22 => k_is)
    (case y_l22 => k_is)
    (case y_c22 => k_is)
    (case y_k22 => k_is)
    (case y_a23 => k_is)
    (case y_l23 => k_is)
    (case y_c23 => k_is)
    (case y_k23 => k_is)
    (case y_a24 => k_is)
    (case y_l24 => k_is)
    (case y_c24 => k_is)
    (case y_k24 => k_is)
    (case y_z0 => k_is)
    (case y_z1 => k_is)
    (case y_z2 => k_is)
    (case y_z3 => k_is)
    (case y_z4 => k_is)
    (case y_z5 => k_is)
    (case y_z6 => k_is)
    (case y_z7 => k_is)
    (case y_z8 => k_is)
    (case y_z9 => k_is)
    (case y_z10 => k_is)
    (case y_z11 => k_is)
    (case y_z12 => k_is)
    (case y_z13 => k_is)
    (case y_z14 => k_is)
    (case y_z15 => k_is)
    (case y_z16 => k_is)
    (case y_z17 => k_is)
    (case y_z18 => k_is)
    (case y_z19 => k_is)
    (case y_g0 => k_is)
    (case y_g1 => k_is)
    (case y_g2 => k_is)
    (case y_g3 => k_is)
    (case y_g4 => k_is)
    (case y_g5 => k_is)
    (case y_xa0 => k_is)
    (case y_xq0 => k_exc)
    (case y_xk0 => k_is)
    (case y_xs0 => k_is)
    (case y_xt0 => k_is)
    (case y_xa1 => k_is)
    (case y_xq1 => k_exc)
    (case y_xk1 => k_is)
    (case y_xs1 => k_is)
    (case y_xt1 => k_is)
end
